import PyProof.Rows.All
import Wide.All
import OpenK.AllK
import Wide.FinOn
import HandS.Base
import HandS.Call
import HandS.List
import HandS.Ends
import HandS.Words
import HandS.Exc
import HandS.ExcOwn
import HandS.WordsExc
import HandS.Wide
import HandS.Dict
import HandS.TupAny
import HandS.TupLe
import HandS.Style
import HandS.IsInst
import HandS.Small
import HandS.Text
import HandS.TryOnly
import HandS.Defaults
import HandS.Lambda
import HandS.HeadHook1
import HandS.HeadHook2
import HandS.ExcIs
import HandS.Strs
import HandS.Comp
import HandS.Iter
import HandS.Zip
import HandS.More
import KE.DataMinMax
import HandS.Flt
import HandS.StrSplit
import HandS.HeadHook3
import HandS.EndTab
import KE.KNest
import KE.KStateDown
import HandS.Head0
import HandS.Head1
import HandS.Head2
import HandS.HeadEnd
import HandS.ExcInit
import HandS.ForDict
import HandS.CallSlots
import HandS.Flow
import PyProof.StrBlock2
import KE.GoesMore
import KE.KTurns
import KE.KTupSum
import PySem.Challenge.RW_rumourmart_k25_whole_partings_move_no_be
set_option Elab.async false
set_option linter.all false
set_option maxRecDepth 100000
set_option maxHeartbeats 4000000
set_option Elab.async false
set_option linter.all false
set_option maxRecDepth 100000
set_option maxHeartbeats 4000000
namespace N
open PySem PySem.Spec PyProof.Rows L2

/-- the tables of code objects that stand, and the names of what they hold -/
class TabList where
  T : List (Addr × Str)
/-! ### nice values and stores -/
inductive D where
  | non | bl (b : Bool) | int (i : Int) | str (x : Str) | ref (a : Addr) | ty (n : String) | cls (c : Str) | tup (ds : List D) | rol (ds : List D)

inductive Ob where
  | lst (ds : List D)
  | dic (kvs : List (Key × D))
  | ins (c : Str) (fs : List (Str × D))
  | exc (c : Str) (d : Option Addr)
  | xd (fs : List (Str × D))
  | lok (kvs : List (Key × D))

abbrev Sto := Addr → Option Ob
def put (S : Sto) (a : Addr) (o : Ob) : Sto := fun b => if b = a then some o else S b
theorem put_same {S : Sto} {a : Addr} {o : Ob} : put S a o a = some o := by unfold put; rw [if_pos rfl]
theorem put_ne {S : Sto} {a b : Addr} {o : Ob} (h : b ≠ a) : put S a o b = S b := by unfold put; rw [if_neg h]

variable [TabList]
section
variable (K : PySem.W.Frag)
def TupR (H : Hp) (a : Addr) (vs : List V) : Prop := H a = some (.tup vs) ∨
  ∃ (dd : Option Addr) (sl : Array (Option Value)) (its : List Value) (n : Nat), K.lookup a = some ⟨.type "tuple", dd, .seq its.toArray n, sl⟩ ∧ its.length ≤ sizeLine ∧ Vals vs its
def RolR (H : Hp) (a : Addr) (vs : List V) : Prop := (∃ o, H a = some (.frz o (.lst vs))) ∨
  ∃ (o : Obj) (its : Array Value) (n : Nat), K.lookup a = some o ∧ o.cls = .type "list" ∧ o.dict = none ∧ o.data = .seq its n ∧ its.size ≤ sizeLine ∧ Vals vs its.toList
theorem TupR.sq {K : PySem.W.Frag} {H : Hp} {a : Addr} {vs : List V} (h : TupR K H a vs) : SqT K H a vs := by
  rcases h with h | ⟨dd, sl, its, n, e, z, r⟩
  · exact .inl (.inl h)
  · exact .inr ⟨_, its.toArray, n, e, rfl, rfl, by simpa using z, by simpa using r⟩
theorem RolR.sq {K : PySem.W.Frag} {H : Hp} {a : Addr} {vs : List V} (h : RolR K H a vs) : SqL K H a vs := by
  rcases h with ⟨o, h⟩ | h
  · exact .inl (.inr ⟨o, h⟩)
  · exact .inr h
mutual
inductive VR (H : Hp) : D → V → Prop
  | non : VR H .non .non
  | bl (b : Bool) : VR H (.bl b) (.bl b)
  | int (i : Int) : VR H (.int i) (.int i)
  | str (x : Str) : VR H (.str x) (.str x)
  | ref (a : Addr) : VR H (.ref a) (.ref a)
  | ty (n : String) : VR H (.ty n) (.ty n)
  | cls (c : Str) : VR H (.cls c) (.ref (He.ga K c))
  | tup {a : Addr} {vs : List V} {ds : List D} : TupR K H a vs → VRs H ds vs → VR H (.tup ds) (.ref a)
  | rol {a : Addr} {vs : List V} {ds : List D} : RolR K H a vs → VRs H ds vs → VR H (.rol ds) (.ref a)
inductive VRs (H : Hp) : List D → List V → Prop
  | nil : VRs H [] []
  | cons {d : D} {ds : List D} {v : V} {vs : List V} : VR H d v → VRs H ds vs → VRs H (d :: ds) (v :: vs)
end
/-- what never changes is kept; the tables of code objects stay such -/
structure HExt (H H' : Hp) : Prop where
  tup : ∀ a vs, H a = some (.tup vs) → H' a = some (.tup vs)
  frz : ∀ a o u, H a = some (.frz o u) → H' a = some (.frz o u)
  cod : ∀ a q, H a = some (LamX.CodeO a q) → H' a = some (LamX.CodeO a q)
  tab : LamX.Tabs TabList.T H → LamX.Tabs TabList.T H'
end
/-- what is changed by statements -/
def MutN : Option HO → Prop
  | some (.lst _) => True
  | some (.dK _) => True
  | some (.ins _ _ _) => True
  | _ => False
section
variable {K : PySem.W.Frag} {H H' H1 H2 : Hp}
theorem HExt.refl (H : Hp) : HExt H H := ⟨fun _ _ h => h, fun _ _ _ h => h, fun _ _ h => h, fun h => h⟩
theorem HExt.trans (a : HExt H H1) (b : HExt H1 H2) : HExt H H2 := ⟨fun c v h => b.tup c v (a.tup c v h), fun c o u h => b.frz c o u (a.frz c o u h), fun c q h => b.cod c q (a.cod c q h), fun h => b.tab (a.tab h)⟩
theorem HExt.off {p : Addr} {u : HO} (n : ∀ a o, H a = some o → (∀ vs, o = .tup vs → a ≠ p) ∧ (∀ b v, o = .frz b v → a ≠ p) ∧ (∀ q, o = LamX.CodeO a q → a ≠ p) ∧ ∀ ps, o = .tbl ps → a ≠ p) : HExt H (upd H p u) :=
  ⟨fun a v e => by rw [upd_ne ((n a _ e).1 v rfl)]; exact e, fun a ob w e => by rw [upd_ne ((n a _ e).2.1 ob w rfl)]; exact e, fun a q e => by rw [upd_ne ((n a _ e).2.2.1 q rfl)]; exact e,
   fun h p hp => let ⟨ps, h1, h2, h3⟩ := h p hp; ⟨ps, by rw [upd_ne ((n _ _ h1).2.2.2 ps rfl)]; exact h1, h2, fun pos cv hc => let ⟨c, e1, e2⟩ := h3 pos cv hc; ⟨c, e1, by rw [upd_ne ((n c _ e2).2.2.1 _ rfl)]; exact e2⟩⟩⟩
theorem HExt.new {p : Addr} {o : HO} (h : H p = none) : HExt H (upd H p o) :=
  HExt.off fun a ob e => have na := ne_of_none e h; ⟨fun _ _ => na, fun _ _ _ => na, fun _ _ => na, fun _ _ => na⟩
/-- a change at what is no tuple and not locked -/
theorem HExt.upd {p : Addr} {o u : HO} (h : H p = some o) (m : MutN (some o)) : HExt H (upd H p u) :=
  HExt.off fun a ob e => ⟨fun vs z w => by rw [w, h] at e; cases e; rw [z] at m; exact m, fun b v z w => by rw [w, h] at e; cases e; rw [z] at m; exact m,
    fun q z w => by rw [w, h] at e; cases e; rw [z] at m; exact m, fun ps z w => by rw [w, h] at e; cases e; rw [z] at m; exact m⟩
/-- a lambda is made: the tables grow -/
theorem HExt.lam (x : LamX.ExtN H H') (t : LamX.Tabs TabList.T H') : HExt H H' :=
  ⟨fun a v e => x a _ e (fun _ z => by cases z), fun a o u e => x a _ e (fun _ z => by cases z), fun a q e => x a _ e LamX.codeO_ne, fun _ => t⟩
theorem TupR.ext {a : Addr} {vs : List V} (h : TupR K H a vs) (x : HExt H H') : TupR K H' a vs := h.elim (fun h => .inl (x.tup a vs h)) .inr
theorem RolR.ext {a : Addr} {vs : List V} (h : RolR K H a vs) (x : HExt H H') : RolR K H' a vs := h.elim (fun ⟨o, h⟩ => .inl ⟨o, x.frz a o _ h⟩) .inr
mutual
theorem VR.ext (x : HExt H H') : ∀ {d : D} {v : V}, VR K H d v → VR K H' d v
  | _, _, .non => .non
  | _, _, .bl b => .bl b
  | _, _, .int i => .int i
  | _, _, .str z => .str z
  | _, _, .ref a => .ref a
  | _, _, .ty n => .ty n
  | _, _, .cls n => .cls n
  | _, _, .tup h r => .tup (h.ext x) (VRs.ext x r)
  | _, _, .rol h r => .rol (h.ext x) (VRs.ext x r)
theorem VRs.ext (x : HExt H H') : ∀ {ds : List D} {vs : List V}, VRs K H ds vs → VRs K H' ds vs
  | _, _, .nil => .nil
  | _, _, .cons h r => .cons (VR.ext x h) (VRs.ext x r)
end
theorem VRs.length : ∀ {ds : List D} {vs : List V}, VRs K H ds vs → ds.length = vs.length
  | _, _, .nil => rfl
  | _, _, .cons _ r => congrArg Nat.succ r.length
theorem VRs.get : ∀ {ds : List D} {vs : List V} {i : Nat} {d : D}, VRs K H ds vs → ds[i]? = some d → ∃ v, vs[i]? = some v ∧ VR K H d v
  | _, _, 0, _, .cons r _, e => by simp at e; subst e; exact ⟨_, rfl, r⟩
  | _, _, i + 1, _, .cons _ t, e => by
    obtain ⟨v, h1, h2⟩ := VRs.get (i := i) t (by simpa using e)
    exact ⟨v, by simpa using h1, h2⟩
  | _, _, _, _, .nil, e => by simp at e
theorem VRs.append : ∀ {ds es : List D} {vs ws : List V}, VRs K H ds vs → VRs K H es ws → VRs K H (ds ++ es) (vs ++ ws)
  | _, _, _, _, .nil, s => s
  | _, _, _, _, .cons r t, s => .cons r (VRs.append t s)
theorem VRs.take : ∀ {ds : List D} {vs : List V} (n : Nat), VRs K H ds vs → VRs K H (ds.take n) (vs.take n)
  | _, _, 0, _ => .nil
  | _, _, _ + 1, .nil => .nil
  | _, _, n + 1, .cons r t => .cons r (VRs.take n t)
theorem VRs.drop : ∀ {ds : List D} {vs : List V} (n : Nat), VRs K H ds vs → VRs K H (ds.drop n) (vs.drop n)
  | _, _, 0, r => r
  | _, _, _ + 1, .nil => .nil
  | _, _, n + 1, .cons _ t => VRs.drop n t
theorem VRs.set {d : D} {v : V} (r : VR K H d v) : ∀ {ds : List D} {vs : List V} (i : Nat), VRs K H ds vs → VRs K H (ds.set i d) (vs.set i v)
  | _, _, _, .nil => .nil
  | _, _, 0, .cons _ t => .cons r t
  | _, _, i + 1, .cons q t => .cons q (VRs.set r i t)
theorem VRs.reverse {ds : List D} {vs : List V} (h : VRs K H ds vs) : VRs K H ds.reverse vs.reverse := by
  induction h using VRs.rec (motive_1 := fun _ _ _ => True) with
  | nil => exact .nil
  | cons r t _ ih => simp only [List.reverse_cons]; exact VRs.append ih (.cons r .nil)
  | _ => trivial
theorem VRs.ints : ∀ {ns : List Int} , VRs K H (ns.map D.int) (ns.map V.int)
  | [] => .nil
  | n :: r => .cons (.int n) (VRs.ints (ns := r))

abbrev KVR (K : PySem.W.Frag) (H : Hp) {κ : Type} : List (κ × D) → List (κ × V) → Prop := Paired fun p q => p.1 = q.1 ∧ VR K H p.2 q.2
theorem KVR.ext {κ : Type} (x : HExt H H') {a : List (κ × D)} {b : List (κ × V)} (h : KVR K H a b) : KVR K H' a b := Paired.mapP h fun _ _ z => ⟨z.1, z.2.ext x⟩

/-- an exception that was caught, at a: its class, its dict -/
def excP (a : Addr) (c : Value) (d : Option Addr) : Heap → Prop := fun h => ∃ oe vs, h.get? a = some oe ∧ Zc c d oe ∧ oe.data = .fields vs

/-- the names of all fields of the program's instances -/
def FN : List Str := ["stock", "due", "more", "rest", "parts", "keeper", "stalls", "pockets", "market"]
/-- a class of the program: plain, and no name of a field is its own -/
structure ClsOk (K : PySem.W.Frag) (c : Str) : Prop where
  cl : Cls K (He.ga K c)
  no : ∀ f ∈ FN, NoAttr K (He.ga K c) f
def OR (K : PySem.W.Frag) (H : Hp) (a : Addr) : Ob → Prop
  | .lst ds => ∃ vs, H a = some (.lst vs) ∧ VRs K H ds vs
  | .dic kvs => ∃ ws, H a = some (.dK ws) ∧ KVR K H kvs ws
  | .ins c fs => ∃ dx ws, H a = some (.ins (He.ga K c) dx ws) ∧ KVR K H fs ws ∧ ClsOk K c
  | .exc c d => H a = some (.ext (excP a (.ref (He.ga K c)) d))
  | .xd fs => ∃ ws, H a = some (.xd ws) ∧ KVR K H fs ws
  | .lok kvs => ∃ o ws, H a = some (.frz o (.dK ws)) ∧ KVR K H kvs ws
theorem OR.ext {a : Addr} {o : Ob} (x : HExt H H') (k : H' a = H a) (h : OR K H a o) : OR K H' a o := by
  cases o with
  | lst ds => obtain ⟨vs, e, r⟩ := h; exact ⟨vs, k.trans e, r.ext x⟩
  | dic kvs => obtain ⟨vs, e, r⟩ := h; exact ⟨vs, k.trans e, KVR.ext x r⟩
  | ins C fs => obtain ⟨dx, vs, e, r, c⟩ := h; exact ⟨dx, vs, k.trans e, KVR.ext x r, c⟩
  | exc c d => exact k.trans h
  | xd fs => obtain ⟨vs, e, r⟩ := h; exact ⟨vs, k.trans e, KVR.ext x r⟩
  | lok kvs => obtain ⟨o, vs, e, r⟩ := h; exact ⟨o, vs, k.trans e, KVR.ext x r⟩
theorem OR.some {a : Addr} {o : Ob} (h : OR K H a o) : ∃ u, H a = some u := by
  cases o with
  | lst ds => obtain ⟨vs, e, r⟩ := h; exact ⟨_, e⟩
  | dic kvs => obtain ⟨vs, e, r⟩ := h; exact ⟨_, e⟩
  | ins C fs => obtain ⟨dx, vs, e, r⟩ := h; exact ⟨_, e⟩
  | exc c d => exact ⟨_, h⟩
  | xd fs => obtain ⟨vs, e, r⟩ := h; exact ⟨_, e⟩
  | lok kvs => obtain ⟨o, vs, e, r⟩ := h; exact ⟨_, e⟩
/-- the store is held -/
def SR (K : PySem.W.Frag) (S : Sto) (H : Hp) : Prop := ∀ a o, S a = some o → OR K H a o
theorem SR.fresh {S : Sto} {a : Addr} (h : SR K S H) (e : H a = none) : S a = none := by
  cases q : S a with
  | none => rfl
  | some o =>
    obtain ⟨u, z⟩ := (h a o q).some
    rw [e] at z; cases z
/-- an object laid at a, or changed there -/
theorem SR.put {S : Sto} {a : Addr} {o : Ob} {u : HO} (h : SR K S H) (x : HExt H (upd H a u)) (n : OR K (upd H a u) a o) : SR K (put S a o) (upd H a u) := fun b q e => by
  by_cases hb : b = a
  · subst hb; rw [put_same] at e; cases e; exact n
  · rw [put_ne hb] at e
    exact (h b q e).ext x (upd_ne hb)
/-- a new object that the store does not tell -/
theorem SR.more {S : Sto} {a : Addr} {u : HO} (h : SR K S H) (n : H a = none) : SR K S (upd H a u) := fun b q e => by
  have hb : b ≠ a := fun z => by rw [z, h.fresh n] at e; cases e
  exact (h b q e).ext (.new n) (upd_ne hb)
end

/-! ### environments -/
abbrev Env := List (Option D)
def OVR (K : PySem.W.Frag) (H : Hp) (o : Option D) (v : Option V) : Prop := ∀ d, o = some d → ∃ w, v = some w ∧ VR K H d w
abbrev ER (K : PySem.W.Frag) (H : Hp) : Env → L2.St → Prop := Paired (OVR K H)
section
variable {K : PySem.W.Frag} {H H' : Hp}
theorem ER.ext (x : HExt H H') {e : Env} {s : L2.St} (h : ER K H e s) : ER K H' e s := Paired.mapP h fun _ _ z d q => let ⟨w, a, b⟩ := z d q; ⟨w, a, b.ext x⟩
theorem ER.get : ∀ {e : Env} {s : L2.St} {i : Nat} {d : D}, ER K H e s → e[i]? = some (some d) → ∃ v, s[i]? = some (some v) ∧ VR K H d v
  | _, _, 0, _, .cons r _, q => by
    simp at q; subst q
    obtain ⟨w, a, b⟩ := r _ rfl
    exact ⟨w, by simp [a], b⟩
  | _, _, i + 1, _, .cons _ t, q => by
    obtain ⟨v, h1, h2⟩ := ER.get (i := i) t (by simpa using q)
    exact ⟨v, by simpa using h1, h2⟩
  | _, _, _, _, .nil, q => by simp at q
theorem ER.set {d : D} {v : V} (r : VR K H d v) : ∀ {e : Env} {s : L2.St} (i : Nat), ER K H e s → ER K H (e.set i (some d)) (s.set i (some v))
  | _, _, _, .nil => .nil
  | _, _, 0, .cons _ t => .cons (fun _ q => by cases q; exact ⟨v, rfl, r⟩) t
  | _, _, i + 1, .cons q t => .cons q (ER.set r i t)
theorem ER.unset : ∀ {e : Env} {s : L2.St} (i : Nat), ER K H e s → ER K H (e.set i none) (s.set i none)
  | _, _, _, .nil => .nil
  | _, _, 0, .cons _ t => .cons (fun _ q => by cases q) t
  | _, _, i + 1, .cons q t => .cons q (ER.unset i t)
theorem ER.none : ∀ (n : Nat), ER K H (List.replicate n none) (List.replicate n none)
  | 0 => .nil
  | n + 1 => .cons (fun _ q => by cases q) (ER.none n)
theorem ER.some : ∀ {ds : List D} {vs : List V}, VRs K H ds vs → ER K H (ds.map Option.some) (vs.map Option.some)
  | _, _, .nil => .nil
  | _, _, .cons r t => .cons (fun _ q => by cases q; exact ⟨_, rfl, r⟩) (ER.some t)
theorem ER.app : ∀ {e f : Env} {s t : L2.St}, ER K H e s → ER K H f t → ER K H (e ++ f) (s ++ t)
  | _, _, _, _, .nil, h => h
  | _, _, _, _, .cons r q, h => .cons r (ER.app q h)
end

/-! ### the judgements, lifted -/
abbrev NQ := D → Sto → Prop
abbrev NE := Env → Sto → NQ → Prop
abbrev NT := Env → Sto → (Bool → Sto → Prop) → Prop
abbrev NA := Env → Sto → (List D → Sto → Prop) → Prop
structure NEnds where
  nx : Env → Sto → Prop
  rt : NQ
  bk : Env → Sto → Prop := fun _ _ => False
  ct : Env → Sto → Prop := fun _ _ => False
abbrev NS := NEnds → Env → Sto → Prop
/-- what is wished of an exception: its class, its dict -/
abbrev NW := Str → Option Addr → Env → Sto → Prop

section
variable (K : PySem.W.Frag) (H0 : Hp)
/-- nice state at a heap -/
structure At (H : Hp) (σ : L2.St) (e : Env) (S : Sto) : Prop where
  x : HExt H0 H
  e : ER K H e σ
  s : SR K S H
def lE (m : NE) : TE := fun σ H Q => ∃ e S Q', At K H0 H σ e S ∧ m e S Q' ∧ ∀ d S' v H', HExt H H' → SR K S' H' → VR K H' d v → Q' d S' → Q v H'
def lT (m : NT) : TT := fun σ H Q => ∃ e S Q', At K H0 H σ e S ∧ m e S Q' ∧ ∀ b S' H', HExt H H' → SR K S' H' → Q' b S' → Q b H'
def lA (m : NA) : TA := fun σ H Q => ∃ e S Q', At K H0 H σ e S ∧ m e S Q' ∧ ∀ ds S' vs H', HExt H H' → SR K S' H' → VRs K H' ds vs → Q' ds S' → Q vs H'
structure EndsR (H : Hp) (D' : NEnds) (D : Ends) : Prop where
  nx : ∀ e S σ H', HExt H H' → At K H0 H' σ e S → D'.nx e S → D.nx σ H'
  rt : ∀ d S v H', HExt H H' → SR K S H' → VR K H' d v → D'.rt d S → D.rt v H'
  bk : ∀ e S σ H', HExt H H' → At K H0 H' σ e S → D'.bk e S → D.bk σ H'
  ct : ∀ e S σ H', HExt H H' → At K H0 H' σ e S → D'.ct e S → D.ct σ H'
def lS (m : NS) : TS := fun D σ H => ∃ e S D', At K H0 H σ e S ∧ m D' e S ∧ EndsR K H0 H D' D
def lW (w : NW) : WX := fun u d σ H => ∃ c e S, u = .ref (He.ga K c) ∧ At K H0 H σ e S ∧ w c d e S
end
section
variable {K : PySem.W.Frag} {H0 H H' : Hp} {σ : L2.St} {e : Env} {S : Sto}
theorem EndsR.ext {D' : NEnds} {D : Ends} (k : EndsR K H0 H D' D) (x : HExt H H') : EndsR K H0 H' D' D :=
  ⟨fun e S σ H2 y => k.nx e S σ H2 (x.trans y), fun d S v H2 y => k.rt d S v H2 (x.trans y), fun e S σ H2 y => k.bk e S σ H2 (x.trans y), fun e S σ H2 y => k.ct e S σ H2 (x.trans y)⟩
theorem At.next (a : At K H0 H σ e S) {S' : Sto} (x : HExt H H') (s : SR K S' H') : At K H0 H' σ e S' := ⟨a.x.trans x, a.e.ext x, s⟩
end
theorem _root_.L2.PE.imq {X : Cx} {e : Expr} {t t' : TE} (h : PE X e t) (i : ∀ σ H Q, t' σ H Q → t σ H Q) : PE X e t' := ⟨fun pins s σ H Q I q => h.run pins s σ H Q I (i _ _ _ q)⟩
theorem _root_.L2.PT.imq {X : Cx} {e : Expr} {t t' : TT} (h : PT X e t) (i : ∀ σ H Q, t' σ H Q → t σ H Q) : PT X e t' := ⟨fun pins s σ H Q I q => h.run pins s σ H Q I (i _ _ _ q)⟩
theorem _root_.L2.PW.imq {X : Cx} {e : Expr} {t t' : TT} (h : PW X e t) (i : ∀ σ H Q, t' σ H Q → t σ H Q) : PW X e t' := ⟨fun w pins s σ H Q I q => h.run w pins s σ H Q I (i _ _ _ q)⟩
theorem _root_.L2.PA.imq {X : Cx} {e : List Expr} {t t' : TA} (h : PA X e t) (i : ∀ σ H Q, t' σ H Q → t σ H Q) : PA X e t' := ⟨fun p pins s σ H Q I q => h.run p pins s σ H Q I (i _ _ _ q)⟩
theorem _root_.L2.PS.imq {X : Cx} {e : Stmt} {t t' : TS} (h : PS X e t) (i : ∀ D σ H, t' D σ H → t D σ H) : PS X e t' := ⟨fun pins s σ H D I q => h.run pins s σ H D I (i _ _ _ q)⟩
theorem _root_.L2.PSs.imq {X : Cx} {e : List Stmt} {t t' : TS} (h : PSs X e t) (i : ∀ D σ H, t' D σ H → t D σ H) : PSs X e t' := ⟨fun pins s σ H D I q => h.run pins s σ H D I (i _ _ _ q)⟩
abbrev JE (X : Cx) (H0 : Hp) (e : Expr) (m : NE) : Prop := PE X e (lE X.K H0 m)
abbrev JT (X : Cx) (H0 : Hp) (e : Expr) (m : NT) : Prop := PT X e (lT X.K H0 m)
abbrev JW (X : Cx) (H0 : Hp) (e : Expr) (m : NT) : Prop := PW X e (lT X.K H0 m)
abbrev JA (X : Cx) (H0 : Hp) (es : List Expr) (m : NA) : Prop := PA X es (lA X.K H0 m)
abbrev JS (X : Cx) (H0 : Hp) (st : Stmt) (m : NS) : Prop := PS X st (lS X.K H0 m)
abbrev JSs (X : Cx) (H0 : Hp) (st : List Stmt) (m : NS) : Prop := PSs X st (lS X.K H0 m)
end N

set_option Elab.async false
set_option linter.all false
set_option maxRecDepth 100000
set_option maxHeartbeats 4000000
namespace N
variable [TabList]
open PySem PySem.Spec PyProof.Rows L2

/-! ### nice operators, by values -/
abbrev N2 := D → D → Sto → NQ → Prop
abbrev NL := List D → Sto → NQ → Prop
section
variable (K : PySem.W.Frag)
/-- a reading of the layer follows from a nice one -/
def Op2 (r : R2) (n : N2) : Prop := ∀ x y S Q vx vy H Q', SR K S H → VR K H x vx → VR K H y vy → n x y S Q → (∀ d S' v H', HExt H H' → SR K S' H' → VR K H' d v → Q d S' → Q' v H') → r vx vy H Q'
def OpL (r : List V → Hp → VK → Prop) (n : NL) : Prop := ∀ xs S Q vs H Q', SR K S H → VRs K H xs vs → n xs S Q → (∀ d S' v H', HExt H H' → SR K S' H' → VR K H' d v → Q d S' → Q' v H') → r vs H Q'
end
section
variable {X : Cx} {H0 : Hp} {a b c : Expr} {ma mb mc : NE} {pos : Pos}
def OpN (X : Cx) (f : Value → Value → Sem Value) (n : N2) : Prop := ∃ r, OpR X f r ∧ Op2 X.K r n
def CallN (X : Cx) (f : Value) (n : NL) : Prop := ∃ r, CallR X f r ∧ OpL X.K r n
def IxN (X : Cx) (n : N2) : Prop := ∃ r, IxR X r ∧ Op2 X.K r n
def mOp (n : N2) (ma mb : NE) : NE := fun e S Q => ma e S fun x S1 => mb e S1 fun y S2 => n x y S2 Q
theorem bin_ok {r : R2} {n : N2} (hn : Op2 X.K r n) {σ : L2.St} {H : Hp} {Q : VK} (h : lE X.K H0 (mOp n ma mb) σ H Q) : tOp r (lE X.K H0 ma) (lE X.K H0 mb) σ H Q := by
  obtain ⟨e, S, Q', A, m, k⟩ := h
  refine ⟨e, S, _, A, m, fun x S1 vx H1 x1 s1 rx m1 => ?_⟩
  refine ⟨e, S1, _, A.next x1 s1, m1, fun y S2 vy H2 x2 s2 ry m2 => ?_⟩
  exact hn x y S2 Q' vx vy H2 Q s2 (rx.ext x2) ry m2 fun d S' v H' x3 s3 rd q => k d S' v H' ((x1.trans x2).trans x3) s3 rd q
theorem je_op {op : Operator} {n : N2} (ho : OpN X (binaryOp op) n) (ha : JE X H0 a ma) (hb : JE X H0 b mb) : JE X H0 (.BinOp a op b pos) (mOp n ma mb) := by
  obtain ⟨r, h1, h2⟩ := ho
  exact (pe_op h1 ha hb).imq fun _ _ _ h => bin_ok h2 h
theorem je_cmp {op : CmpOp} {n : N2} (ho : OpN X (compareOp op) n) (ha : JE X H0 a ma) (hb : JE X H0 b mb) (hm : behindInMarks op b = false) : JE X H0 (.Compare a [op] [b] pos) (mOp n ma mb) := by
  obtain ⟨r, h1, h2⟩ := ho
  exact (pe_cmpR h1 ha hb hm).imq fun _ _ _ h => bin_ok h2 h
/-- a value as a test: a bool -/
def mTst (m : NE) : NT := fun e S Q => m e S fun d S' => match d with
  | .bl k => Q k S'
  | _ => False
theorem tst_ok {m : NE} {σ : L2.St} {H : Hp} {Q : Bool → Hp → Prop} (h : lT X.K H0 (mTst m) σ H Q) : lE X.K H0 m σ H fun x H' => ∃ k, x = .bl k ∧ Q k H' := by
  obtain ⟨e, S, Q', A, m1, k⟩ := h
  refine ⟨e, S, _, A, m1, fun d S' v H' x s r q => ?_⟩
  cases d with
  | bl b => cases r; exact ⟨b, rfl, k b S' H' x s q⟩
  | _ => exact q.elim
theorem jt_cmp {op : CmpOp} {n : N2} (ho : OpN X (compareOp op) n) (ha : JE X H0 a ma) (hb : JE X H0 b mb) (hm : behindInMarks op b = false) : JT X H0 (.Compare a [op] [b] pos) (mTst (mOp n ma mb)) := by
  obtain ⟨r, h1, h2⟩ := ho
  refine (pt_cmpR h1 ha hb hm).imq fun σ H Q h => ?_
  obtain ⟨e, S, Q', A, m, k⟩ := h
  exact bin_ok h2 ⟨e, S, _, A, m, fun d S' v H' x s r q => by
    cases d with
    | bl b => cases r; exact ⟨b, rfl, k b S' H' x s q⟩
    | _ => exact q.elim⟩
theorem jt_val {m : NE} (h : JE X H0 a m) (he : ∀ whole, isTrue a X.env whole = (do let v ← whole; standAt a.pos; holding [v] (truthy v)) := by intro _; rfl) : JT X H0 a (mTst m) :=
  (pt_val h he).imq fun _ _ _ q => tst_ok q

/-! ### names, constants -/
def nth : Env → Nat → Option D
  | [], _ => none
  | o :: _, 0 => o
  | _ :: r, n + 1 => nth r n
theorem nth_get : ∀ {e : Env} {i : Nat} {d : D}, nth e i = some d → e[i]? = some (some d)
  | [], _, _, h => by cases h
  | o :: _, 0, d, h => by
    have h' : o = some d := h
    rw [h']; rfl
  | _ :: r, i + 1, d, h => by
    have := nth_get (e := r) (i := i) h
    simpa using this
def mVar (i : Nat) : NE := fun e S Q => match nth e i with
  | some d => Q d S
  | none => False
theorem je_var {i : Nat} {x : Str} (hN : X.N[i]? = some x := by rfl) (hv : Vis X.env.scope x := by first | exact Or.inl rfl | exact Or.inr (Or.inl rfl) | exact Or.inr (Or.inr rfl)) (hd : (x == ("__debug__" : Str)) = false := by decide +kernel) (hcd : (x == ("__classdict__" : Str)) = false := by decide +kernel) : JE X H0 (.Name x pos) (mVar i) := by
  refine (pe_var (pos := pos) hN hv hd hcd).imq fun σ H Q h => ?_
  obtain ⟨e, S, Q', A, m, k⟩ := h
  unfold mVar at m
  split at m
  · rename_i d hd
    obtain ⟨v, h1, h2⟩ := A.e.get (nth_get hd)
    exact ⟨v, h1, k d S v H (.refl H) A.s h2 m⟩
  · exact m.elim
def mC (d : D) : NE := fun _ S Q => Q d S
theorem c_ok {d : D} {v : V} (r : ∀ H, VR X.K H d v) {σ : L2.St} {H : Hp} {Q : VK} (h : lE X.K H0 (mC d) σ H Q) : Q v H := by
  obtain ⟨e, S, Q', A, m, k⟩ := h
  exact k d S v H (.refl H) A.s (r H) m
theorem je_int {i : Int} {j} : JE X H0 (.Constant (.int i) j pos) (mC (.int i)) := pe_int.imq fun _ _ _ h => c_ok (fun _ => .int i) h
theorem je_bl {i : Bool} {j} : JE X H0 (.Constant (.bool i) j pos) (mC (.bl i)) := pe_bl.imq fun _ _ _ h => c_ok (fun _ => .bl i) h
theorem je_non {j} : JE X H0 (.Constant .none j pos) (mC .non) := pe_non.imq fun _ _ _ h => c_ok (fun _ => .non) h
theorem je_str {x : Str} {j} : JE X H0 (.Constant (.str x) j pos) (mC (.str x)) := pe_str.imq fun _ _ _ h => c_ok (fun _ => .str x) h
theorem je_glob {x : Str} {v : V} {u : Value} {d : D} (hm : X.mg x = some u) (r : RelV v u) (q : ∀ H, VR X.K H d v) (hg : Gl X x := by rfl) (hd : (x == ("__debug__" : Str)) = false := by decide +kernel) : JE X H0 (.Name x pos) (mC d) :=
  (pe_glob hg hm r hd).imq fun _ _ _ h => c_ok q h
theorem je_bltn {x : Str} {v : V} {u : Value} {d : D} (hm : X.mg x = none) (hv : bootBuiltins x = some u) (r : RelV v u) (q : ∀ H, VR X.K H d v) (hg : Gl X x := by rfl) (hn : x ≠ "__name__" := by decide +kernel) (hd : (x == ("__debug__" : Str)) = false := by decide +kernel) : JE X H0 (.Name x pos) (mC d) :=
  (pe_bltn hg hm hv r hn hd).imq fun _ _ _ h => c_ok q h

/-! ### and, or, not, if -/
variable {ta tb tc : NT} {rest : List Expr}
def mAnd (t u : NT) : NT := fun e S Q => t e S fun c S1 => match c with
  | true => u e S1 Q
  | false => Q false S1
def mOr (t u : NT) : NT := fun e S Q => t e S fun c S1 => match c with
  | true => Q true S1
  | false => u e S1 Q
def mNot (t : NT) : NT := fun e S Q => t e S fun c S1 => Q (!c) S1
theorem jw_and1 (ha : JT X H0 a ta) : JW X H0 (.BoolOp .And [a] pos) ta := pw_and1 ha
theorem jw_or1 (ha : JT X H0 a ta) : JW X H0 (.BoolOp .Or [a] pos) ta := pw_or1 ha
theorem jw_and (ha : JT X H0 a ta) (hb : JW X H0 (.BoolOp .And (b :: rest) pos) tb) : JW X H0 (.BoolOp .And (a :: b :: rest) pos) (mAnd ta tb) := by
  refine (pw_and ha hb).imq fun σ H Q h => ?_
  obtain ⟨e, S, Q', A, m, k⟩ := h
  refine ⟨e, S, _, A, m, fun c S1 H1 x1 s1 q => ?_⟩
  cases c with
  | true => exact iteT ⟨e, S1, Q', A.next x1 s1, q, fun b S' H' x2 s2 => k b S' H' (x1.trans x2) s2⟩
  | false => exact iteF (k false S1 H1 x1 s1 q)
theorem jw_or (ha : JT X H0 a ta) (hb : JW X H0 (.BoolOp .Or (b :: rest) pos) tb) : JW X H0 (.BoolOp .Or (a :: b :: rest) pos) (mOr ta tb) := by
  refine (pw_or ha hb).imq fun σ H Q h => ?_
  obtain ⟨e, S, Q', A, m, k⟩ := h
  refine ⟨e, S, _, A, m, fun c S1 H1 x1 s1 q => ?_⟩
  cases c with
  | true => exact iteT (k true S1 H1 x1 s1 q)
  | false => exact iteF ⟨e, S1, Q', A.next x1 s1, q, fun b S' H' x2 s2 => k b S' H' (x1.trans x2) s2⟩
theorem jt_w (h : JW X H0 a ta) : JT X H0 a ta := h.pt
theorem jt_not (ha : JT X H0 a ta) : JT X H0 (.UnaryOp .Not a pos) (mNot ta) := by
  refine (pt_not ha).imq fun σ H Q h => ?_
  obtain ⟨e, S, Q', A, m, k⟩ := h
  exact ⟨e, S, _, A, m, fun c S1 H1 x1 s1 q => k _ S1 H1 x1 s1 q⟩
/-- as values, all but the last of them bools -/
def mAndV (m n : NE) : NE := fun e S Q => m e S fun d S1 => match d with
  | .bl true => n e S1 Q
  | .bl false => Q (.bl false) S1
  | _ => False
def mOrV (m n : NE) : NE := fun e S Q => m e S fun d S1 => match d with
  | .bl true => Q (.bl true) S1
  | .bl false => n e S1 Q
  | _ => False
def mNotV (m : NE) : NE := fun e S Q => m e S fun d S1 => match d with
  | .bl k => Q (.bl (!k)) S1
  | _ => False
theorem je_one {op} (h : JE X H0 a ma) : JE X H0 (.BoolOp op [a] pos) ma := pe_one h
theorem je_and (ha : JE X H0 a ma) (hb : JE X H0 (.BoolOp .And (b :: rest) pos) mb) : JE X H0 (.BoolOp .And (a :: b :: rest) pos) (mAndV ma mb) := by
  refine (pe_and ha hb).imq fun σ H Q h => ?_
  obtain ⟨e, S, Q', A, m, k⟩ := h
  refine ⟨e, S, _, A, m, fun d S1 v H1 x1 s1 r q => ?_⟩
  cases d with
  | bl c =>
    cases r
    cases c with
    | true => exact ⟨true, rfl, iteT ⟨e, S1, Q', A.next x1 s1, q, fun d S' v H' x2 s2 => k d S' v H' (x1.trans x2) s2⟩⟩
    | false => exact ⟨false, rfl, iteF (k _ S1 _ H1 x1 s1 (.bl false) q)⟩
  | _ => exact q.elim
theorem je_or (ha : JE X H0 a ma) (hb : JE X H0 (.BoolOp .Or (b :: rest) pos) mb) : JE X H0 (.BoolOp .Or (a :: b :: rest) pos) (mOrV ma mb) := by
  refine (pe_or ha hb).imq fun σ H Q h => ?_
  obtain ⟨e, S, Q', A, m, k⟩ := h
  refine ⟨e, S, _, A, m, fun d S1 v H1 x1 s1 r q => ?_⟩
  cases d with
  | bl c =>
    cases r
    cases c with
    | true => exact ⟨true, rfl, iteT (k _ S1 _ H1 x1 s1 (.bl true) q)⟩
    | false => exact ⟨false, rfl, iteF ⟨e, S1, Q', A.next x1 s1, q, fun d S' v H' x2 s2 => k d S' v H' (x1.trans x2) s2⟩⟩
  | _ => exact q.elim
theorem je_not (ha : JE X H0 a ma) : JE X H0 (.UnaryOp .Not a pos) (mNotV ma) := by
  refine (pe_not ha).imq fun σ H Q h => ?_
  obtain ⟨e, S, Q', A, m, k⟩ := h
  refine ⟨e, S, _, A, m, fun d S1 v H1 x1 s1 r q => ?_⟩
  cases d with
  | bl c => cases r; exact ⟨c, rfl, k _ S1 _ H1 x1 s1 (.bl _) q⟩
  | _ => exact q.elim
def mIf (t : NT) (m n : NE) : NE := fun e S Q => t e S fun c S1 => match c with
  | true => m e S1 Q
  | false => n e S1 Q
theorem je_if (hc : JT X H0 c tc) (ha : JE X H0 a ma) (hb : JE X H0 b mb) : JE X H0 (.IfExp c a b pos) (mIf tc ma mb) := by
  refine (pe_ifExp hc ha hb).imq fun σ H Q h => ?_
  obtain ⟨e, S, Q', A, m, k⟩ := h
  refine ⟨e, S, _, A, m, fun c S1 H1 x1 s1 q => ?_⟩
  cases c with
  | true => exact iteT ⟨e, S1, Q', A.next x1 s1, q, fun d S' v H' x2 s2 => k d S' v H' (x1.trans x2) s2⟩
  | false => exact iteF ⟨e, S1, Q', A.next x1 s1, q, fun d S' v H' x2 s2 => k d S' v H' (x1.trans x2) s2⟩

/-! ### chains -/
def mChain (n n' : N2) (ma mb mc : NE) : NE := fun e S Q => ma e S fun x S1 => mb e S1 fun y S2 => n x y S2 fun z S3 => match z with
  | .bl true => mc e S3 fun u S4 => n' y u S4 Q
  | .bl false => Q (.bl false) S3
  | _ => False
theorem je_chain {op op' : CmpOp} {n n' : N2} (ho : OpN X (compareOp op) n) (ho' : OpN X (compareOp op') n') (ha : JE X H0 a ma) (hb : JE X H0 b mb) (hc : JE X H0 c mc)
    (h1 : lastMarks [op, op'] [b, c] = false := by with_unfolding_all rfl) : JE X H0 (.Compare a [op, op'] [b, c] pos) (mChain n n' ma mb mc) := by
  obtain ⟨r, h3, h4⟩ := ho
  obtain ⟨r', h5, h6⟩ := ho'
  refine L2.PE.imq (pe_chain h3 h5 ha hb hc h1) fun σ H Q h => ?_
  obtain ⟨e, S, Q', A, m, k⟩ := h
  refine ⟨e, S, _, A, m, fun x S1 vx H1 x1 s1 rx m1 => ?_⟩
  refine ⟨e, S1, _, A.next x1 s1, m1, fun y S2 vy H2 x2 s2 ry m2 => ?_⟩
  refine h4 x y S2 _ vx vy H2 _ s2 (rx.ext x2) ry m2 fun z S3 vz H3 x3 s3 rz m3 => ?_
  cases z with
  | bl t =>
    cases rz
    have x13 := (x1.trans x2).trans x3
    cases t with
    | true =>
      refine ⟨true, rfl, iteT ?_⟩
      refine ⟨e, S3, _, A.next x13 s3, m3, fun u S4 vu H4 x4 s4 ru m4 => ?_⟩
      exact h6 y u S4 _ vy vu H4 _ s4 ((ry.ext x3).ext x4) ru m4 fun d S' v H' x5 s5 rd q => k d S' v H' ((x13.trans x4).trans x5) s5 rd q
    | false => exact ⟨false, rfl, iteF (k _ S3 _ H3 x13 s3 (.bl false) m3)⟩
  | _ => exact m3.elim

/-! ### arguments, displays -/
variable {es : List Expr} {mr : NA}
def mNil : NA := fun _ S Q => Q [] S
def mCons (m : NE) (r : NA) : NA := fun e S Q => m e S fun x S1 => r e S1 fun xs S2 => Q (x :: xs) S2
theorem ja_nil : JA X H0 [] mNil := by
  refine pa_nil.imq fun σ H Q h => ?_
  obtain ⟨e, S, Q', A, m, k⟩ := h
  exact k [] S [] H (.refl H) A.s .nil m
theorem ja_cons (ha : JE X H0 a ma) (hr : JA X H0 es mr) (hs : starEach (a :: es) X.env = (false, eval a X.env) :: starEach es X.env := by rfl) : JA X H0 (a :: es) (mCons ma mr) := by
  refine (pa_cons ha hr hs).imq fun σ H Q h => ?_
  obtain ⟨e, S, Q', A, m, k⟩ := h
  refine ⟨e, S, _, A, m, fun x S1 vx H1 x1 s1 rx m1 => ?_⟩
  exact ⟨e, S1, _, A.next x1 s1, m1, fun ys S2 vs H2 x2 s2 rs m2 => k _ S2 _ H2 (x1.trans x2) s2 (.cons (rx.ext x2) rs) m2⟩
def mTup (r : NA) : NE := fun e S Q => r e S fun ds S1 => ds.length ≤ sizeLine ∧ Q (.tup ds) S1
def mLst (r : NA) : NE := fun e S Q => r e S fun ds S1 => ds.length ≤ sizeLine ∧ ∀ p, S1 p = none → Q (.ref p) (put S1 p (.lst ds))
theorem je_tup {k} (h : JA X H0 es mr) : JE X H0 (.Tuple es k pos) (mTup mr) := by
  refine (pe_tup h).imq fun σ H Q h => ?_
  obtain ⟨e, S, Q', A, m, k⟩ := h
  refine ⟨e, S, _, A, m, fun ds S1 vs H1 x1 s1 rs q => ?_⟩
  refine ⟨by rw [← rs.length]; exact q.1, fun p np => ?_⟩
  exact k _ S1 _ _ (x1.trans (.new np)) (s1.more np) (.tup (.inl upd_same) (rs.ext (.new np))) q.2
theorem lst_ok {S1 : Sto} {H1 : Hp} {p : Addr} {ds : List D} {vs : List V} (s1 : SR X.K S1 H1) (np : H1 p = none) (rs : VRs X.K H1 ds vs) : SR X.K (put S1 p (.lst ds)) (upd H1 p (.lst vs)) :=
  s1.put (.new np) ⟨vs, upd_same, rs.ext (.new np)⟩
theorem je_lst (h : JA X H0 es mr) : JE X H0 (.List es pos) (mLst mr) := by
  refine (pe_lst h).imq fun σ H Q h => ?_
  obtain ⟨e, S, Q', A, m, k⟩ := h
  refine ⟨e, S, _, A, m, fun ds S1 vs H1 x1 s1 rs q => ?_⟩
  refine ⟨by rw [← rs.length]; exact q.1, fun p np => ?_⟩
  exact k _ _ _ _ (x1.trans (.new np)) (lst_ok s1 np rs) (.ref p) (q.2 p (s1.fresh np))
/-- a dict with written keys -/
def mDic0 : NE := fun _ S Q => ∀ p, S p = none → Q (.ref p) (put S p (.dic []))
theorem je_dic0 : JE X H0 (.Dict [] [] pos) mDic0 := by
  refine pe_dnewK.imq fun σ H Q h => ?_
  obtain ⟨e, S, Q', A, m, k⟩ := h
  exact fun p np => k _ _ _ _ (.new np) (A.s.put (o := .dic []) (.new np) ⟨[], upd_same, .nil⟩) (.ref p) (m p (A.s.fresh np))
end
end N

set_option Elab.async false
set_option linter.all false
set_option maxRecDepth 100000
set_option maxHeartbeats 4000000
namespace N
variable [TabList]
open PySem PySem.Spec PyProof.Rows L2

/-! ### reading a nice value -/
section
variable {K : PySem.W.Frag} {H : Hp}
theorem VRs.cons_inv {d : D} {ds : List D} {vs : List V} (h : VRs K H (d :: ds) vs) : ∃ v ws, vs = v :: ws ∧ VR K H d v ∧ VRs K H ds ws := by
  cases h with
  | cons a b => exact ⟨_, _, rfl, a, b⟩
theorem VRs.nil_inv {vs : List V} (h : VRs K H [] vs) : vs = [] := by cases h; rfl
end
def isBit (n : Nat) (i : Int) : Prop := i.natAbs < 2 ^ n
/-- products that the model makes -/
def MulOk (i j : Int) : Prop := i.natAbs < 2 ^ 64 ∨ j.natAbs < 2 ^ 64 ∨ (i.natAbs < 2 ^ 4000 ∧ j.natAbs < 2 ^ 4000)
def rMulN : R2 := fun x y H Q => (rI CMul (fun i j => .int (i * j)) x y H Q) ∨ (rI CMulW (fun i j => .int (i * j)) x y H Q)
section
variable {X : Cx}
theorem op_mulN : OpR X (binaryOp .Mult) rMulN := op_mul.or op_mulW
theorem MulOk.imp {i j : Int} {Q : VK} {H : Hp} (h : MulOk i j) (q : Q (.int (i * j)) H) : rMulN (.int i) (.int j) H Q := by
  rcases h with h | h | ⟨h1, h2⟩
  · exact .inl ⟨i, j, rfl, rfl, .inl (by have : ((2 ^ 64 : Nat) : Int) = (2 : Int) ^ 64 := by norm_cast
                                         omega), q⟩
  · exact .inl ⟨i, j, rfl, rfl, .inr (by have : ((2 ^ 64 : Nat) : Int) = (2 : Int) ^ 64 := by norm_cast
                                         omega), q⟩
  · exact .inr ⟨i, j, rfl, rfl, wide_mul h1 h2 (by decide) (by decide) (by decide), q⟩

/-! ### arithmetic -/
def nAdd : N2 := fun x y S Q => match x, y with
  | .int i, .int j => Q (.int (i + j)) S
  | .str a, .str b => a.length + b.length ≤ sizeLine ∧ Q (.str (a ++ b)) S
  | .tup a, .tup b => a.length + b.length ≤ sizeLine ∧ Q (.tup (a ++ b)) S
  | .ref a, .ref b => (match S a, S b with
    | some (.lst xs), some (.lst ys) => xs.length + ys.length ≤ sizeLine ∧ ∀ p, S p = none → Q (.ref p) (put S p (.lst (xs ++ ys)))
    | _, _ => False)
  | _, _ => False
theorem SR.lst {K : PySem.W.Frag} {S : Sto} {H : Hp} {a : Addr} {ds : List D} (h : SR K S H) (e : S a = some (.lst ds)) : ∃ vs, H a = some (.lst vs) ∧ VRs K H ds vs := h a _ e
theorem SR.ins {K : PySem.W.Frag} {S : Sto} {H : Hp} {a : Addr} {c : Str} {fs : List (Str × D)} (h : SR K S H) (e : S a = some (.ins c fs)) : ∃ dx ws, H a = some (.ins (He.ga K c) dx ws) ∧ KVR K H fs ws ∧ ClsOk K c := h a _ e
theorem SR.dic {K : PySem.W.Frag} {S : Sto} {H : Hp} {a : Addr} {fs : List (Key × D)} (h : SR K S H) (e : S a = some (.dic fs)) : ∃ ws, H a = some (.dK ws) ∧ KVR K H fs ws := h a _ e
theorem opN_add : OpN X (binaryOp .Add) nAdd := by
  refine ⟨_, op_add.or (op_add_str.or (op_catA.or op_cat)), fun x y S Q vx vy H Q' s rx ry n k => ?_⟩
  unfold nAdd at n
  split at n
  · rename_i i j
    cases rx; cases ry
    exact .inl ⟨i, j, rfl, rfl, k _ _ _ _ (.refl H) s (.int _) n⟩
  · rename_i a b
    cases rx; cases ry
    exact .inr (.inl ⟨a, b, rfl, rfl, n.1, k _ _ _ _ (.refl H) s (.str _) n.2⟩)
  · rename_i a b
    cases rx with
    | tup t1 r1 =>
      rename_i p1 vs
      cases ry with
      | tup t2 r2 =>
        rename_i p2 ws
        refine .inr (.inr (.inl ⟨p1, p2, vs, ws, rfl, rfl, t1.sq, t2.sq, by rw [← r1.length, ← r2.length]; exact n.1, fun e => ?_, fun _ e => ?_, fun _ _ p np => ?_⟩))
        · subst e
          have : a = [] := by cases r1; rfl
          subst this
          exact k _ _ _ _ (.refl H) s (.tup t2 r2) n.2
        · subst e
          have : b = [] := by cases r2; rfl
          subst this
          refine k _ _ _ _ (.refl H) s ?_ n.2
          rw [List.append_nil]
          exact .tup t1 r1
        · exact k _ _ _ _ (.new np) (s.more np) (.tup (.inl upd_same) ((r1.append r2).ext (.new np))) n.2
  · rename_i a b
    cases rx; cases ry
    split at n
    · rename_i xs ys e1 e2
      obtain ⟨vs, h1, r1⟩ := s.lst e1
      obtain ⟨ws, h2, r2⟩ := s.lst e2
      refine .inr (.inr (.inr ⟨a, b, vs, ws, rfl, rfl, h1, h2, by rw [← r1.length, ← r2.length]; exact n.1, fun p np => ?_⟩))
      exact k _ _ _ _ (.new np) (lst_ok s np (r1.append r2)) (.ref p) (n.2 p (s.fresh np))
    · exact n.elim
  · exact n.elim
/-- an operator on two ints -/
def nInt (C : Int → Int → Prop) (g : Int → Int → D) : N2 := fun x y S Q => match x, y with
  | .int i, .int j => C i j ∧ Q (g i j) S
  | _, _ => False
theorem opN_int {f : Value → Value → Sem Value} {C C' : Int → Int → Prop} {g : Int → Int → V} {g' : Int → Int → D} (ho : OpR X f (rI C g)) (hc : ∀ i j, C' i j → C i j) (hg : ∀ H i j, VR X.K H (g' i j) (g i j)) : OpN X f (nInt C' g') := by
  refine ⟨_, ho, fun x y S Q vx vy H Q' s rx ry n k => ?_⟩
  unfold nInt at n
  split at n
  · rename_i i j
    cases rx; cases ry
    exact ⟨i, j, rfl, rfl, hc i j n.1, k _ _ _ _ (.refl H) s (hg H i j) n.2⟩
  · exact n.elim
def nInt0 (g : Int → Int → D) : N2 := fun x y S Q => match x, y with
  | .int i, .int j => Q (g i j) S
  | _, _ => False
theorem opN_int0 {f : Value → Value → Sem Value} {g : Int → Int → V} {g' : Int → Int → D} (ho : OpR X f (rI0 g)) (hg : ∀ H i j, VR X.K H (g' i j) (g i j)) : OpN X f (nInt0 g') := by
  refine ⟨_, ho, fun x y S Q vx vy H Q' s rx ry n k => ?_⟩
  unfold nInt0 at n
  split at n
  · rename_i i j
    cases rx; cases ry
    exact ⟨i, j, rfl, rfl, k _ _ _ _ (.refl H) s (hg H i j) n⟩
  · exact n.elim
abbrev nSub : N2 := nInt0 fun i j => .int (i - j)
theorem opN_sub : OpN X (binaryOp .Sub) nSub := opN_int0 op_sub fun _ _ _ => .int _
abbrev nMul : N2 := nInt MulOk fun i j => .int (i * j)
theorem opN_mul : OpN X (binaryOp .Mult) nMul := by
  refine ⟨_, op_mulN, fun x y S Q vx vy H Q' s rx ry n k => ?_⟩
  unfold nMul nInt at n
  split at n
  · rename_i i j
    cases rx; cases ry
    exact n.1.imp (k _ _ _ _ (.refl H) s (.int _) n.2)
  · exact n.elim
def DivOk (_ j : Int) : Prop := 0 < j ∧ j.natAbs < 2 ^ 4000
abbrev nDiv : N2 := nInt DivOk fun i j => .int (i / j)
theorem opN_div : OpN X (binaryOp .FloorDiv) nDiv := opN_int op_fdivW (fun i j h => wide_div (i := i) h.1 h.2 (by decide) (by decide)) fun _ _ _ => .int _
abbrev nMod : N2 := nInt (fun _ j => 0 < j) fun i j => .int (i % j)
theorem opN_mod : OpN X (binaryOp .Mod) nMod := opN_int op_mod (fun _ _ h => h) fun _ _ _ => .int _
def PowOk (i j : Int) : Prop := 0 ≤ j ∧ j ≤ 1000000 ∧ i.natAbs < 2 ^ 64
abbrev nPow : N2 := nInt PowOk fun i j => .int (i ^ j.toNat)
theorem opN_pow : OpN X (binaryOp .Pow) nPow := opN_int op_pow (fun _ _ h => h) fun _ _ _ => .int _

/-! ### comparisons -/
abbrev nLt : N2 := nInt0 fun i j => .bl (decide (i < j))
abbrev nLe : N2 := nInt0 fun i j => .bl (decide (i ≤ j))
abbrev nGt : N2 := nInt0 fun i j => .bl (decide (j < i))
abbrev nGe : N2 := nInt0 fun i j => .bl (decide (j ≤ i))
theorem opN_lt : OpN X (compareOp .Lt) nLt := opN_int0 op_lt fun _ _ _ => .bl _
theorem opN_le : OpN X (compareOp .LtE) nLe := opN_int0 op_le fun _ _ _ => .bl _
theorem opN_gt : OpN X (compareOp .Gt) nGt := opN_int0 op_gt fun _ _ _ => .bl _
theorem opN_ge : OpN X (compareOp .GtE) nGe := opN_int0 op_ge fun _ _ _ => .bl _
def isNonD : D → Bool
  | .non => true
  | _ => false
def nIsN : N2 := fun x y S Q => match y with
  | .non => Q (.bl (isNonD x)) S
  | _ => False
def nNotN : N2 := fun x y S Q => match y with
  | .non => Q (.bl (!isNonD x)) S
  | _ => False
theorem isNon_ok {K : PySem.W.Frag} {H : Hp} {x : D} {v : V} (r : VR K H x v) : decide (v = .non) = isNonD x := by
  cases r with
  | non => rfl
  | _ => exact decide_eq_false (fun z => by cases z)
theorem opN_isN : OpN X (compareOp .Is) nIsN := by
  refine ⟨_, op_isN, fun x y S Q vx vy H Q' s rx ry n k => ?_⟩
  unfold nIsN at n
  split at n
  · cases ry
    exact ⟨rfl, k _ _ _ _ (.refl H) s (by rw [isNon_ok rx]; exact .bl _) n⟩
  · exact n.elim
theorem opN_notN : OpN X (compareOp .IsNot) nNotN := by
  refine ⟨_, op_notN, fun x y S Q vx vy H Q' s rx ry n k => ?_⟩
  unfold nNotN at n
  split at n
  · cases ry
    exact ⟨rfl, k _ _ _ _ (.refl H) s (by rw [isNon_ok rx]; exact .bl _) n⟩
  · exact n.elim

/-! ### == of data -/
mutual
def pyD : D → Option PyData
  | .non => some .none
  | .bl b => some (.bool b)
  | .int i => some (.int i)
  | .str x => some (.str x)
  | .tup ds => (pyDs ds).map .tuple
  | .rol ds => (pyDs ds).map .list
  | .ref _ => none
  | .ty _ => none
  | .cls _ => none
def pyDs : List D → Option (List PyData)
  | [] => some []
  | d :: r => match pyD d, pyDs r with
    | some a, some b => some (a :: b)
    | _, _ => none
end
def pyT (S : Sto) (d : D) : Option PyData := match d with
  | .ref a => (match S a with
    | some (.lst ds) => (pyDs ds).map .list
    | _ => none)
  | d => pyD d
mutual
theorem pyD_ok {K : PySem.W.Frag} {H : Hp} : ∀ {d : D} {v : V} {p : PyData}, VR K H d v → pyD d = some p → Dp K H v p
  | _, _, _, .non, e => by
    simp only [pyD, Option.some.injEq] at e; subst e; exact .non
  | _, _, _, .bl b, e => by
    simp only [pyD, Option.some.injEq] at e; subst e; exact .bl b
  | _, _, _, .int i, e => by
    simp only [pyD, Option.some.injEq] at e; subst e; exact .int i
  | _, _, _, .str x, e => by
    simp only [pyD, Option.some.injEq] at e; subst e; exact .str x
  | _, _, _, .ref a, e => by simp only [pyD] at e; cases e
  | _, _, _, .ty a, e => by simp only [pyD] at e; cases e
  | _, _, _, .cls a, e => by simp only [pyD] at e; cases e
  | _, _, _, .tup t r, e => by
    simp only [pyD, Option.map_eq_some_iff] at e
    obtain ⟨ps, e1, rfl⟩ := e
    exact .tup t.sq (pyDs_ok r e1)
  | _, _, _, .rol t r, e => by
    simp only [pyD, Option.map_eq_some_iff] at e
    obtain ⟨ps, e1, rfl⟩ := e
    exact .lst t.sq (pyDs_ok r e1)
theorem pyDs_ok {K : PySem.W.Frag} {H : Hp} : ∀ {ds : List D} {vs : List V} {ps : List PyData}, VRs K H ds vs → pyDs ds = some ps → DpAll K H vs ps
  | _, _, _, .nil, e => by simp only [pyDs, Option.some.injEq] at e; subst e; exact .nil
  | d :: r, _, _, .cons h t, e => by
    simp only [pyDs] at e
    split at e
    · rename_i a b e1 e2
      cases e
      exact .cons (pyD_ok h e1) (pyDs_ok t e2)
    · cases e
end
theorem pyT_ok {K : PySem.W.Frag} {S : Sto} {H : Hp} {d : D} {v : V} {p : PyData} (s : SR K S H) (r : VR K H d v) (e : pyT S d = some p) : Dp K H v p := by
  unfold pyT at e
  split at e
  · rename_i a
    cases r
    split at e
    · rename_i ds e1
      obtain ⟨vs, h1, r1⟩ := s.lst e1
      simp only [Option.map_eq_some_iff] at e
      obtain ⟨ps, e2, rfl⟩ := e
      exact .lst (SqL.of h1) (pyDs_ok r1 e2)
    · cases e
  · exact pyD_ok r e
/-- the answer of == and whether it is told -/
def eqT (S : Sto) (x y : D) : Option Bool := match x, y with
  | .int i, .int j => some (decide (i = j))
  | .str a, .str b => some (decide (a = b))
  | .bl a, .bl b => some (decide (a = b))
  | .non, .non => some true
  | .non, .int _ => some false
  | .int _, .non => some false
  | .non, .bl _ => some false
  | .bl _, .non => some false
  | .non, .str _ => some false
  | .str _, .non => some false
  | .int _, .str _ => some false
  | .str _, .int _ => some false
  | .bl _, .str _ => some false
  | .str _, .bl _ => some false
  | x, y => match pyT S x, pyT S y with
    | some d, some e => if SeqAt.shaped d && SeqAt.shaped e then some (PyData.eqv d e) else none
    | _, _ => none
def nEq : N2 := fun x y S Q => match eqT S x y with
  | some b => Q (.bl b) S
  | none => False
def nNe : N2 := fun x y S Q => match eqT S x y with
  | some b => Q (.bl (!b)) S
  | none => False
theorem eqT_ok {K : PySem.W.Frag} {S : Sto} {H : Hp} {x y : D} {vx vy : V} {b : Bool} (s : SR K S H) (rx : VR K H x vx) (ry : VR K H y vy) (e : eqT S x y = some b) :
    (scal vx vy = true ∧ decide (vx = vy) = b) ∨ ∃ d e, Dp K H vx d ∧ Dp K H vy e ∧ SeqAt.shaped d = true ∧ SeqAt.shaped e = true ∧ PyData.eqv d e = b := by
  unfold eqT at e
  split at e
  case h_1 i j => cases rx; cases ry; cases e; exact .inl ⟨rfl, by simp⟩
  case h_2 i j => cases rx; cases ry; cases e; exact .inl ⟨rfl, by simp⟩
  case h_3 i j => cases rx; cases ry; cases e; exact .inl ⟨rfl, by simp⟩
  case h_4 => cases rx; cases ry; cases e; exact .inl ⟨rfl, by simp⟩
  case h_15 =>
    split at e
    · rename_i d d' e1 e2
      split at e
      · rename_i h
        cases e
        rw [Bool.and_eq_true] at h
        exact .inr ⟨d, d', pyT_ok s rx e1, pyT_ok s ry e2, h.1, h.2, rfl⟩
      · cases e
    · cases e
  all_goals (cases rx; cases ry; cases e; exact .inl ⟨rfl, by simp⟩)
theorem opN_eq (hu : X.A.units + 64 < cLine) : OpN X (compareOp .Eq) nEq := by
  refine ⟨_, op_eq.or (op_eqD hu), fun x y S Q vx vy H Q' s rx ry n k => ?_⟩
  unfold nEq at n
  split at n
  · rename_i b e
    rcases eqT_ok s rx ry e with ⟨h1, h2⟩ | ⟨d, d', h1, h2, h3, h4, h5⟩
    · exact .inl ⟨h1, by rw [h2]; exact k _ _ _ _ (.refl H) s (.bl b) n⟩
    · exact .inr ⟨d, d', h1, h2, h3, h4, by rw [h5]; exact k _ _ _ _ (.refl H) s (.bl b) n⟩
  · exact n.elim
theorem opN_ne (hu : X.A.units + 64 < cLine) : OpN X (compareOp .NotEq) nNe := by
  refine ⟨_, op_ne.or (op_neD hu), fun x y S Q vx vy H Q' s rx ry n k => ?_⟩
  unfold nNe at n
  split at n
  · rename_i b e
    rcases eqT_ok s rx ry e with ⟨h1, h2⟩ | ⟨d, d', h1, h2, h3, h4, h5⟩
    · exact .inl ⟨h1, by rw [h2]; exact k _ _ _ _ (.refl H) s (.bl _) n⟩
    · exact .inr ⟨d, d', h1, h2, h3, h4, by rw [h5]; exact k _ _ _ _ (.refl H) s (.bl _) n⟩
  · exact n.elim

/-! ### in, not in -/
def flatD : D → Bool
  | .non => true
  | .bl _ => true
  | .int _ => true
  | .str _ => true
  | _ => false
def eqF : D → D → Bool
  | .non, .non => true
  | .bl a, .bl b => a == b
  | .bl a, .int b => (if a then 1 else 0) == b
  | .int a, .bl b => a == (if b then 1 else 0)
  | .int a, .int b => a == b
  | .str a, .str b => a == b
  | _, _ => false
theorem flat_ok {K : PySem.W.Frag} {H : Hp} {d : D} {v : V} (r : VR K H d v) (f : flatD d = true) : flatV v = true := by
  cases r <;> first | rfl | cases f
theorem eqF_ok {K : PySem.W.Frag} {H : Hp} {d e : D} {v w : V} (r : VR K H d v) (q : VR K H e w) (f : flatD d = true) (g : flatD e = true) : eqV v w = eqF d e := by
  cases r <;> (first | cases f; done | skip) <;> cases q <;> (first | cases g; done | rfl)
theorem flats_ok {K : PySem.W.Frag} {H : Hp} : ∀ {ds : List D} {vs : List V}, VRs K H ds vs → ds.all flatD = true → vs.all flatV = true
  | _, _, .nil, _ => rfl
  | _, _, .cons r t, h => by
    rw [List.all_cons, Bool.and_eq_true] at h
    rw [List.all_cons, Bool.and_eq_true]
    exact ⟨flat_ok r h.1, flats_ok t h.2⟩
theorem inF_ok {K : PySem.W.Frag} {H : Hp} {x : D} {v : V} (rx : VR K H x v) (fx : flatD x = true) : ∀ {ds : List D} {vs : List V}, VRs K H ds vs → ds.all flatD = true → inV v vs = ds.any fun d => eqF d x
  | _, _, .nil, _ => rfl
  | _, _, .cons r t, h => by
    rw [List.all_cons, Bool.and_eq_true] at h
    have e := inF_ok rx fx t h.2
    unfold inV at e ⊢
    rw [List.any_cons, List.any_cons, e, eqF_ok r rx h.1 fx]
/-- the items of a list or a tuple -/
def seqOf (S : Sto) : D → Option (List D)
  | .tup ds => some ds
  | .rol ds => some ds
  | .ref a => (match S a with
    | some (.lst ds) => some ds
    | _ => none)
  | _ => none
theorem seqOf_ok {K : PySem.W.Frag} {S : Sto} {H : Hp} {d : D} {v : V} {ds : List D} (s : SR K S H) (r : VR K H d v) (e : seqOf S d = some ds) : ∃ p vs, v = .ref p ∧ (SqL K H p vs ∨ SqT K H p vs) ∧ VRs K H ds vs := by
  unfold seqOf at e
  split at e
  · cases e
    cases r with
    | tup t r => exact ⟨_, _, rfl, .inr t.sq, r⟩
  · cases e
    cases r with
    | rol t r => exact ⟨_, _, rfl, .inl t.sq, r⟩
  · rename_i a
    cases r
    split at e
    · rename_i es e1
      cases e
      obtain ⟨vs, h1, r1⟩ := s.lst e1
      exact ⟨_, _, rfl, .inl (SqL.of h1), r1⟩
    · cases e
  · cases e
/-- a dict's key -/
def keyD : D → Option Key
  | .int i => some (.inl i)
  | .str x => some (.inr x)
  | _ => none
theorem keyD_ok {K : PySem.W.Frag} {H : Hp} {d : D} {v : V} {k : Key} (r : VR K H d v) (e : keyD d = some k) : v = kV k := by
  cases r <;> first | cases e; rfl | cases e
def dicOf (S : Sto) : D → Option (List (Key × D))
  | .ref a => (match S a with
    | some (.dic kvs) => some kvs
    | some (.lok kvs) => some kvs
    | _ => none)
  | _ => none
theorem dicOf_ok {K : PySem.W.Frag} {S : Sto} {H : Hp} {d : D} {v : V} {kvs : List (Key × D)} (s : SR K S H) (r : VR K H d v) (e : dicOf S d = some kvs) : ∃ a ws, d = .ref a ∧ v = .ref a ∧ Rd H a (.dK ws) ∧ KVR K H kvs ws := by
  unfold dicOf at e
  split at e
  · rename_i a
    cases r
    split at e
    · rename_i es e1
      cases e
      obtain ⟨ws, h1, r1⟩ := s.dic e1
      exact ⟨a, ws, rfl, rfl, .inl h1, r1⟩
    · rename_i es e1
      cases e
      obtain ⟨o, ws, h1, r1⟩ := s a _ e1
      exact ⟨a, ws, rfl, rfl, .inr ⟨o, h1⟩, r1⟩
    · cases e
  · cases e
theorem KVR.val {K : PySem.W.Frag} {H : Hp} {κ : Type} [DecidableEq κ] (k : κ) : ∀ {kvs : List (κ × D)} {ws : List (κ × V)}, KVR K H kvs ws → (∀ d, (kvs.find? fun kv => decide (kv.1 = k)).map (·.2) = some d → ∃ v, valV ws k = some v ∧ VR K H d v) ∧ ((kvs.find? fun kv => decide (kv.1 = k)).map (·.2) = none → valV ws k = none)
  | _, _, .nil => ⟨fun d h => (by cases h), fun _ => rfl⟩
  | p :: ps, q :: qs, .cons h t => by
    have ih := KVR.val k t
    by_cases e : p.1 = k
    · have e' : q.1 = k := h.1 ▸ e
      refine ⟨fun d z => ?_, fun z => ?_⟩
      · simp only [List.find?_cons, e, decide_true, Option.map_some, Option.some.injEq] at z
        subst z
        exact ⟨_, valV_pos e', h.2⟩
      · simp only [List.find?_cons, e, decide_true, Option.map_some] at z
        cases z
    · have e' : ¬ q.1 = k := fun z => e (h.1.trans z)
      rw [valV_neg e']
      simp only [List.find?_cons, e, decide_false]
      exact ih
/-- what a key tells -/
def dget (kvs : List (Key × D)) (k : Key) : Option D := (kvs.find? fun kv => decide (kv.1 = k)).map (·.2)
def nIn : N2 := fun x y S Q => match seqOf S y with
  | some ds => flatD x = true ∧ ds.all flatD = true ∧ Q (.bl (ds.any fun d => eqF d x)) S
  | none => match dicOf S y with
    | some kvs => (match keyD x with
      | some k => Q (.bl (dget kvs k).isSome) S
      | none => False)
    | none => match x, y with
      | .str c, .str z => c.cps.size = 1 ∧ Q (.bl (decide (c.cps.getD 0 0 ∈ z.cps.toList))) S
      | _, _ => False
def nNin : N2 := fun x y S Q => nIn x y S fun d S' => match d with
  | .bl b => Q (.bl (!b)) S'
  | _ => False
theorem one_sign {c : Str} (h : c.cps.size = 1) : c = ⟨#[c.cps.getD 0 0]⟩ := by
  obtain ⟨l⟩ := c
  obtain ⟨l⟩ := l
  cases l with
  | nil => cases h
  | cons a t =>
    cases t with
    | nil => rfl
    | cons b t => simp at h
theorem op_inD (hu : X.A.units + 1 < cLine) : OpR X (compareOp .In) (fun y x H Q => ∃ a o, x = .ref a ∧ DGet H a y o ∧ Q (.bl o.isSome) H) := by
  intro pins s σ H x y v u Q I rx ry h
  obtain ⟨a, o, rfl, g, q⟩ := h
  cases (show u = Value.ref a from ry)
  exact d_in hu I g rx fun s' I' => ⟨.bl _, H, I', rfl, q⟩
theorem op_notInD (hu : X.A.units + 1 < cLine) : OpR X (compareOp .NotIn) (fun y x H Q => ∃ a o, x = .ref a ∧ DGet H a y o ∧ Q (.bl (!o.isSome)) H) := by
  intro pins s σ H x y v u Q I rx ry h
  obtain ⟨a, o, rfl, g, q⟩ := h
  cases (show u = Value.ref a from ry)
  exact d_notIn hu I g rx fun s' I' => ⟨.bl _, H, I', rfl, q⟩
theorem dget_ok {K : PySem.W.Frag} {H : Hp} {kvs : List (Key × D)} {ws : List (Key × V)} (r : KVR K H kvs ws) (k : Key) : (valV ws k).isSome = (dget kvs k).isSome := by
  obtain ⟨h1, h2⟩ := KVR.val k r
  unfold dget
  cases e : (kvs.find? fun kv => decide (kv.1 = k)).map (·.2) with
  | none => rw [h2 e] <;> rfl
  | some d =>
    obtain ⟨v, h, _⟩ := h1 d e
    rw [h] <;> rfl
theorem opN_in (hu : X.A.units + 1 < cLine) : OpN X (compareOp .In) nIn := by
  refine ⟨_, op_in_seq.or ((op_inD hu).or op_in_sign), fun x y S Q vx vy H Q' s rx ry n k => ?_⟩
  unfold nIn at n
  split at n
  · rename_i ds e
    obtain ⟨p, vs, rfl, hs, r⟩ := seqOf_ok s ry e
    exact .inl ⟨p, vs, rfl, hs, flat_ok rx n.1, flats_ok r n.2.1, by rw [inF_ok rx n.1 r n.2.1]; exact k _ _ _ _ (.refl H) s (.bl _) n.2.2⟩
  · split at n
    · rename_i kvs e
      obtain ⟨a, ws, rfl, rfl, h1, r⟩ := dicOf_ok s ry e
      split at n
      · rename_i kk ek
        have := keyD_ok rx ek
        subst this
        exact .inr (.inl ⟨a, _, rfl, .inl ⟨ws, kk, h1, rfl, rfl⟩, by rw [dget_ok r]; exact k _ _ _ _ (.refl H) s (.bl _) n⟩)
      · exact n.elim
    · split at n
      · rename_i c z _ _
        cases rx; cases ry
        exact .inr (.inr ⟨_, z, congrArg V.str (one_sign n.1), rfl, k _ _ _ _ (.refl H) s (.bl _) n.2⟩)
      · exact n.elim
theorem opN_nin (hu : X.A.units + 1 < cLine) : OpN X (compareOp .NotIn) nNin := by
  refine ⟨_, op_notIn_seq.or ((op_notInD hu).or op_notIn_sign), fun x y S Q vx vy H Q' s rx ry n k => ?_⟩
  unfold nNin nIn at n
  split at n
  · rename_i ds e
    obtain ⟨p, vs, rfl, hs, r⟩ := seqOf_ok s ry e
    refine .inl ⟨p, vs, rfl, hs, flat_ok rx n.1, flats_ok r n.2.1, ?_⟩
    rw [if_pos rfl, inF_ok rx n.1 r n.2.1]
    exact k _ _ _ _ (.refl H) s (.bl _) n.2.2
  · split at n
    · rename_i kvs e
      obtain ⟨a, ws, rfl, rfl, h1, r⟩ := dicOf_ok s ry e
      split at n
      · rename_i kk ek
        have := keyD_ok rx ek
        subst this
        exact .inr (.inl ⟨a, _, rfl, .inl ⟨ws, kk, h1, rfl, rfl⟩, by rw [dget_ok r]; exact k _ _ _ _ (.refl H) s (.bl _) n⟩)
      · exact n.elim
    · split at n
      · rename_i c z _ _
        cases rx; cases ry
        exact .inr (.inr ⟨_, z, congrArg V.str (one_sign n.1), rfl, k _ _ _ _ (.refl H) s (.bl _) n.2⟩)
      · exact n.elim
end
end N

set_option Elab.async false
set_option linter.all false
set_option maxRecDepth 100000
set_option maxHeartbeats 4000000
namespace N
variable [TabList]
open PySem PySem.Spec PyProof.Rows L2

/-! ### items -/
section
variable {K : PySem.W.Frag} {H : Hp}
theorem VRs.atI {ds : List D} {vs : List V} {i : Int} {d : D} (r : VRs K H ds vs) (e : L2.atI ds i = some d) : ∃ v, L2.atI vs i = some v ∧ VR K H d v := by
  unfold L2.atI at e ⊢
  rw [← r.length]
  cases h : ixN ds.length i with
  | none => rw [h] at e; cases e
  | some j =>
    rw [h] at e
    exact r.get e
end
section
variable {X : Cx} {H0 : Hp} {a b c o : Expr} {ma mb mo : NE} {pos : Pos} {es : List Expr} {mr : NA}
def nIx : N2 := fun x y S Q => match seqOf S x, y with
  | some ds, .int i => (match L2.atI ds i with
    | some d => Q d S
    | none => False)
  | _, _ => match dicOf S x, keyD y with
    | some kvs, some k => (match dget kvs k with
      | some d => Q d S
      | none => False)
    | _, _ => match x, y with
      | .str z, .int i => z.length ≤ sizeLine ∧ (match L2.atI z.cps.toList i with
        | some c => Q (.str ⟨#[c]⟩) S
        | none => False)
      | _, _ => False
theorem ix_dict (hu : X.A.units + 1 < cLine) : IxR X (fun x y H Q => ∃ a v, x = .ref a ∧ DGet H a y (some v) ∧ Q v H) := by
  intro value slice pins s σ H x y v u Q I rx ry h hs
  obtain ⟨a, w, rfl, g, q⟩ := h
  obtain rfl : v = Value.ref a := rx
  exact tail_any (ops := [.ref a, u]) (dict_typeIs I g) F.slot_dict_getitem.lookup (d_getItem hu I g ry fun w' s' I' r' => ⟨w, H, I', r', q⟩) hs
theorem ixN_seqv (hu : X.A.units + 1 < cLine) : IxN X nIx := by
  refine ⟨_, (ix_list.or ix_tup).or ((ix_dict hu).or ix_str), fun x y S Q vx vy H Q' s rx ry n k => ?_⟩
  unfold nIx at n
  split at n
  · rename_i ds i e
    cases ry
    obtain ⟨p, vs, rfl, hs, r⟩ := seqOf_ok s rx e
    split at n
    · rename_i d ed
      obtain ⟨v, h1, h2⟩ := r.atI ed
      rcases hs with hs | hs
      · exact .inl (.inl ⟨p, vs, i, v, rfl, rfl, hs, h1, k _ _ _ _ (.refl H) s h2 n⟩)
      · exact .inl (.inr ⟨p, vs, i, v, rfl, rfl, hs, h1, k _ _ _ _ (.refl H) s h2 n⟩)
    · exact n.elim
  · split at n
    · rename_i kvs kk e1 e2
      obtain ⟨p, ws, rfl, rfl, h1, r⟩ := dicOf_ok s rx e1
      have := keyD_ok ry e2
      subst this
      split at n
      · rename_i d ed
        obtain ⟨v, h3, h4⟩ := (KVR.val kk r).1 d ed
        exact .inr (.inl ⟨p, v, rfl, by rw [← h3]; exact .inl ⟨ws, kk, h1, rfl, rfl⟩, k _ _ _ _ (.refl H) s h4 n⟩)
      · exact n.elim
    · split at n
      · rename_i z i _ _
        cases rx; cases ry
        obtain ⟨n1, n2⟩ := n
        split at n2
        · rename_i c ec
          exact .inr (.inr ⟨z, i, c, rfl, rfl, n1, ec, k _ _ _ _ (.refl H) s (.str _) n2⟩)
        · exact n2.elim
      · exact n.elim
theorem je_ix (hi : IxN X nIx) (ha : JE X H0 a ma) (hb : JE X H0 b mb) (hs : PlainIx b := by exact fun _ _ => rfl) : JE X H0 (.Subscript a b pos) (mOp nIx ma mb) := by
  obtain ⟨r, h1, h2⟩ := hi
  exact (pe_ix h1 ha hb hs).imq fun _ _ _ h => bin_ok h2 h

/-! ### slices -/
abbrev NO := Env → Sto → (Option Int → Sto → Prop) → Prop
def lO (K : PySem.W.Frag) (H0 : Hp) (m : NO) : TO := fun σ H Q => ∃ e S Q', At K H0 H σ e S ∧ m e S Q' ∧ ∀ b S' H', HExt H H' → SR K S' H' → Q' b S' → Q b H'
abbrev JO (X : Cx) (H0 : Hp) (e : Option Expr) (m : NO) : Prop := PO X e (lO X.K H0 m)
def mNoPart : NO := fun _ S Q => Q none S
def mPart (m : NE) : NO := fun e S Q => m e S fun d S1 => match d with
  | .int i => Q (some i) S1
  | _ => False
theorem _root_.L2.PO.imq {e : Option Expr} {t t' : TO} (h : PO X e t) (i : ∀ σ H Q, t' σ H Q → t σ H Q) : PO X e t' := ⟨fun pins s σ H Q I q => h.run pins s σ H Q I (i _ _ _ q)⟩
theorem jo_none : JO X H0 none mNoPart := po_none.imq fun σ H Q ⟨e, S, Q', A, m, k⟩ => k none S H (.refl H) A.s m
theorem jo_some (h : JE X H0 a ma) : JO X H0 (some a) (mPart ma) := (po_some h).imq fun σ H Q ⟨e, S, Q', A, m, k⟩ => ⟨e, S, _, A, m, fun d S1 v H1 x1 s1 r q => by
  cases d with
  | int i => cases r; exact ⟨i, rfl, k _ S1 H1 x1 s1 q⟩
  | _ => exact q.elim⟩
def cutD (xs : List D) (lo hi : Option Int) : List D := (xs.drop (HT.sIx xs.length 0 lo)).take (HT.sIx xs.length xs.length hi - HT.sIx xs.length 0 lo)
theorem cut_ok {K : PySem.W.Frag} {H : Hp} {ds : List D} {vs : List V} (r : VRs K H ds vs) (lo hi : Option Int) : VRs K H (cutD ds lo hi) (cutV vs lo hi) := by
  unfold cutD cutV
  rw [r.length]
  exact (r.drop _).take _
def nSl : D → Option Int → Option Int → Sto → NQ → Prop := fun x lo hi S Q => match x with
  | .tup ds => Q (.tup (cutD ds lo hi)) S
  | .str z => z.length ≤ sizeLine ∧ Q (.str (cutS z lo hi)) S
  | .rol ds => ∀ p, S p = none → Q (.ref p) (put S p (.lst (cutD ds lo hi)))
  | .ref a => (match S a with
    | some (.lst ds) => ∀ p, S p = none → Q (.ref p) (put S p (.lst (cutD ds lo hi)))
    | _ => False)
  | _ => False
def mSl (m : NE) (l h : NO) : NE := fun e S Q => m e S fun x S1 => l e S1 fun lo S2 => h e S2 fun hi S3 => nSl x lo hi S3 Q
theorem whole_cut {ds : List D} {lo hi : Option Int} (h : HT.sIx ds.length 0 lo = 0 ∧ HT.sIx ds.length ds.length hi = ds.length) : cutD ds lo hi = ds := by
  unfold cutD
  rw [h.1, h.2]
  simp
theorem je_slice {lo hi : Option Expr} {l h : NO} {p2 : Pos} (he : JE X H0 a ma) (hl : JO X H0 lo l) (hh : JO X H0 hi h) : JE X H0 (.Subscript a (.Slice lo hi none p2) pos) (mSl ma l h) := by
  refine (pe_slice (sl_tupA.or (sl_list.or sl_str)) he hl hh).imq fun σ H Q h => ?_
  obtain ⟨e, S, Q', A, m, k⟩ := h
  refine ⟨e, S, _, A, m, fun x S1 vx H1 x1 s1 rx m1 => ?_⟩
  refine ⟨e, S1, _, A.next x1 s1, m1, fun lo S2 H2 x2 s2 m2 => ?_⟩
  refine ⟨e, S2, _, A.next (x1.trans x2) s2, m2, fun hi S3 H3 x3 s3 n => ?_⟩
  have rx3 := (rx.ext x2).ext x3
  have x13 := (x1.trans x2).trans x3
  unfold nSl at n
  split at n
  · rename_i ds
    cases rx3 with
    | tup t r =>
      rename_i p vs
      refine .inl ⟨p, vs, rfl, t.sq, fun w => ?_, fun w q nq => ?_⟩
      · rw [← r.length] at w
        rw [whole_cut w] at n
        exact k _ _ _ _ x13 s3 (.tup t r) n
      · exact k _ _ _ _ (x13.trans (.new nq)) (s3.more nq) (.tup (.inl upd_same) ((cut_ok r lo hi).ext (.new nq))) n
  · rename_i z
    cases rx3
    exact .inr (.inr ⟨z, rfl, n.1, k _ _ _ _ x13 s3 (.str _) n.2⟩)
  · rename_i ds
    cases rx3 with
    | rol t r =>
      rename_i p vs
      refine .inr (.inl ⟨p, _, rfl, t.sq, fun q nq => ?_⟩)
      exact k _ _ _ _ (x13.trans (.new nq)) (lst_ok s3 nq (cut_ok r lo hi)) (.ref q) (n q (s3.fresh nq))
  · rename_i p
    cases rx3
    split at n
    · rename_i es e2
      obtain ⟨vs', h1, r1⟩ := s3.lst e2
      refine .inr (.inl ⟨p, _, rfl, SqL.of h1, fun q nq => ?_⟩)
      exact k _ _ _ _ (x13.trans (.new nq)) (lst_ok s3 nq (cut_ok r1 lo hi)) (.ref q) (n q (s3.fresh nq))
    · exact n.elim
  · exact n.elim
/-- xs[::-1] -/
def nRev : D → Sto → NQ → Prop := fun x S Q => match x with
  | .ref a => (match S a with
    | some (.lst ds) => ∀ p, S p = none → Q (.ref p) (put S p (.lst ds.reverse))
    | _ => False)
  | _ => False
def mUn (n : D → Sto → NQ → Prop) (m : NE) : NE := fun e S Q => m e S fun x S1 => n x S1 Q
theorem je_rev {k : Nat} {p1 p2 p3 : Pos} (he : JE X H0 a ma) : JE X H0 (.Subscript a (.Slice none none (some (.UnaryOp .USub (.Constant (.int 1) k p1) p2)) p3) pos) (mUn nRev ma) := by
  refine (pe_revL he).imq fun σ H Q h => ?_
  obtain ⟨e, S, Q', A, m, k⟩ := h
  refine ⟨e, S, _, A, m, fun x S1 vx H1 x1 s1 rx n => ?_⟩
  unfold nRev at n
  split at n
  · rename_i p
    cases rx
    split at n
    · rename_i ds e1
      obtain ⟨vs, h1, r1⟩ := s1.lst e1
      exact ⟨p, vs, rfl, SqL.of h1, fun q nq => k _ _ _ _ (x1.trans (.new nq)) (lst_ok s1 nq r1.reverse) (.ref q) (n q (s1.fresh nq))⟩
    · exact n.elim
  · exact n.elim
def nNeg : D → Sto → NQ → Prop := fun x S Q => match x with
  | .int i => Q (.int (-i)) S
  | _ => False
theorem je_neg (he : JE X H0 a ma) : JE X H0 (.UnaryOp .USub a pos) (mUn nNeg ma) := by
  refine (pe_un un_neg he).imq fun σ H Q h => ?_
  obtain ⟨e, S, Q', A, m, k⟩ := h
  refine ⟨e, S, _, A, m, fun x S1 vx H1 x1 s1 rx n => ?_⟩
  unfold nNeg at n
  split at n
  · rename_i i
    cases rx
    exact ⟨i, rfl, k _ _ _ _ x1 s1 (.int _) n⟩
  · exact n.elim

/-! ### fields -/
theorem KVR.look {K : PySem.W.Frag} {H : Hp} {f : Str} : ∀ {fs : List (Str × D)} {ws : List (Str × V)}, KVR K H fs ws → (∀ d, fs.lookup f = some d → ∃ v, ws.lookup f = some v ∧ VR K H d v) ∧ (fs.lookup f = none → ws.lookup f = none)
  | _, _, .nil => ⟨fun d h => (by cases h), fun _ => rfl⟩
  | (g, d0) :: fs, (g', v0) :: ws, .cons h t => by
    have ih := KVR.look (f := f) t
    obtain ⟨h1, h2⟩ := h
    have h1 : g = g' := h1
    subst h1
    rw [List.lookup_cons, List.lookup_cons]
    cases e : (f == g) with
    | true => exact ⟨fun d q => by cases q; exact ⟨_, rfl, h2⟩, fun q => by cases q⟩
    | false => exact ih
def putD (f : Str) (v : D) : List (Str × D) → List (Str × D)
  | [] => [(f, v)]
  | (g, u) :: r => if g = f then (g, v) :: r else (g, u) :: putD f v r
theorem putD_ok {K : PySem.W.Frag} {H : Hp} {f : Str} {d : D} {v : V} (r : VR K H d v) : ∀ {fs : List (Str × D)} {ws : List (Str × V)}, KVR K H fs ws → KVR K H (putD f d fs) (putF f v ws)
  | _, _, .nil => .cons ⟨rfl, r⟩ .nil
  | (g, d0) :: fs, (g', v0) :: ws, .cons h t => by
    obtain ⟨h1, h2⟩ := h
    have h1 : g = g' := h1
    subst h1
    unfold putD putF
    by_cases e : g = f
    · rw [if_pos e, if_pos e]; exact .cons ⟨rfl, r⟩ t
    · rw [if_neg e, if_neg e]; exact .cons ⟨rfl, h2⟩ (putD_ok r t)
def nFld (f : Str) : D → Sto → NQ → Prop := fun x S Q => match x with
  | .ref a => (match S a with
    | some (.ins _ fs) => (match fs.lookup f with
      | some v => Q v S
      | none => False)
    | _ => False)
  | _ => False
theorem je_fld {f : Str} (he : JE X H0 a ma) (hf : f ∈ FN := by decide +kernel) (hb : attributeBase a f X.env (eval a X.env) = eval a X.env := by rfl) : JE X H0 (.Attribute a f pos) (mUn (nFld f) ma) := by
  refine (pe_fld he hb).imq fun σ H Q h => ?_
  obtain ⟨e, S, Q', A, m, k⟩ := h
  refine ⟨e, S, _, A, m, fun x S1 vx H1 x1 s1 rx n => ?_⟩
  unfold nFld at n
  split at n
  · rename_i p
    cases rx
    split at n
    · rename_i c fs e1
      obtain ⟨dx, ws, h1, r1, co⟩ := s1.ins e1
      split at n
      · rename_i d ed
        obtain ⟨v, h2, h3⟩ := (KVR.look (f := f) r1).1 d ed
        exact ⟨p, _, dx, ws, v, rfl, h1, co.cl, co.no f hf, h2, k _ _ _ _ x1 s1 h3 n⟩
      · exact n.elim
    · exact n.elim
  · exact n.elim
theorem SR.setIns {K : PySem.W.Frag} {S : Sto} {H : Hp} {p dx : Addr} {c f : Str} {fs : List (Str × D)} {ws : List (Str × V)} {d : D} {v : V} (s : SR K S H) (h : H p = some (.ins (He.ga K c) dx ws)) (r : KVR K H fs ws) (co : ClsOk K c) (rv : VR K H d v) :
    HExt H (upd H p (.ins (He.ga K c) dx (putF f v ws))) ∧ SR K (N.put S p (.ins c (putD f d fs))) (upd H p (.ins (He.ga K c) dx (putF f v ws))) := by
  have x : HExt H (upd H p (.ins (He.ga K c) dx (putF f v ws))) := .upd h True.intro
  exact ⟨x, s.put (o := .ins c (putD f d fs)) x ⟨dx, _, upd_same, KVR.ext x (putD_ok rv r), co⟩⟩
def sFldN (f : Str) (mv mo : NE) : NS := fun D e S => mv e S fun y S1 => mo e S1 fun x S2 => match x with
  | .ref a => (match S2 a with
    | some (.ins c fs) => fs.length < 1000 ∧ D.nx e (put S2 a (.ins c (putD f y fs)))
    | _ => False)
  | _ => False
theorem js_fld {f : Str} {value : Expr} {mv : NE} {pos' : Pos} (ho : JE X H0 o mo) (hv : JE X H0 value mv) (hf : f ∈ FN := by decide +kernel) (hs : swapsWith value (some (.Attribute o f pos')) pos.line X.env = pure false := by rfl) :
    JS X H0 (.Assign [.Attribute o f pos'] value pos) (sFldN f mv mo) := by
  refine (ps_fld ho hv hs).imq fun D σ H h => ?_
  obtain ⟨e, S, D', A, m, k⟩ := h
  refine ⟨e, S, _, A, m, fun y S1 vy H1 x1 s1 ry m1 => ?_⟩
  refine ⟨e, S1, _, A.next x1 s1, m1, fun x S2 vx H2 x2 s2 rx n => ?_⟩
  split at n
  · rename_i p
    cases rx
    split at n
    · rename_i c fs e1
      obtain ⟨dx, ws, h1, r1, co⟩ := s2.ins e1
      obtain ⟨x3, s3⟩ := s2.setIns (f := f) h1 r1 co (ry.ext x2)
      refine ⟨p, _, dx, ws, rfl, h1, co.cl, co.no f hf, by have := Paired.length r1; omega, ?_⟩
      exact k.nx _ _ _ _ ((x1.trans x2).trans x3) (A.next ((x1.trans x2).trans x3) s3) n.2
    · exact n.elim
  · exact n.elim
end
end N

set_option Elab.async false
set_option linter.all false
set_option maxRecDepth 100000
set_option maxHeartbeats 4000000
namespace N
variable [TabList]
open PySem PySem.Spec PyProof.Rows L2

/-! ### calls of built-ins -/
def mCallB (n : NL) (mr : NA) : NE := fun e S Q => mr e S fun ds S1 => n ds S1 Q
section
variable {X : Cx} {H0 : Hp} {a b c o : Expr} {ma mb mo : NE} {pos : Pos} {es : List Expr} {mr : NA}
theorem callb_ok {r : List V → Hp → VK → Prop} {n : NL} (hn : OpL X.K r n) {σ : L2.St} {H : Hp} {Q : VK} (h : lE X.K H0 (mCallB n mr) σ H Q) : tCB r (lA X.K H0 mr) σ H Q := by
  obtain ⟨e, S, Q', A, m, k⟩ := h
  refine ⟨e, S, _, A, m, fun ds S1 vs H1 x1 s1 rs m1 => ?_⟩
  exact hn ds S1 Q' vs H1 Q s1 rs m1 fun d S' v H' x2 s2 rd q => k d S' v H' (x1.trans x2) s2 rd q
theorem je_callB {x : Str} {id : String} {p : Pos} {n : NL} (hc : CallN X (.builtin id) n) (hm : X.mg x = none) (ha : JA X H0 (a :: es) mr) (hv : bootBuiltins x = some (.builtin id) := by decide +kernel) (hg : Gl X x := by rfl)
    (hn : x ≠ "__name__" := by decide +kernel) (hdb : (x == ("__debug__" : Str)) = false := by decide +kernel)
    (he : starEach (a :: es) X.env = (false, eval a X.env) :: starEach es X.env := by rfl) (hpl : (backTo pos (starEach es X.env)).any (·.1) = false := by rfl) : JE X H0 (.Call (.Name x p) (a :: es) [] pos) (mCallB n mr) := by
  obtain ⟨r, h1, h2⟩ := hc
  exact (pe_callB h1 hg hm hv ha hn hdb he hpl).imq fun _ _ _ h => callb_ok h2 h
theorem je_callTy {x : Str} {T : String} {p : Pos} {n : NL} (hc : CallN X (.type T) n) (hm : X.mg x = none) (ha : JA X H0 (a :: es) mr) (hv : bootBuiltins x = some (.type T) := by decide +kernel) (hg : Gl X x := by rfl)
    (hn : x ≠ "__name__" := by decide +kernel) (hdb : (x == ("__debug__" : Str)) = false := by decide +kernel)
    (he : starEach (a :: es) X.env = (false, eval a X.env) :: starEach es X.env := by rfl) (hpl : (backTo pos (starEach es X.env)).any (·.1) = false := by rfl) : JE X H0 (.Call (.Name x p) (a :: es) [] pos) (mCallB n mr) := by
  obtain ⟨r, h1, h2⟩ := hc
  exact (pe_callTy h1 hg hm hv ha hn hdb he hpl).imq fun _ _ _ h => callb_ok h2 h

/-- how many items, signs, entries -/
def lenD (S : Sto) (d : D) : Option Nat := match d with
  | .str z => if z.length ≤ sizeLine then some z.length else none
  | d => match seqOf S d with
    | some ds => some ds.length
    | none => (dicOf S d).map List.length
def nLen : NL := fun xs S Q => match xs with
  | [d] => (match lenD S d with
    | some n => Q (.int n) S
    | none => False)
  | _ => False
theorem call_lenDict : CallR X (.builtin "len") (fun xs H Q => ∃ a kvs, xs = [.ref a] ∧ Rd H a (.dK kvs) ∧ Q (.int kvs.length) H) := by
  intro pins s σ H xs us Q I r h
  obtain ⟨p, kvs, rfl, e, q⟩ := h
  obtain rfl := Vals.ref1 r
  exact d_len I e fun t s' I' => ⟨.int kvs.length, H, I', ⟨t, rfl⟩, q⟩
theorem vrs1 {K : PySem.W.Frag} {H : Hp} {d : D} {vs : List V} (r : VRs K H [d] vs) : ∃ v, vs = [v] ∧ VR K H d v := by
  cases r with
  | cons r t => cases t; exact ⟨_, rfl, r⟩
theorem vrs2 {K : PySem.W.Frag} {H : Hp} {d d' : D} {vs : List V} (r : VRs K H [d, d'] vs) : ∃ v w, vs = [v, w] ∧ VR K H d v ∧ VR K H d' w := by
  cases r with
  | cons r t =>
    cases t with
    | cons r' t => cases t; exact ⟨_, _, rfl, r, r'⟩
theorem callN_len : CallN X (.builtin "len") nLen := by
  refine ⟨_, call_len_seq.or (call_len_str.or call_lenDict), fun xs S Q vs H Q' s r n k => ?_⟩
  unfold nLen at n
  split at n
  · rename_i d
    obtain ⟨v, rfl, rd⟩ := vrs1 r
    split at n
    · rename_i l el
      unfold lenD at el
      split at el
      · rename_i z
        cases rd
        split at el
        · rename_i hz
          cases el
          exact .inr (.inl ⟨z, rfl, hz, k _ _ _ _ (.refl H) s (.int _) n⟩)
        · cases el
      · split at el
        · rename_i ds e1
          cases el
          obtain ⟨p, ws, rfl, hs, r1⟩ := seqOf_ok s rd e1
          exact .inl ⟨p, ws, rfl, hs, by rw [← r1.length]; exact k _ _ _ _ (.refl H) s (.int _) n⟩
        · simp only [Option.map_eq_some_iff] at el
          obtain ⟨kvs, e2, rfl⟩ := el
          obtain ⟨p, ws, rfl, rfl, h1, r1⟩ := dicOf_ok s rd e2
          exact .inr (.inr ⟨p, ws, rfl, h1, by rw [← Paired.length r1]; exact k _ _ _ _ (.refl H) s (.int _) n⟩)
    · exact n.elim
  · exact n.elim
def nMax2 : NL := fun xs S Q => match xs with
  | [.int i, .int j] => Q (.int (if j > i then j else i)) S
  | _ => False
def nMin2 : NL := fun xs S Q => match xs with
  | [.int i, .int j] => Q (.int (if j < i then j else i)) S
  | _ => False
theorem callN_max2 (hc : X.calm = true) : CallN X (.builtin "max") nMax2 := by
  refine ⟨_, call_max2 hc, fun xs S Q vs H Q' s r n k => ?_⟩
  unfold nMax2 at n
  split at n
  · rename_i i j
    obtain ⟨v, w, rfl, r1, r2⟩ := vrs2 r
    cases r1; cases r2
    exact ⟨i, j, rfl, k _ _ _ _ (.refl H) s (.int _) n⟩
  · exact n.elim
theorem callN_min2 (hc : X.calm = true) : CallN X (.builtin "min") nMin2 := by
  refine ⟨_, call_min2 hc, fun xs S Q vs H Q' s r n k => ?_⟩
  unfold nMin2 at n
  split at n
  · rename_i i j
    obtain ⟨v, w, rfl, r1, r2⟩ := vrs2 r
    cases r1; cases r2
    exact ⟨i, j, rfl, k _ _ _ _ (.refl H) s (.int _) n⟩
  · exact n.elim
def nAbs : NL := fun xs S Q => match xs with
  | [.int i] => Q (.int (if i < 0 then -i else i)) S
  | _ => False
theorem callN_abs : CallN X (.builtin "abs") nAbs := by
  refine ⟨_, call_abs, fun xs S Q vs H Q' s r n k => ?_⟩
  unfold nAbs at n
  split at n
  · rename_i i
    obtain ⟨v, rfl, r1⟩ := vrs1 r
    cases r1
    exact ⟨i, rfl, k _ _ _ _ (.refl H) s (.int _) n⟩
  · exact n.elim
/-- int(a number, a truth) -/
def nInt1 : NL := fun xs S Q => match xs with
  | [.int i] => Q (.int i) S
  | [.bl b] => Q (.int (if b then 1 else 0)) S
  | [.str z] => ∃ n, PySem.intText? z = some n ∧ z.length ≤ 640 ∧ Q (.int n) S
  | _ => False
theorem callN_int : CallN X (.type "int") nInt1 := by
  refine ⟨_, call_int1.or call_int_str, fun xs S Q vs H Q' s r n k => ?_⟩
  unfold nInt1 at n
  split at n
  · rename_i i
    obtain ⟨v, rfl, r1⟩ := vrs1 r
    cases r1
    exact .inl (.inl ⟨i, rfl, k _ _ _ _ (.refl H) s (.int _) n⟩)
  · rename_i i
    obtain ⟨v, rfl, r1⟩ := vrs1 r
    cases r1
    exact .inl (.inr ⟨i, rfl, k _ _ _ _ (.refl H) s (.int _) n⟩)
  · rename_i z
    obtain ⟨v, rfl, r1⟩ := vrs1 r
    cases r1
    obtain ⟨m, h1, h2, h3⟩ := n
    exact .inr ⟨z, m, rfl, h1, h2, k _ _ _ _ (.refl H) s (.int _) h3⟩
  · exact n.elim
/-- str(a number) -/
def nStr1 : NL := fun xs S Q => match xs with
  | [.int i] => i.natAbs < 2 ^ 1900 ∧ Q (.str (toString i)) S
  | _ => False
theorem callN_str : CallN X (.type "str") nStr1 := by
  refine ⟨_, call_str_int, fun xs S Q vs H Q' s r n k => ?_⟩
  unfold nStr1 at n
  split at n
  · rename_i i
    obtain ⟨v, rfl, r1⟩ := vrs1 r
    cases r1
    exact ⟨i, rfl, Nat.lt_of_lt_of_le (PySem.Flt.log2_lt_of (by decide) n.1) (by decide), k _ _ _ _ (.refl H) s (.str _) n.2⟩
  · exact n.elim
/-- list(a list, a tuple) -/
def nList1 : NL := fun xs S Q => match xs with
  | [d] => (match seqOf S d with
    | some ds => ∀ p, S p = none → Q (.ref p) (put S p (.lst ds))
    | none => False)
  | _ => False
theorem callN_list : CallN X (.type "list") nList1 := by
  refine ⟨_, call_list_of, fun xs S Q vs H Q' s r n k => ?_⟩
  unfold nList1 at n
  split at n
  · rename_i d
    obtain ⟨v, rfl, rd⟩ := vrs1 r
    split at n
    · rename_i ds e1
      obtain ⟨p, ws, rfl, hs, r1⟩ := seqOf_ok s rd e1
      exact ⟨p, ws, rfl, hs, fun q nq => k _ _ _ _ (.new nq) (lst_ok s nq r1) (.ref q) (n q (s.fresh nq))⟩
    · exact n.elim
  · exact n.elim
/-- tuple(a list, a tuple) -/
def nTuple1 : NL := fun xs S Q => match xs with
  | [d] => (match seqOf S d with
    | some ds => Q (.tup ds) S
    | none => False)
  | _ => False
theorem callN_tuple : CallN X (.type "tuple") nTuple1 := by
  refine ⟨_, call_tuple_of, fun xs S Q vs H Q' s r n k => ?_⟩
  unfold nTuple1 at n
  split at n
  · rename_i d
    obtain ⟨v, rfl, rd⟩ := vrs1 r
    split at n
    · rename_i ds e1
      cases d with
      | tup es =>
        cases e1
        cases rd with
        | tup t r1 => exact ⟨_, _, rfl, .inr ⟨t.sq, k _ _ _ _ (.refl H) s (.tup t r1) n⟩⟩
      | rol es =>
        cases e1
        cases rd with
        | rol t r1 => exact ⟨_, _, rfl, .inl ⟨t.sq, fun q nq => k _ _ _ _ (.new nq) (s.more nq) (.tup (.inl upd_same) (r1.ext (.new nq))) n⟩⟩
      | ref a =>
        cases rd
        unfold seqOf at e1
        dsimp only at e1
        split at e1
        · rename_i es e2
          cases e1
          obtain ⟨ws, h1, r1⟩ := s.lst e2
          exact ⟨_, _, rfl, .inl ⟨SqL.of h1, fun q nq => k _ _ _ _ (.new nq) (s.more nq) (.tup (.inl upd_same) (r1.ext (.new nq))) n⟩⟩
        · cases e1
      | _ => cases e1
    · exact n.elim
  · exact n.elim

/-! ### isinstance -/
inductive Tg where
  | ty (n : String) | cls (c : Str)
  deriving DecidableEq
def Tg.v (K : PySem.W.Frag) : Tg → Value
  | .ty n => .type n
  | .cls c => .ref (He.ga K c)
def isT : Tg → Tg → Bool
  | .ty a, .ty b => a == b || (a == "bool" && b == "int")
  | .ty _, .cls _ => false
  | .cls _, .ty b => b == "ValueError"
  | .cls c, .cls d => decide (c = d) || decide (d = "MartError")
/-- the kinds that are asked, those that are asked for; CL: the text's own errors -/
def T1 (CL : List Str) : List Tg := [.ty "NoneType", .ty "bool", .ty "int", .ty "str", .ty "tuple", .ty "list", .ty "dict"] ++ CL.map Tg.cls
def T2 (CL : List Str) : List Tg := [.ty "int", .ty "bool", .ty "str", .ty "tuple", .ty "ValueError", .cls "MartError"] ++ CL.map Tg.cls
/-- what the text says of its classes of errors -/
structure KF (CL : List Str) (K : PySem.W.Frag) : Prop where
  isa : ∀ t ∈ T1 CL, ∀ u ∈ T2 CL, PySem.W.kitOne K (t.v K) (u.v K) = some (isT t u)
  exc : ∀ c ∈ CL, ExcC K (He.ga K c)
def tgOf (S : Sto) : D → Option Tg
  | .non => some (.ty "NoneType")
  | .bl _ => some (.ty "bool")
  | .int _ => some (.ty "int")
  | .str _ => some (.ty "str")
  | .tup _ => some (.ty "tuple")
  | .rol _ => some (.ty "list")
  | .ref a => (match S a with
    | some (.lst _) => some (.ty "list")
    | some (.dic _) => some (.ty "dict")
    | some (.exc c none) => some (.cls c)
    | _ => none)
  | _ => none
def clOf : D → Option Tg
  | .ty n => some (.ty n)
  | .cls c => some (.cls c)
  | _ => none
def clsOf : List D → Option (List Tg)
  | [] => some []
  | d :: r => match clOf d, clsOf r with
    | some t, some ts => some (t :: ts)
    | _, _ => none
def nIsi (CL : List Str) : NL := fun xs S Q => match xs with
  | [x, c] => (match tgOf S x with
    | some t => (match clOf c with
      | some u => (T1 CL).contains t = true ∧ (T2 CL).contains u = true ∧ Q (.bl (isT t u)) S
      | none => match c with
        | .tup cs => (match clsOf cs with
          | some us => (T1 CL).contains t = true ∧ us.all ((T2 CL).contains ·) = true ∧ Q (.bl (us.any (isT t))) S
          | none => False)
        | _ => False)
    | none => False)
  | _ => False
/-- isinstance of a caught exception that is held -/
def rIsX (K : PySem.W.Frag) : List V → Hp → VK → Prop := fun xs H Q => ∃ (p C : Addr) (c : V) (cv : Value) (b : Bool), xs = [.ref p, c] ∧ H p = some (.ext (excP p (.ref C) none)) ∧ ExcC K C ∧ (∀ u, RelV c u → u = cv) ∧ PySem.W.kitOne K (.ref C) cv = some b ∧ Q (.bl b) H
theorem inst_of {X : Cx} {pins : List (Addr × Obj)} {σ : L2.St} {H : Hp} {s : Shared} {p C : Addr} (I : Inv X pins σ H s) (e : H p = some (.ext (excP p (.ref C) none))) : ∃ oe, PySem.W.InstAt s.heap p oe C none := by
  obtain ⟨⟨oe, vs, h1, h2, h3⟩, _⟩ := I.hok p _ e
  refine ⟨oe, ?_⟩
  obtain ⟨oc, od, oda, osl⟩ := oe
  obtain ⟨h4, h5⟩ := h2
  dsimp only at h4 h5 h3
  subst h4 h5 h3
  exact ⟨h1, rfl, rfl, trivial⟩
theorem call_isX : CallR X (.builtin "isinstance") (rIsX X.K) := by
  intro pins s σ H xs us Q I r h
  obtain ⟨p, C, c, cv, b, rfl, e, EC, hcv, kb, q⟩ := h
  obtain ⟨u1, u2, rfl, r1, r2⟩ := vals2 r
  cases r1
  have ec := hcv _ r2
  subst ec
  obtain ⟨oe, J⟩ := inst_of I e
  exact PySem.W.kia_one (PySem.W.handS_kitx_exc EC.hg EC.hk EC.hs EC.hd EC.ha EC.hn EC.ht EC.hm) I.kIn J kb (fun z => nomatch z) fun tk => ⟨.bl b, H, I.kept (t' := tk) fun _ _ z => z, rfl, q⟩
/-- .. for a tuple of classes that was made -/
def rIsXT (K : PySem.W.Frag) : List V → Hp → VK → Prop := fun xs H Q => ∃ (p C tp : Addr) (cs : List V) (us : List Value) (b : Bool), xs = [.ref p, .ref tp] ∧ H p = some (.ext (excP p (.ref C) none)) ∧ ExcC K C ∧ TupR K H tp cs ∧ Paired ClsV cs us ∧ PySem.W.kitAny K (.ref C) us = some b ∧ Q (.bl b) H
theorem call_isXT : CallR X (.builtin "isinstance") (rIsXT X.K) := by
  intro pins s σ H xs us Q I r h
  obtain ⟨p, C, tp, cs, ws, b, rfl, e, EC, et, pc, kb, q⟩ := h
  obtain ⟨u1, u2, rfl, r1, r2⟩ := vals2 r
  cases r1; cases r2
  obtain ⟨oe, J⟩ := inst_of I e
  obtain ⟨its, rv, ht, hz⟩ := I.tuple et.sq
  have ei := ClsV.all pc rv
  subst ei
  obtain ⟨ot, g1, g2, n, g3⟩ := ht
  obtain ⟨oc, od, oda, osl⟩ := ot
  dsimp only at g2 g3
  subst g2 g3
  exact PySem.W.kia_tup (PySem.W.handS_kitx_exc EC.hg EC.hk EC.hs EC.hd EC.ha EC.hn EC.ht EC.hm) I.kIn J g1 kb (fun z => nomatch z) fun tk => ⟨.bl b, H, I.kept (t' := tk) fun _ _ z => z, rfl, q⟩
theorem clOf_ok {K : PySem.W.Frag} {H : Hp} {d : D} {v : V} {u : Tg} (r : VR K H d v) (e : clOf d = some u) : ClsV v (u.v K) := by
  cases r with
  | ty n => cases e; exact .ty n
  | cls c => cases e; exact .own _
  | _ => cases e
theorem clsOf_ok {K : PySem.W.Frag} {H : Hp} : ∀ {ds : List D} {vs : List V} {us : List Tg}, VRs K H ds vs → clsOf ds = some us → Paired ClsV vs (us.map (Tg.v K))
  | _, _, _, .nil, e => by
    simp only [clsOf, Option.some.injEq] at e
    subst e; exact .nil
  | _, _, _, .cons r t, e => by
    simp only [clsOf] at e
    split at e
    · rename_i a b e1 e2
      cases e
      exact .cons (clOf_ok r e1) (clsOf_ok t e2)
    · cases e
theorem kitAny_ok {CL : List Str} {K : PySem.W.Frag} (F : KF CL K) {t : Tg} (ht : t ∈ T1 CL) : ∀ {us : List Tg}, us.all ((T2 CL).contains ·) = true → PySem.W.kitAny K (t.v K) (us.map (Tg.v K)) = some (us.any (isT t))
  | [], _ => kitAny_nil
  | u :: us, h => by
    rw [List.all_cons, Bool.and_eq_true] at h
    rw [List.map_cons, List.any_cons]
    refine kitAny_cons (F.isa t ht u (List.contains_iff_mem.mp h.1)) (fun e => ?_) fun e => by rw [e]; rfl
    rw [e, Bool.false_or]
    exact kitAny_ok F ht h.2
/-- a value's kind, in the layer's words -/
theorem tgOf_ok {K : PySem.W.Frag} {S : Sto} {H : Hp} {x : D} {v : V} {t : Tg} (s : SR K S H) (r : VR K H x v) (e : tgOf S x = some t) : TyX K H v (t.v K) ∨ ∃ p c, v = .ref p ∧ t = .cls c ∧ H p = some (.ext (excP p (.ref (He.ga K c)) none)) := by
  cases r with
  | non => cases e; exact .inl (.base .non)
  | bl b => cases e; exact .inl (.base (.bl b))
  | int b => cases e; exact .inl (.base (.int b))
  | str b => cases e; exact .inl (.base (.str b))
  | tup tr _ =>
    cases e
    rcases tr with h | ⟨dd, sl, its, n, h, _⟩
    · exact .inl (.base (.tup h))
    · exact .inl (.kTuple h rfl)
  | rol tr _ =>
    cases e
    rcases tr with ⟨o, h⟩ | ⟨o, its, n, h, hc, _⟩
    · exact .inl (.base (.frz h))
    · exact .inl (.kList h hc)
  | ref p =>
    unfold tgOf at e
    dsimp only at e
    split at e
    · rename_i ds e1
      cases e
      obtain ⟨vs, h1, _⟩ := s.lst e1
      exact .inl (.base (.lst h1))
    · rename_i ds e1
      cases e
      obtain ⟨vs, h1, _⟩ := s.dic e1
      exact .inl (.base (.dK h1))
    · rename_i c e1
      cases e
      exact .inr ⟨p, c, rfl, rfl, s p _ e1⟩
    · cases e
  | ty n => cases e
  | cls n => cases e
theorem isE_mem {CL : List Str} {c : Str} (h : Tg.cls c ∈ T1 CL) : c ∈ CL := by
  unfold T1 at h
  rcases List.mem_append.mp h with h | h
  · simp only [List.mem_cons, List.not_mem_nil, or_false, reduceCtorEq] at h
  · obtain ⟨d, hd, e⟩ := List.mem_map.mp h
    cases e; exact hd
theorem callN_isi {CL : List Str} (F : KF CL X.K) : CallN X (.builtin "isinstance") (nIsi CL) := by
  refine ⟨_, (call_isi.or call_isiT).or ((call_isX.or call_isXT).or call_isiK), fun xs S Q vs H Q' s r n k => ?_⟩
  unfold nIsi at n
  split at n
  · rename_i x c
    obtain ⟨v, w, rfl, rx, rc⟩ := vrs2 r
    split at n
    · rename_i t et
      split at n
      · rename_i u eu
        obtain ⟨n1, n2, n3⟩ := n
        have h1 := List.contains_iff_mem.mp n1
        have kb := F.isa t h1 u (List.contains_iff_mem.mp n2)
        have cv := clOf_ok rc eu
        have q := k _ _ _ _ (.refl H) s (.bl _) n3
        rcases tgOf_ok s rx et with ty | ⟨p, c', rfl, rfl, e⟩
        · exact .inl (.inl ⟨v, w, _, _, _, rfl, cv, ty, kb, q⟩)
        · exact .inr (.inl (.inl ⟨p, _, w, _, _, rfl, e, F.exc _ (isE_mem h1), fun z rz => cv.eq rz, kb, q⟩))
      · split at n
        · rename_i cs _
          split at n
          · rename_i us eus
            obtain ⟨n1, n2, n3⟩ := n
            have h1 := List.contains_iff_mem.mp n1
            have kb := kitAny_ok F h1 n2
            have q := k _ _ _ _ (.refl H) s (.bl _) n3
            cases rc with
            | tup tr rr =>
              rename_i tp ws
              have cv := clsOf_ok rr eus
              rcases tr with h | ⟨dd, sl, its, m, h, hz, rv⟩
              · rcases tgOf_ok s rx et with ty | ⟨p, c', rfl, rfl, e⟩
                · exact .inl (.inr ⟨v, tp, ws, _, _, _, rfl, h, cv, ty, kb, q⟩)
                · exact .inr (.inl (.inr ⟨p, _, tp, ws, _, _, rfl, e, F.exc _ (isE_mem h1), .inl h, cv, kb, q⟩))
              · rcases tgOf_ok s rx et with ty | ⟨p, c', rfl, rfl, e⟩
                · refine .inr (.inr ⟨v, tp, dd, us.map (Tg.v X.K), m, sl, _, _, rfl, ?_, ty, kb, q⟩)
                  rw [← ClsV.all cv rv]; exact h
                · exact .inr (.inl (.inr ⟨p, _, tp, ws, _, _, rfl, e, F.exc _ (isE_mem h1), .inr ⟨dd, sl, its, m, h, hz, rv⟩, cv, kb, q⟩))
          · exact n.elim
        · exact n.elim
    · exact n.elim
  · exact n.elim
end
end N

set_option Elab.async false
set_option linter.all false
set_option maxRecDepth 100000
set_option maxHeartbeats 4000000
namespace N
variable [TabList]
open PySem PySem.Spec PyProof.Rows L2

/-! ### the context of a body -/
structure NX (X : Cx) (H0 : Hp) (w : NW) : Prop where
  tk : Takes X (lW X.K H0 w)
  po : PassesOwn (model X.prog X.w) X.A X.env X.xe
  calm : X.calm = true
  tb : LamX.Tabs TabList.T H0

/-! ### what a def promises -/
abbrev NSp := List D → Sto → NQ → (Str → Option Addr → Sto → Prop) → Prop
def lSp (K : PySem.W.Frag) (n : Nat) (sp : NSp) : Sp := fun vs H Q E => ∃ ds S Q' E', ds.length = n ∧ VRs K H ds vs ∧ SR K S H ∧ LamX.Tabs TabList.T H ∧ sp ds S Q' E' ∧
  (∀ d S' v H', HExt H H' → SR K S' H' → VR K H' d v → Q' d S' → Q v H') ∧ ∀ c d S' H', HExt H H' → SR K S' H' → E' c d S' → E (.ref (He.ga K c)) d H'
theorem lSp.len {K : PySem.W.Frag} {n : Nat} {sp : NSp} {vs : List V} {H : Hp} {Q : VK} {E : XK} (h : lSp K n sp vs H Q E) : vs.length = n := by
  obtain ⟨ds, S, Q', E', h1, h2, _⟩ := h
  rw [← h2.length]; exact h1
/-- what a caller needs of a def: ds the defaults that fill up -/
structure Fn (P : Program) (w : World) (K : PySem.W.Frag) (mg : Str → Option Value) (base : Heap) (k : Nat) (f : Addr) (n : Nat) (sp : NSp) : Prop where
  ex : ∃ fd ps, ps.length = n ∧ FnOk P w K mg base (L2.CX P w) k f fd ps (lSp K n sp) ∧ Binds K fd ps []
  kp : PySem.W.keepIn K (.ref f) = true
section
variable {X : Cx} {H0 : Hp} {w : NW} {a b c o : Expr} {ma mb mo : NE} {pos : Pos} {es : List Expr} {mr : NA} {k n : Nat} {f : Addr} {sp : NSp}
theorem sp_ok (cx : NX X H0 w) {e : Env} {S : Sto} {Q' : NQ} {ds : List D} {vs : List V} {σ : L2.St} {H H1 : Hp} {Q : VK} (A : At X.K H0 H1 σ e S) (x1 : HExt H H1) (rs : VRs X.K H1 ds vs) (hn : ds.length = n) (m : sp ds S Q' fun c d S' => w c d e S')
    (kk : ∀ d S' v H', HExt H H' → SR X.K S' H' → VR X.K H' d v → Q' d S' → Q v H') : lSp X.K n sp vs H1 Q (WE (lW X.K H0 w) σ) :=
  ⟨ds, S, Q', _, hn, rs, A.s, A.x.tab cx.tb, m, fun d S' v H' x s r q => kk d S' v H' (x1.trans x) s r q, fun c d S' H' x s q => ⟨c, e, S', rfl, A.next x s, q⟩⟩
def mCall (n : Nat) (sp : NSp) (w : NW) (mr : NA) : NE := fun e S Q => mr e S fun ds S1 => ds.length = n ∧ sp ds S1 Q fun c d S2 => w c d e S2
theorem je_call {x : Str} {p : Pos} (cx : NX X H0 w) (F : Fn X.prog X.w X.K X.mg X.base k f n sp) (hm : X.mg x = some (.ref f)) (hr : Room k X.A) (ha : JA X H0 (a :: es) mr) (hg : Gl X x := by rfl)
    (hdb : (x == ("__debug__" : Str)) = false := by decide +kernel) (he : starEach (a :: es) X.env = (false, eval a X.env) :: starEach es X.env := by rfl) (hpl : (backTo pos (starEach es X.env)).any (·.1) = false := by rfl) :
    JE X H0 (.Call (.Name x p) (a :: es) [] pos) (mCall n sp w mr) := by
  obtain ⟨fd, ps, h1, h2, h3⟩ := F.ex
  refine (pe_callS h2 hr hg hm F.kp h3 (fun σ => passAt cx.tk σ) ha hdb he hpl).imq fun σ H Q h => ?_
  obtain ⟨e, S, Q', A, m, kk⟩ := h
  exact ⟨e, S, _, A, m, fun ds S1 vs H1 x1 s1 rs q => sp_ok cx (A.next x1 s1) x1 rs q.1 q.2 kk⟩
theorem je_call0 {x : Str} {p : Pos} (cx : NX X H0 w) (F : Fn X.prog X.w X.K X.mg X.base k f 0 sp) (hm : X.mg x = some (.ref f)) (hr : Room k X.A) (hg : Gl X x := by rfl)
    (hdb : (x == ("__debug__" : Str)) = false := by decide +kernel) : JE X H0 (.Call (.Name x p) [] [] pos) (mCall 0 sp w mNil) := by
  obtain ⟨fd, ps, h1, h2, h3⟩ := F.ex
  refine ⟨fun pins s σ H Q I h => ?_⟩
  obtain ⟨e, S, Q', A, m, kk⟩ := h
  refine wpAny_Call_Name_kw (ld_glob I hg hm ?_ hdb)
  refine PySem.W.callWith_K0 I.kIn F.kp (run_fnS (us := []) h2 hr h3 (passAt cx.tk σ) I .nil ?_)
  exact sp_ok cx A (.refl H) .nil m.1 m.2 kk

/-! ### methods: by the instance's class -/
/-- the reading: everything is told at the instance -/
def tMethD (X : Cx) (m : Str) (E : L2.St → XK) (ta : TE) (t : TA) : TE := fun σ H Q => ta σ H fun x H1 => ∃ (p C dx : Addr) (fs : List (Str × V)) (f : Addr) (fd : FuncData) (ps : List Str) (sp : Sp) (k : Nat), x = .ref p ∧ H1 p = some (.ins C dx fs) ∧ fs.lookup m = none ∧
  Cls X.K C ∧ Meth X.K C m f ∧ FnOk X.prog X.w X.K X.mg X.base (L2.CX X.prog X.w) k f fd ps sp ∧ Binds X.K fd ps [] ∧ Room k X.A ∧ t σ H1 fun vs H2 => sp (x :: vs) H2 Q (E σ)
theorem pe_methD {m : Str} {apos : Pos} {E : L2.St → XK} {ta : TE} {t : TA} {pl : Sem Bool} (he : PE X o ta) (hx : ∀ σ, PassesAt (L2.CX X.prog X.w) X σ (E σ)) (ha : PA X (a :: es) t)
    (hst : starEach (a :: es) X.env = (false, eval a X.env) :: starEach es X.env := by rfl) (hpl : (backTo pos (starEach es X.env)).any (·.1) = false := by rfl)
    (ht : eval (.Call (.Attribute o m apos) (a :: es) [] pos) X.env = (do
      let ov ← eval o X.env
      standAt apos.atName
      let (f, first) ← holding [ov] (getMethod ov m pl)
      callWith pos f first (backTo pos (starEach (a :: es) X.env)) (backToKw pos (keywordEach [] X.env))) := by rfl) :
    PE X (.Call (.Attribute o m apos) (a :: es) [] pos) (tMethD X m E ta t) := by
  refine ⟨fun pins s σ H Q I h => ?_⟩
  refine PySem.W.methodCall_KW (pl := pl) (thn (he.run pins s σ H _ I h) fun u s1 ⟨x, H1, I1, rx, p, C, dx, fs, f, fd, ps, sp, k, ex, ea, l, cl, hm, F, hb, hr, q⟩ => ?_) ht
  subst ex
  obtain rfl : u = Value.ref p := rx
  refine getmeth_ok I1 ea cl hm l ?_
  refine PySem.W.callWith_K (first := [.ref p]) (h₀ := X.base) I.ok.mod.kin hm.kp (thn (ha.run pos pins s1 σ H1 _ I1 q) fun us s2 ⟨vs, H2, I2, r, q2⟩ => ⟨I2.kIn, ?_⟩) hst hpl
  exact run_fnS (us := .ref p :: us) (vs := .ref p :: vs) F hr hb (hx σ) I2 (.cons rfl r) q2
theorem pe_methD0 {m : Str} {apos : Pos} {E : L2.St → XK} {ta : TE} {pl : Sem Bool} (he : PE X o ta) (hx : ∀ σ, PassesAt (L2.CX X.prog X.w) X σ (E σ))
    (ht : eval (.Call (.Attribute o m apos) [] [] pos) X.env = (do
      let ov ← eval o X.env
      standAt apos.atName
      let (f, first) ← holding [ov] (getMethod ov m pl)
      callWith pos f first (backTo pos (starEach [] X.env)) (backToKw pos (keywordEach [] X.env))) := by rfl) :
    PE X (.Call (.Attribute o m apos) [] [] pos) (tMethD X m E ta tNil) := by
  refine ⟨fun pins s σ H Q I h => ?_⟩
  refine PySem.W.methodCall_KW (pl := pl) (thn (he.run pins s σ H _ I h) fun u s1 ⟨x, H1, I1, rx, p, C, dx, fs, f, fd, ps, sp, k, ex, ea, l, cl, hm, F, hb, hr, q⟩ => ?_) ht
  subst ex
  obtain rfl : u = Value.ref p := rx
  refine getmeth_ok I1 ea cl hm l ?_
  exact PySem.W.callWith_K0 (first := [.ref p]) I1.kIn hm.kp (run_fnS (us := [.ref p]) (vs := [.ref p]) F hr hb (hx σ) I1 (.cons rfl .nil) q)
/-- which def a method's name means, by the class: the arguments' number (self too), the promise -/
abbrev MT := Str → Option (Nat × NSp)
structure MtOk (X : Cx) (m : Str) (mt : MT) : Prop where
  ok : ∀ c n sp, mt c = some (n, sp) → ∃ f k, Room k X.A ∧ Meth X.K (He.ga X.K c) m f ∧ Fn X.prog X.w X.K X.mg X.base k f n sp
def mMeth (m : Str) (mt : MT) (w : NW) (mo : NE) (mr : NA) : NE := fun e S Q => mo e S fun x S1 => match x with
  | .ref p => (match S1 p with
    | some (.ins c fs) => fs.lookup m = none ∧ (match mt c with
      | some (n, sp) => mr e S1 fun ds S2 => ds.length + 1 = n ∧ sp (.ref p :: ds) S2 Q fun c d S3 => w c d e S3
      | none => False)
    | _ => False)
  | _ => False
theorem meth_ok {m : Str} {mt : MT} (cx : NX X H0 w) (hmt : MtOk X m mt) {t : TA} (ht : ∀ σ H Q, lA X.K H0 mr σ H Q → t σ H Q) {σ : L2.St} {H : Hp} {Q : VK} (h : lE X.K H0 (mMeth m mt w mo mr) σ H Q) :
    tMethD X m (WE (lW X.K H0 w)) (lE X.K H0 mo) t σ H Q := by
  obtain ⟨e, S, Q', A, h, kk⟩ := h
  refine ⟨e, S, _, A, h, fun x S1 vx H1 x1 s1 rx n1 => ?_⟩
  split at n1
  · rename_i p
    cases rx
    split at n1
    · rename_i c fs e1
      obtain ⟨dx, ws, h1, r1, co⟩ := s1.ins e1
      obtain ⟨n1, n2⟩ := n1
      split at n2
      · rename_i n sp emt
        obtain ⟨f, k, hr, hm, F⟩ := hmt.ok c n sp emt
        obtain ⟨fd, ps, h3, h4, h5⟩ := F.ex
        refine ⟨p, _, dx, ws, f, fd, ps, _, k, rfl, h1, (KVR.look (f := m) r1).2 n1, co.cl, hm, h4, h5, hr, ht _ _ _ ?_⟩
        refine ⟨e, S1, _, A.next x1 s1, n2, fun ds S2 vs H2 x2 s2 rs q => ?_⟩
        exact sp_ok cx (A.next (x1.trans x2) s2) (x1.trans x2) (.cons (.ref p) rs) q.1 q.2 kk
      · exact n2.elim
    · exact n1.elim
  · exact n1.elim
theorem je_meth {m : Str} {mt : MT} {apos : Pos} {pl : Sem Bool} (cx : NX X H0 w) (hmt : MtOk X m mt) (he : JE X H0 o mo) (ha : JA X H0 (a :: es) mr)
    (hst : starEach (a :: es) X.env = (false, eval a X.env) :: starEach es X.env := by rfl) (hpl : (backTo pos (starEach es X.env)).any (·.1) = false := by rfl)
    (ht : eval (.Call (.Attribute o m apos) (a :: es) [] pos) X.env = (do
      let ov ← eval o X.env
      standAt apos.atName
      let (f, first) ← holding [ov] (getMethod ov m pl)
      callWith pos f first (backTo pos (starEach (a :: es) X.env)) (backToKw pos (keywordEach [] X.env))) := by rfl) :
    JE X H0 (.Call (.Attribute o m apos) (a :: es) [] pos) (mMeth m mt w mo mr) :=
  (pe_methD (pl := pl) he (fun σ => passAt cx.tk σ) ha hst hpl ht).imq fun _ _ _ h => meth_ok cx hmt (fun _ _ _ h => h) h
theorem je_meth0 {m : Str} {mt : MT} {apos : Pos} {pl : Sem Bool} (cx : NX X H0 w) (hmt : MtOk X m mt) (he : JE X H0 o mo)
    (ht : eval (.Call (.Attribute o m apos) [] [] pos) X.env = (do
      let ov ← eval o X.env
      standAt apos.atName
      let (f, first) ← holding [ov] (getMethod ov m pl)
      callWith pos f first (backTo pos (starEach [] X.env)) (backToKw pos (keywordEach [] X.env))) := by rfl) :
    JE X H0 (.Call (.Attribute o m apos) [] [] pos) (mMeth m mt w mo mNil) :=
  (pe_methD0 (pl := pl) he (fun σ => passAt cx.tk σ) ht).imq fun _ _ _ h => meth_ok cx hmt (fun σ H Q ⟨e, S, Q', A, m, k⟩ => k [] S [] H (.refl H) A.s .nil m) h

/-! ### a new instance -/
theorem run_makeS {C : Addr} {fd : FuncData} {ps : List Str} {sp : Sp} {E : XK} {pins : List (Addr × Obj)} {σ : L2.St} {H : Hp} {s : Shared} {Q : VK} {us : List Value} {vs : List V} (M : Mk X.K C f) (F : FnOk X.prog X.w X.K X.mg X.base (L2.CX X.prog X.w) k f fd ps sp) (hr : Room (k + 1) X.A) (hb : Binds X.K fd ps [])
    (hx : PassesAt (L2.CX X.prog X.w) X σ E) (I : Inv X pins σ H s) (r : Vals vs us)
    (h : ∀ x dx, H x = none → H dx = none → dx ≠ x → sp (.ref x :: vs) (upd (upd H dx (.own x)) x (.ins C dx [])) (fun v H2 => v = .non ∧ Q (.ref x) H2) E) :
    wpAny (model X.prog X.w) X.A (call (.ref C) us) (EP X pins σ Q) X.xe s := by
  have hq := h (s.heap.objs.size + 1) s.heap.objs.size (I.hok.fresh (Nat.le_succ _)) (I.hok.fresh (Nat.le_refl _)) (Nat.ne_of_lt (Nat.lt_succ_self _))
  have I2 := Inv.made (C := C) I
  have r2 : Vals (V.ref (s.heap.objs.size + 1) :: vs) (Value.ref (s.heap.objs.size + 1) :: us) := .cons rfl r
  have hl : (Value.ref (s.heap.objs.size + 1) :: us ++ []).length = ps.length := by
    have e := r2.length
    rw [F.len _ _ _ _ hq] at e
    rw [List.append_nil]
    exact e.symm
  have hbb := hb _ (Value.ref (s.heap.objs.size + 1) :: us) I2.kIn hl
  rw [List.append_nil] at hbb
  refine wpAny_call (make_map (f := f) I.kIn M.makes M.init (beq_iff_eq.mp M.fn) (codeAny_mono (F.run _ X.stack _ _ ⟨Value.ref (s.heap.objs.size + 1) :: us, []⟩ (Value.ref (s.heap.objs.size + 1) :: us) _ _ E (hr.make C us [])
    (I2.env0.make C us []) hbb r2 hq) fun r s' hq' => ?_))
  cases r with
  | error e => exact hx pins _ _ e s' I2 hq'
  | ok fl =>
    cases fl with
    | ret u =>
      obtain ⟨v, H', I3, rv, ev, q3⟩ := I2.after hq'
      subst ev
      exact ⟨rv, ⟨V.ref (s.heap.objs.size + 1), H', I3, rfl, q3⟩⟩
    | next => exact False.elim hq'
    | brk => exact False.elim hq'
    | cont => exact False.elim hq'
def mMake (c : Str) (n : Nat) (sp : NSp) (w : NW) (mr : NA) : NE := fun e S Q => mr e S fun ds S1 => ds.length + 1 = n ∧ ∀ x, S1 x = none → sp (.ref x :: ds) (put S1 x (.ins c [])) (fun v S2 => isNonD v = true ∧ Q (.ref x) S2) fun c d S2 => w c d e S2
theorem make_ok (cx : NX X H0 w) {c : Str} {vs : List V} {ds : List D} {e : Env} {S : Sto} {Q' : NQ} {σ : L2.St} {H H1 : Hp} {Q : VK} (co : ClsOk X.K c) (A : At X.K H0 H1 σ e S) (x1 : HExt H H1) (rs : VRs X.K H1 ds vs) (hn : ds.length + 1 = n)
    (m : ∀ x, S x = none → sp (.ref x :: ds) (put S x (.ins c [])) (fun v S2 => isNonD v = true ∧ Q' (.ref x) S2) fun c d S2 => w c d e S2)
    (kk : ∀ d S' v H', HExt H H' → SR X.K S' H' → VR X.K H' d v → Q' d S' → Q v H') (x dx : Addr) (nx : H1 x = none) (nd : H1 dx = none) (ne : dx ≠ x) :
    lSp X.K n sp (.ref x :: vs) (upd (upd H1 dx (.own x)) x (.ins (He.ga X.K c) dx [])) (fun v H2 => v = .non ∧ Q (.ref x) H2) (WE (lW X.K H0 w) σ) := by
  have nx2 : upd H1 dx (.own x) x = none := by rw [upd_ne (Ne.symm ne)]; exact nx
  have y1 : HExt H1 (upd H1 dx (.own x)) := .new nd
  have y2 : HExt (upd H1 dx (.own x)) (upd (upd H1 dx (.own x)) x (.ins (He.ga X.K c) dx [])) := .new nx2
  have s2 : SR X.K (put S x (.ins c [])) (upd (upd H1 dx (.own x)) x (.ins (He.ga X.K c) dx [])) := (A.s.more nd).put (o := .ins c []) y2 ⟨dx, [], upd_same, .nil, co⟩
  refine ⟨.ref x :: ds, _, _, _, hn, .cons (.ref x) (rs.ext (y1.trans y2)), s2, ((A.x.trans y1).trans y2).tab cx.tb, m x (A.s.fresh nx), fun d S' v H' z s r q => ?_, fun c d S' H' z s q => ?_⟩
  · obtain ⟨q1, q2⟩ := q
    refine ⟨?_, kk _ _ _ _ (((x1.trans y1).trans y2).trans z) s (.ref x) q2⟩
    cases d with
    | non => cases r; rfl
    | _ => cases q1
  · exact ⟨c, e, _, rfl, A.next ((y1.trans y2).trans z) s, q⟩
theorem je_make {c : Str} {p : Pos} (cx : NX X H0 w) (co : ClsOk X.K c) (M : Mk X.K (He.ga X.K c) f) (F : Fn X.prog X.w X.K X.mg X.base k f n sp) (hm : X.mg c = some (.ref (He.ga X.K c))) (hr : Room (k + 1) X.A) (ha : JA X H0 (a :: es) mr) (hg : Gl X c := by rfl)
    (hdb : (c == ("__debug__" : Str)) = false := by decide +kernel) (he : starEach (a :: es) X.env = (false, eval a X.env) :: starEach es X.env := by rfl) (hpl : (backTo pos (starEach es X.env)).any (·.1) = false := by rfl) :
    JE X H0 (.Call (.Name c p) (a :: es) [] pos) (mMake c n sp w mr) := by
  obtain ⟨fd, ps, h1, h2, h3⟩ := F.ex
  refine ⟨fun pins s σ H Q I h => ?_⟩
  obtain ⟨e, S, Q', A, m, kk⟩ := h
  refine wpAny_Call_Name_kw (ld_glob I hg hm ?_ hdb)
  refine PySem.W.callWith_K (h₀ := X.base) I.ok.mod.kin M.kp (thn (ha.run pos pins s σ H _ I ⟨e, S, _, A, m, fun ds S1 vs H1 x1 s1 rs q => (show ∃ ds S1, HExt H H1 ∧ SR X.K S1 H1 ∧ VRs X.K H1 ds vs ∧ _ from ⟨ds, S1, x1, s1, rs, q⟩)⟩) fun us s1 ⟨vs, H1, I1, r, ds, S1, x1, sr1, rs, q⟩ => ⟨I1.kIn, ?_⟩) he hpl
  exact run_makeS M h2 hr h3 (passAt cx.tk σ) I1 r fun x dx nx nd ne => make_ok cx co (A.next x1 sr1) x1 rs q.1 q.2 kk x dx nx nd ne
theorem je_make0 {c : Str} {p : Pos} (cx : NX X H0 w) (co : ClsOk X.K c) (M : Mk X.K (He.ga X.K c) f) (F : Fn X.prog X.w X.K X.mg X.base k f n sp) (hm : X.mg c = some (.ref (He.ga X.K c))) (hr : Room (k + 1) X.A) (hg : Gl X c := by rfl)
    (hdb : (c == ("__debug__" : Str)) = false := by decide +kernel) : JE X H0 (.Call (.Name c p) [] [] pos) (mMake c n sp w mNil) := by
  obtain ⟨fd, ps, h1, h2, h3⟩ := F.ex
  refine ⟨fun pins s σ H Q I h => ?_⟩
  obtain ⟨e, S, Q', A, m, kk⟩ := h
  refine wpAny_Call_Name_kw (ld_glob I hg hm ?_ hdb)
  refine PySem.W.callWith_K0 I.kIn M.kp (run_makeS (us := []) M h2 hr h3 (passAt cx.tk σ) I .nil fun x dx nx nd ne => make_ok cx co A (.refl H) .nil m.1 m.2 kk x dx nx nd ne)

/-! ### a def, by its body -/
def startN : Nat → List D → Env
  | 0, ds => ds.map some
  | n + 1, [] => none :: startN n []
  | n + 1, d :: r => some d :: startN n r
theorem startN_nil (n : Nat) : startN n [] = List.replicate n none := by
  induction n with
  | zero => rfl
  | succ n ih => unfold startN; rw [ih]; rfl
theorem startN_eq : ∀ (n : Nat) (ds : List D), startN n ds = ds.map some ++ List.replicate (n - ds.length) none
  | 0, ds => by unfold startN; simp
  | n + 1, [] => by rw [startN_nil]; simp
  | n + 1, d :: r => by unfold startN; rw [startN_eq n r]; simp
/-- the promise that a body keeps: N its slots' number -/
def spOf (N : Nat) (body : NW → NS) : NSp := fun ds S Q E => body (fun c d _ S' => E c d S') { nx := fun _ S' => Q .non S', rt := Q } (startN N ds) S
theorem fn_body {P : Program} {w : World} {K : PySem.W.Frag} {mg : Str → Option Value} {base : Heap} {x qual : Str} {params : Arguments} {body : List Stmt} {scope : Scope} {f : Addr} {fd : FuncData} {N ps : List Str} {k : Nat} {m : NW → NS}
    (F : FunD K x qual params body scope [] [] f fd) (S : FnScope N ps scope)
    (hb : ∀ (cdv : Value) (A : Around) (outer : List PySem.Env) (s : Shared) (H : Hp) (E : XK) (w' : NW), Room k (A.deeper (envOfC qual scope s.heap.objs.size f cdv)) → NX (cxOf (L2.CX P w) P w K mg base N qual scope f cdv A outer s H E) H w' →
      JSs (cxOf (L2.CX P w) P w K mg base N qual scope f cdv A outer s H E) H body (m w')) :
    FnOk P w K mg base (L2.CX P w) (k + 1) f fd ps (lSp K ps.length (spOf N.length m)) := by
  refine F.ok S (fun vs H Q E h => h.len) (fun cdv A outer s H vs Q E hr h => ?_)
  obtain ⟨ds, S0, Q', E', h1, h2, h3, h3t, h4, h5, h6⟩ := h
  have tk0 : Takes (cxOf (L2.CX P w) P w K mg base N qual scope f cdv A outer s H E) (fun cls d _ H' => E cls d H') := takes_of rfl rfl rfl rfl
  have tk : Takes (cxOf (L2.CX P w) P w K mg base N qual scope f cdv A outer s H E) (lW K H fun c d _ S' => E' c d S') :=
    tk0.imp fun cls d σ H' ⟨c, e, S', ec, A', q⟩ => by
      rw [ec]; exact h6 c d S' H' A'.x A'.s q
  refine ⟨_, hb cdv A outer s H E _ hr ⟨tk, passes_of rfl, rfl, h3t⟩, ?_⟩
  refine ⟨startN N.length ds, S0, _, ⟨.refl H, ?_, h3⟩, h4, ⟨fun e S' σ H' x A' q => h5 _ _ _ _ x A'.s .non q, fun d S' v H' x s r q => h5 _ _ _ _ x s r q, fun _ _ _ _ _ _ q => q, fun _ _ _ _ _ _ q => q⟩⟩
  rw [startN_eq]
  unfold L2.start
  rw [h2.length]
  exact ER.app (ER.some h2) (ER.none _)
end
end N

set_option Elab.async false
set_option linter.all false
set_option maxRecDepth 100000
set_option maxHeartbeats 4000000
namespace N
variable [TabList]
open PySem PySem.Spec PyProof.Rows L2
section
variable {X : Cx} {H0 : Hp} {w : NW} {a b c o : Expr} {ma mb mo : NE} {pos : Pos} {es : List Expr} {mr : NA} {k n : Nat} {f : Addr} {sp : NSp} {st : Stmt} {rest sa sb : List Stmt} {t u : NS} {tc : NT}

/-! ### blocks -/
def sNext : NS := fun D e S => D.nx e S
def sSeq (t u : NS) : NS := fun D e S => t { D with nx := u D } e S
theorem jss_nil : JSs X H0 [] sNext := pss_nil.imq fun D σ H ⟨e, S, D', A, m, k⟩ => k.nx e S σ H (.refl H) A m
theorem jss_one (h : JS X H0 st t) : JSs X H0 [st] t := pss_one h
theorem jss_cons (h1 : JS X H0 st t) (h2 : JSs X H0 rest u) : JSs X H0 (st :: rest) (sSeq t u) :=
  (pss_cons h1 h2).imq fun D σ H ⟨e, S, D', A, m, k⟩ => ⟨e, S, _, A, m, ⟨fun e' S' σ' H' x A' q => ⟨e', S', D', A', q, k.ext x⟩, k.rt, k.bk, k.ct⟩⟩
theorem js_pass : JS X H0 (.Pass pos) sNext := ps_pass.imq fun D σ H ⟨e, S, D', A, m, k⟩ => k.nx e S σ H (.refl H) A m
def sBreak : NS := fun D e S => D.bk e S
def sCont : NS := fun D e S => D.ct e S
theorem js_break : JS X H0 (.Break pos) sBreak := ps_break.imq fun D σ H ⟨e, S, D', A, m, k⟩ => k.bk e S σ H (.refl H) A m
theorem js_continue : JS X H0 (.Continue pos) sCont := ps_continue.imq fun D σ H ⟨e, S, D', A, m, k⟩ => k.ct e S σ H (.refl H) A m
def sDrop (m : NE) : NS := fun D e S => m e S fun _ S1 => D.nx e S1
theorem js_expr (h : JE X H0 a ma) (hs : swapsWith a none pos.line X.env = pure false := by rfl) : JS X H0 (.Expr a pos) (sDrop ma) :=
  (ps_expr h hs).imq fun D σ H ⟨e, S, D', A, m, k⟩ => ⟨e, S, _, A, m, fun d S1 v H1 x s r q => k.nx e S1 σ H1 x (A.next x s) q⟩
def sRet (m : NE) : NS := fun D e S => m e S D.rt
theorem js_ret (h : JE X H0 a ma) : JS X H0 (.Return (some a) pos) (sRet ma) :=
  (ps_ret h).imq fun D σ H ⟨e, S, D', A, m, k⟩ => ⟨e, S, _, A, m, fun d S1 v H1 x s r q => k.rt d S1 v H1 x s r q⟩
def sIf (c : NT) (t u : NS) : NS := fun D e S => c e S fun b S1 => match b with
  | true => t D e S1
  | false => u D e S1
theorem js_if (hc : JT X H0 c tc) (ha : JSs X H0 sa t) (hb : JSs X H0 sb u) : JS X H0 (.If c sa sb pos) (sIf tc t u) :=
  (ps_if hc ha hb).imq fun D σ H ⟨e, S, D', A, m, k⟩ => ⟨e, S, _, A, m, fun b S1 H1 x s q => by
    cases b with
    | true => exact iteT ⟨e, S1, D', A.next x s, q, k.ext x⟩
    | false => exact iteF ⟨e, S1, D', A.next x s, q, k.ext x⟩⟩

/-! ### targets -/
abbrev NG := D → Env → Sto → (Env → Sto → Prop) → Prop
abbrev NGs := List D → Env → Sto → (Env → Sto → Prop) → Prop
section
variable (K : PySem.W.Frag) (H0 : Hp)
def lG (m : NG) : TG := fun v σ H Q => ∃ d e S Q', VR K H d v ∧ At K H0 H σ e S ∧ m d e S Q' ∧ ∀ e' S' σ' H', HExt H H' → At K H0 H' σ' e' S' → Q' e' S' → Q σ' H'
def lGs (m : NGs) : TGs := fun vs σ H Q => ∃ ds e S Q', VRs K H ds vs ∧ At K H0 H σ e S ∧ m ds e S Q' ∧ ∀ e' S' σ' H', HExt H H' → At K H0 H' σ' e' S' → Q' e' S' → Q σ' H'
end
theorem _root_.L2.PG.imq {e : Expr} {t t' : TG} (h : PG X e t) (i : ∀ v σ H Q, t' v σ H Q → t v σ H Q) : PG X e t' := ⟨fun pins s σ H v u Q I r q => h.run pins s σ H v u Q I r (i _ _ _ _ q)⟩
theorem _root_.L2.PGs.imq {e : List Expr} {t t' : TGs} (h : PGs X e t) (i : ∀ v σ H Q, t' v σ H Q → t v σ H Q) : PGs X e t' := ⟨fun pins s σ H v u Q I r q => h.run pins s σ H v u Q I r (i _ _ _ _ q)⟩
abbrev JG (X : Cx) (H0 : Hp) (e : Expr) (m : NG) : Prop := PG X e (lG X.K H0 m)
abbrev JGs (X : Cx) (H0 : Hp) (e : List Expr) (m : NGs) : Prop := PGs X e (lGs X.K H0 m)
theorem At.set {K : PySem.W.Frag} {H : Hp} {σ : L2.St} {e : Env} {S : Sto} {d : D} {v : V} (A : At K H0 H σ e S) (r : VR K H d v) (i : Nat) : At K H0 H (σ.set i (some v)) (e.set i (some d)) S := ⟨A.x, A.e.set r i, A.s⟩
def gNm (i : Nat) : NG := fun d e S Q => Q (e.set i (some d)) S
theorem jg_name {i : Nat} {x : Str} (hN : X.N.Nodup) (hi : X.N[i]? = some x := by rfl) (hx : Loc X.env.scope x := by first | exact Or.inl rfl | exact Or.inr rfl) (hf : X.fn x = true ∨ X.env.scope.names.lookup x = some .local := by first | exact .inl rfl | exact .inr rfl) : JG X H0 (.Name x pos) (gNm i) :=
  (pg_name hN hi hx hf).imq fun v σ H Q ⟨d, e, S, Q', r, A, m, k⟩ => k _ _ _ _ (.refl H) (A.set r i) m
def gsNil : NGs := fun ds e S Q => match ds with
  | [] => Q e S
  | _ => False
def gsCons (t : NG) (u : NGs) : NGs := fun ds e S Q => match ds with
  | d :: r => t d e S fun e1 S1 => u r e1 S1 Q
  | [] => False
theorem jgs_nil : JGs X H0 [] gsNil := pgs_nil.imq fun v σ H Q ⟨ds, e, S, Q', r, A, m, k⟩ => by
  cases r with
  | nil => exact ⟨rfl, k _ _ _ _ (.refl H) A m⟩
  | cons _ _ => exact m.elim
theorem jgs_cons {t : NG} {u : NGs} (h1 : JG X H0 a t) (h2 : JGs X H0 es u) (hs : (assignEach (a :: es) X.env).map (·.2) = assign a X.env :: (assignEach es X.env).map (·.2) := by rfl) : JGs X H0 (a :: es) (gsCons t u) :=
  (pgs_cons h1 h2 hs).imq fun vs σ H Q ⟨ds, e, S, Q', r, A, m, k⟩ => by
    cases r with
    | nil => exact m.elim
    | cons r rr => exact ⟨_, _, rfl, _, e, S, _, r, A, m, fun e1 S1 σ1 H1 x A1 m1 => ⟨_, e1, S1, Q', rr.ext x, A1, m1, fun e2 S2 σ2 H2 x2 A2 q => k e2 S2 σ2 H2 (x.trans x2) A2 q⟩⟩
/-- (a, b, ..) = a tuple of that length -/
def gTp (n : Nat) (t : NGs) : NG := fun d e S Q => match d with
  | .tup ds => ds.length = n ∧ t ds e S Q
  | _ => False
theorem jg_tup {k n : Nat} {t : NGs} (cx : NX X H0 w) (h : JGs X H0 es t) (hn : (assignEach es X.env).length = n := by rfl) (hst : (assignEach es X.env).findIdx? (·.1) = none := by rfl) : JG X H0 (.Tuple es k pos) (gTp n t) :=
  (pg_tup cx.calm h hn hst).imq fun v σ H Q ⟨d, e, S, Q', r, A, m, k⟩ => by
    unfold gTp at m
    split at m
    · rename_i ds
      cases r with
      | tup tr rr => exact ⟨_, _, rfl, tr.sq, by rw [← rr.length]; exact m.1, ds, e, S, Q', rr, A, m.2, k⟩
    · exact m.elim
def sAsg (m : NE) (g : NG) : NS := fun D e S => m e S fun d S1 => g d e S1 D.nx
theorem js_asg {tg : Expr} {g : NG} (he : JE X H0 a ma) (hg : JG X H0 tg g) (hs : swapsWithSole [tg] a pos.line X.env = pure false := by rfl) (hw : swappedStores [tg] a X.env = pure none := by rfl)
    (h1 : (assignEach [tg] X.env).map (·.2) = [assign tg X.env] := by rfl) : JS X H0 (.Assign [tg] a pos) (sAsg ma g) :=
  (ps_asg he hg hs hw h1).imq fun D σ H ⟨e, S, D', A, m, k⟩ => ⟨e, S, _, A, m, fun d S1 v H1 x s r q =>
    ⟨d, e, S1, _, r, A.next x s, q, fun e2 S2 σ2 H2 x2 A2 q2 => k.nx e2 S2 σ2 H2 (x.trans x2) A2 q2⟩⟩
def sSet (i : Nat) (m : NE) : NS := fun D e S => m e S fun d S1 => D.nx (e.set i (some d)) S1
theorem js_set {i : Nat} {x : Str} {pos' : Pos} (hN : X.N.Nodup) (he : JE X H0 a ma) (hi : X.N[i]? = some x := by rfl) (hx : Loc X.env.scope x := by first | exact Or.inl rfl | exact Or.inr rfl) (hs : swapsWith a (some (.Name x pos')) pos.line X.env = pure false := by rfl) (hf : X.fn x = true ∨ X.env.scope.names.lookup x = some .local := by first | exact .inl rfl | exact .inr rfl) :
    JS X H0 (.Assign [.Name x pos'] a pos) (sSet i ma) :=
  (ps_set hN hi hx he hs hf).imq fun D σ H ⟨e, S, D', A, m, k⟩ => ⟨e, S, _, A, m, fun d S1 v H1 x s r q => k.nx _ _ _ _ x ((A.next x s).set r i) q⟩

/-! ### o[i] = v -/
def dput (kvs : List (Key × D)) (k : Key) (v : D) : List (Key × D) :=
  if kvs.any (fun kv => decide (kv.1 = k)) then kvs.map (fun kv => if kv.1 = k then (kv.1, v) else kv) else kvs ++ [(k, v)]
def nSet : D → D → D → Sto → (Sto → Prop) → Prop := fun o i v S Q => match o with
  | .ref p => (match S p with
    | some (.lst ds) => (match i with
      | .int j => (match ixN ds.length j with
        | some k => Q (put S p (.lst (ds.set k v)))
        | none => False)
      | _ => False)
    | some (.dic kvs) => (match keyD i with
      | some k => kvs.length < sizeLine ∧ Q (put S p (.dic (dput kvs k v)))
      | none => False)
    | _ => False)
  | _ => False
def Set3 (K : PySem.W.Frag) (t : TSet) : Prop := ∀ (o i d : D) S Q vo vi v H Q', SR K S H → VR K H o vo → VR K H i vi → VR K H d v → nSet o i d S Q → (∀ S' H', HExt H H' → SR K S' H' → Q S' → Q' H') → t vo vi v H Q'
theorem pset_or {t t' : TSet} (h : PSet X t) (h' : PSet X t') : PSet X (fun o i v H Q => t o i v H Q ∨ t' o i v H Q) := by
  intro pins s σ H o i v ov iv u Q I ro ri rv q
  rcases q with q | q
  · exact h pins s σ H o i v ov iv u Q I ro ri rv q
  · exact h' pins s σ H o i v ov iv u Q I ro ri rv q
theorem dput_ok {K : PySem.W.Frag} {H : Hp} {kvs : List (Key × D)} {ws : List (Key × V)} (r : KVR K H kvs ws) (k : Key) {d : D} {v : V} (rd : VR K H d v) : KVR K H (dput kvs k d) (putK ws k v) := by
  have hany : kvs.any (fun kv => decide (kv.1 = k)) = ws.any (fun kv => decide (kv.1 = k)) := by
    clear rd
    have : ∀ {kvs : List (Key × D)} {ws : List (Key × V)}, KVR K H kvs ws → kvs.any (fun kv => decide (kv.1 = k)) = ws.any (fun kv => decide (kv.1 = k)) := by
      intro kvs ws r
      induction r with
      | nil => rfl
      | cons h t ih => rw [List.any_cons, List.any_cons, ih, h.1]
    exact this r
  unfold dput putK
  rw [hany]
  split
  · have : ∀ {kvs : List (Key × D)} {ws : List (Key × V)}, KVR K H kvs ws → KVR K H (kvs.map fun kv => if kv.1 = k then (kv.1, d) else kv) (ws.map fun kv => if kv.1 = k then (kv.1, v) else kv) := by
      intro kvs ws r
      induction r with
      | nil => exact .nil
      | cons h t ih =>
        rw [List.map_cons, List.map_cons]
        refine .cons ?_ ih
        rename_i p q ps qs
        by_cases e : p.1 = k
        · rw [if_pos e, if_pos (h.1 ▸ e)]; exact ⟨h.1, rd⟩
        · rw [if_neg e, if_neg (fun z => e (h.1.trans z))]; exact h
    exact this r
  · have : ∀ {kvs : List (Key × D)} {ws : List (Key × V)}, KVR K H kvs ws → KVR K H (kvs ++ [(k, d)]) (ws ++ [(k, v)]) := by
      intro kvs ws r
      induction r with
      | nil => exact .cons ⟨rfl, rd⟩ .nil
      | cons h t ih => exact .cons h ih
    exact this r
theorem setN (hu : X.A.units + 1 < cLine) : ∃ t, PSet X t ∧ Set3 X.K t := by
  refine ⟨_, pset_or set_list (set_dict hu), fun o i d S Q vo vi v H Q' s ro ri rv n k => ?_⟩
  unfold nSet at n
  split at n
  · rename_i p
    cases ro
    split at n
    · rename_i ds e1
      split at n
      · rename_i j
        cases ri
        split at n
        · rename_i q eq
          obtain ⟨vs, h1, r1⟩ := s.lst e1
          have x : HExt H (upd H p (.lst (vs.set q v))) := .upd h1 True.intro
          refine .inl ⟨p, vs, j, q, rfl, rfl, h1, by rw [← r1.length]; exact eq, ?_⟩
          exact k _ _ x (s.put (o := .lst (ds.set q d)) x ⟨_, upd_same, (r1.set rv q).ext x⟩) n
        · exact n.elim
      · exact n.elim
    · rename_i kvs e1
      split at n
      · rename_i kk ek
        have := keyD_ok ri ek
        subst this
        obtain ⟨ws, h1, r1⟩ := s.dic e1
        have x : HExt H (upd H p (.dK (putK ws kk v))) := .upd h1 True.intro
        refine .inr ⟨p, _, rfl, .k h1 (by rw [← Paired.length r1]; exact n.1), ?_⟩
        exact k _ _ x (s.put (o := .dic (dput kvs kk d)) x ⟨_, upd_same, KVR.ext x (dput_ok r1 kk rv)⟩) n.2
      · exact n.elim
    · exact n.elim
  · exact n.elim
def gIx (mo mi : NE) : NG := fun d e S Q => mo e S fun x S1 => mi e S1 fun i S2 => nSet x i d S2 fun S3 => Q e S3
theorem jg_ix {i : Expr} {mi : NE} (hu : X.A.units + 1 < cLine) (ho : JE X H0 o mo) (hi : JE X H0 i mi)
    (ha : ∀ v, assign (.Subscript o i pos) X.env v = (do
      let ov ← holding [v] (eval o X.env)
      let iv ← holding [v, ov] (eval i X.env)
      standAt pos
      holding [v, ov, iv] (setItem ov iv v)
      release [v, ov, iv] []) := by intro _; rfl) : JG X H0 (.Subscript o i pos) (gIx mo mi) := by
  obtain ⟨t, h1, h2⟩ := setN (X := X) hu
  refine (pg_sub ho hi h1 ha).imq fun v σ H Q ⟨d, e, S, Q', r, A, m, k⟩ => ?_
  refine ⟨e, S, _, A, m, fun x S1 vx H1 x1 s1 rx m1 => ⟨e, S1, _, A.next x1 s1, m1, fun y S2 vy H2 x2 s2 ry m2 => ?_⟩⟩
  exact h2 x y d S2 _ vx vy v H2 _ s2 (rx.ext x2) ry ((r.ext x1).ext x2) m2 fun S3 H3 x3 s3 q => k e S3 σ H3 ((x1.trans x2).trans x3) (A.next ((x1.trans x2).trans x3) s3) q

/-! ### op= -/
def sAug (i : Nat) (m : NE) (n : N2) : NS := fun D e S => match nth e i with
  | some x => m e S fun y S1 => n x y S1 fun z S2 => D.nx (e.set i (some z)) S2
  | none => False
theorem js_aug {i : Nat} {x : Str} {op : Operator} {n : N2} {pos' : Pos} (hN : X.N.Nodup) (hn : OpN X (inplaceOp op) n) (he : JE X H0 a ma) (hi : X.N[i]? = some x := by rfl) (hx : Loc X.env.scope x := by first | exact Or.inl rfl | exact Or.inr rfl) (hf : X.fn x = true ∨ X.env.scope.names.lookup x = some .local := by first | exact .inl rfl | exact .inr rfl) :
    JS X H0 (.AugAssign (.Name x pos') op a pos) (sAug i ma n) := by
  obtain ⟨r, h1, h2⟩ := hn
  refine (ps_aug hN hi hx he (ti := r) h1 hf).imq fun D σ H ⟨e, S, D', A, m, k⟩ => ?_
  unfold sAug at m
  split at m
  · rename_i d ed
    obtain ⟨v, g1, g2⟩ := A.e.get (nth_get ed)
    refine ⟨v, g1, e, S, _, A, m, fun y S1 vy H1 x1 s1 ry m1 => ?_⟩
    exact h2 d y S1 _ v vy H1 _ s1 (g2.ext x1) ry m1 fun z S2 vz H2 x2 s2 rz q => k.nx _ _ _ _ (x1.trans x2) ((A.next (x1.trans x2) s2).set rz i) q
  · exact m.elim
/-- += : ints, texts, a list by a list -/
def nAdd' : N2 := fun x y S Q => match x, y with
  | .int i, .int j => Q (.int (i + j)) S
  | .str a, .str b => a.length + b.length ≤ sizeLine ∧ Q (.str (a ++ b)) S
  | .ref a, .ref b => (match S a, S b with
    | some (.lst xs), some (.lst ys) => xs.length + ys.length ≤ sizeLine ∧ Q (.ref a) (put S a (.lst (xs ++ ys)))
    | _, _ => False)
  | _, _ => False
theorem iopN_add : OpN X (inplaceOp .Add) nAdd' := ⟨_, iop_add.or (iop_add_str.or iop_ext), fun x y S Q vx vy H Q' s rx ry n k => by
  unfold nAdd' at n
  split at n
  · cases rx; cases ry
    exact .inl ⟨_, _, rfl, rfl, k _ _ _ _ (.refl H) s (.int _) n⟩
  · cases rx; cases ry
    exact .inr (.inl ⟨_, _, rfl, rfl, n.1, k _ _ _ _ (.refl H) s (.str _) n.2⟩)
  · rename_i a b
    cases rx; cases ry
    split at n
    · rename_i xs ys e1 e2
      obtain ⟨vs, h1, r1⟩ := s.lst e1
      obtain ⟨ws, h2, r2⟩ := s.lst e2
      have x : HExt H (upd H a (.lst (vs ++ ws))) := .upd h1 True.intro
      exact .inr (.inr ⟨a, b, vs, ws, rfl, rfl, h1, h2, by rw [← r1.length, ← r2.length]; exact n.1, k _ _ _ _ x (s.put (o := .lst (xs ++ ys)) x ⟨_, upd_same, (r1.append r2).ext x⟩) (.ref a) n.2⟩)
    · exact n.elim
  · exact n.elim⟩
theorem iopN_sub : OpN X (inplaceOp .Sub) nSub := opN_int0 iop_sub fun _ _ _ => .int _
end
end N

set_option Elab.async false
set_option linter.all false
set_option maxRecDepth 100000
set_option maxHeartbeats 4000000
namespace N
variable [TabList]
open PySem PySem.Spec PyProof.Rows L2
section
variable {X : Cx} {H0 : Hp} {w : NW} {a b c o : Expr} {ma mb mo : NE} {pos : Pos} {es : List Expr} {mr : NA} {k n : Nat} {f : Addr} {sp : NSp} {st : Stmt} {rest sa sb body : List Stmt} {t u : NS} {tc : NT}

/-! ### o[i] op= e -/
theorem get_list : PGet X (fun x y H Q => ∃ p xs i v, x = .ref p ∧ y = .int i ∧ H p = some (.lst xs) ∧ 0 ≤ i ∧ xs[i.toNat]? = some v ∧ Q v H) := by
  intro pins s σ H o i ov iv Q I ro ri h
  obtain ⟨p, xs, j, v, rfl, rfl, e, h0, hx, q⟩ := h
  cases ro
  obtain ⟨t, rfl⟩ := ri
  obtain ⟨its, r, pl, hz⟩ := I.list (SqL.of e)
  obtain ⟨u, hu, ru⟩ := r.get hx
  have hj : j.toNat < xs.length := (List.getElem?_eq_some_iff.mp hx).1
  have hl := line63
  exact wpAny_getItem_list pl.isList h0 (by omega) (by simpa using hu) ⟨v, H, I, ru, q⟩
theorem get_dict (hu : X.A.units + 1 < cLine) : PGet X (fun x y H Q => ∃ p v, x = .ref p ∧ DGet H p y (some v) ∧ Q v H) := by
  intro pins s σ H o i ov iv Q I ro ri h
  obtain ⟨p, v, rfl, g, q⟩ := h
  cases ro
  exact d_getItem hu I g ri fun w' s' I' r' => ⟨v, H, I', r', q⟩
theorem pget_or {t t' : V → V → Hp → VK → Prop} (h : PGet X t) (h' : PGet X t') : PGet X (fun x y H Q => t x y H Q ∨ t' x y H Q) := by
  intro pins s σ H o i ov iv Q I ro ri q
  rcases q with q | q
  · exact h pins s σ H o i ov iv Q I ro ri q
  · exact h' pins s σ H o i ov iv Q I ro ri q
def nGet : N2 := fun x y S Q => match x with
  | .ref p => (match S p with
    | some (.lst ds) => (match y with
      | .int i => 0 ≤ i ∧ (match ds[i.toNat]? with
        | some d => Q d S
        | none => False)
      | _ => False)
    | some (.dic kvs) => (match keyD y with
      | some k => (match dget kvs k with
        | some d => Q d S
        | none => False)
      | none => False)
    | _ => False)
  | _ => False
theorem getN (hu : X.A.units + 1 < cLine) : ∃ t, PGet X t ∧ Op2 X.K t nGet := by
  refine ⟨_, pget_or get_list (get_dict hu), fun x y S Q vx vy H Q' s rx ry n k => ?_⟩
  unfold nGet at n
  split at n
  · rename_i p
    cases rx
    split at n
    · rename_i ds e1
      split at n
      · rename_i i
        cases ry
        obtain ⟨h0, n⟩ := n
        split at n
        · rename_i d ed
          obtain ⟨vs, h1, r1⟩ := s.lst e1
          obtain ⟨v, h2, h3⟩ := r1.get ed
          exact .inl ⟨p, vs, i, v, rfl, rfl, h1, h0, h2, k _ _ _ _ (.refl H) s h3 n⟩
        · exact n.elim
      · exact n.elim
    · rename_i kvs e1
      split at n
      · rename_i kk ek
        have := keyD_ok ry ek
        subst this
        split at n
        · rename_i d ed
          obtain ⟨ws, h1, r1⟩ := s.dic e1
          obtain ⟨v, h2, h3⟩ := (KVR.val kk r1).1 d ed
          exact .inr ⟨p, v, rfl, by rw [← h2]; exact .k h1, k _ _ _ _ (.refl H) s h3 n⟩
        · exact n.elim
      · exact n.elim
    · exact n.elim
  · exact n.elim
def sAugS (mo mi : NE) (m : NE) (n : N2) : NS := fun D e S => mo e S fun x S1 => mi e S1 fun i S2 => nGet x i S2 fun y S3 => m e S3 fun z S4 => n y z S4 fun r S5 => nSet x i r S5 fun S6 => D.nx e S6
theorem js_augS {i : Expr} {mi : NE} {op : Operator} {n : N2} {tpos : Pos} (hu : X.A.units + 1 < cLine) (hn : OpN X (inplaceOp op) n) (ho : JE X H0 o mo) (hi : JE X H0 i mi) (he : JE X H0 a ma)
    (ha : ∀ ov iv new, augStore i ov iv new = (do holding [new, ov, iv] (setItem ov iv new); release [new, ov, iv] []; pure .next) := by intros; rfl) : JS X H0 (.AugAssign (.Subscript o i tpos) op a pos) (sAugS mo mi ma n) := by
  obtain ⟨r, h1, h2⟩ := hn
  obtain ⟨tg, g1, g2⟩ := getN (X := X) hu
  obtain ⟨ts, s1, s2⟩ := setN (X := X) hu
  refine (ps_augS ho hi g1 he (tip := r) h1 s1 ha).imq fun D σ H ⟨e, S, D', A, m, k⟩ => ?_
  refine ⟨e, S, _, A, m, fun x S1 vx H1 x1 z1 rx m1 => ⟨e, S1, _, A.next x1 z1, m1, fun y S2 vy H2 x2 z2 ry m2 => ?_⟩⟩
  refine g2 x y S2 _ vx vy H2 _ z2 (rx.ext x2) ry m2 fun d S3 vd H3 x3 z3 rd m3 => ?_
  have y3 := (x1.trans x2).trans x3
  refine ⟨e, S3, _, A.next y3 z3, m3, fun q S4 vq H4 x4 z4 rq m4 => ?_⟩
  refine h2 d q S4 _ vd vq H4 _ z4 (rd.ext x4) rq m4 fun nw S5 vn H5 x5 z5 rn m5 => ?_
  refine s2 x y nw S5 _ vx vy vn H5 _ z5 ((((rx.ext x2).ext x3).ext x4).ext x5) (((ry.ext x3).ext x4).ext x5) rn m5 fun S6 H6 x6 z6 q6 => ?_
  have y6 := ((y3.trans x4).trans x5).trans x6
  exact k.nx e S6 σ H6 y6 (A.next y6 z6) q6

/-! ### for -/
/-- how what is walked is held meanwhile -/
abbrev Keep := Sto → Prop
def loopL (g : NG) (b : NS) (Z : NEnds) (kp : Keep) : List D → Env → Sto → Prop
  | [], e, S => Z.nx e S
  | x :: xs, e, S => g x e S fun e1 S1 => b { nx := fun e2 S2 => kp S2 ∧ loopL g b Z kp xs e2 S2, ct := fun e2 S2 => kp S2 ∧ loopL g b Z kp xs e2 S2, bk := Z.nx, rt := Z.rt } e1 S1
def iSeq (K : PySem.W.Frag) (tl : TE) : TI := fun σ H R => tl σ H fun x H1 => ∃ p, x = .ref p ∧ (((∃ xs, SqL K H1 p xs) ∧ R (Itl K p) H1) ∨ ((∃ xs, SqT K H1 p xs) ∧ R (Itt K p) H1))
theorem pi_seq {tg l : Expr} {tl : TE} (hl : PE X l tl) : PI X tg l (iSeq X.K tl) := by
  refine ⟨fun pins s σ H R I h => ?_⟩
  refine thn (hl.run pins s σ H _ I h) fun v s1 ⟨x, H1, I1, r1, q1⟩ => ?_
  obtain ⟨p, e, ⟨⟨xs, hq⟩, q⟩ | ⟨⟨xs, hq⟩, q⟩⟩ := q1
  · subst e
    cases r1
    obtain ⟨its, rv, p, hz⟩ := I1.list hq
    refine wpAny_pyIter_list p.isList ?_
    refine ⟨s1.heap.objs.size, [s1.heap.objs.size], _, _, H1, rfl, I1.kept (t' := s1.toks) fun b o e => Heap.get?_push_of_some _ e, turn_list _ _, ⟨_, Heap.get?_push_size _ rfl, rfl, rfl⟩, fun b hb => ?_, q⟩
    have e : b = s1.heap.objs.size := by simpa using hb
    subst e
    exact I1.fpOk (Nat.le_refl _) (I1.hok.fresh (Nat.le_refl _))
  · subst e
    cases r1
    obtain ⟨its, rv, p, hz⟩ := I1.tuple hq
    refine wpAny_pyIter_tuple (show s1.heap.IsTuple _ its.toArray from p) ?_
    refine ⟨s1.heap.objs.size, [s1.heap.objs.size], _, _, H1, rfl, I1.kept (t' := s1.toks) fun b o e => Heap.get?_push_of_some _ e, turn_tuple _ _, ⟨_, Heap.get?_push_size _ rfl, rfl, rfl⟩, fun b hb => ?_, q⟩
    have e : b = s1.heap.objs.size := by simpa using hb
    subst e
    exact I1.fpOk (Nat.le_refl _) (I1.hok.fresh (Nat.le_refl _))
/-- what is walked: its items, and that it stands still -/
def nWalk : D → Sto → (List D → Keep → Prop) → Prop := fun x S Q => match x with
  | .tup ds => Q ds fun _ => True
  | .rol ds => Q ds fun _ => True
  | .ref p => (match S p with
    | some (.lst ds) => Q ds fun S' => S' p = some (.lst ds)
    | _ => False)
  | _ => False
def sFor (m : NE) (g : NG) (b : NS) : NS := fun D e S => m e S fun x S1 => nWalk x S1 fun ds kp => loopL g b D kp ds e S1
/-- the layer's word for a loop that stands on loopL: R tells that the walked thing is there -/
theorem loop_ok {J : It} {K : PySem.W.Frag} {g : NG} {b : NS} {D' : NEnds} {Z : Ends} {kp : Keep} {ds : List D} {H1 : Hp} {σ : L2.St} {e : Env} {S1 : Sto} (k : EndsR K H0 H1 D' Z)
    (stop : ∀ H S, HExt H1 H → SR K S H → kp S → J.stop ds.length H) (go : ∀ i H S, i < ds.length → HExt H1 H → SR K S H → kp S → J.go i H)
    (yld : ∀ i H S x H' d, ds[i]? = some d → HExt H1 H → SR K S H → kp S → J.yld i H x H' → ∃ S', HExt H H' ∧ SR K S' H' ∧ (∀ a o, S a = some o → S' a = some o) ∧ S' = S ∧ VR K H' d x)
    (A : At K H0 H1 σ e S1) (hk : kp S1) (m : loopL g b D' kp ds e S1) :
    ∃ W : Nat → Nat → L2.St → Hp → Prop, (∃ m, W 0 m σ H1) ∧ ∀ i m σ H, W i m σ H →
      (J.stop i H ∧ Z.nx σ H) ∨ (J.go i H ∧ ∃ N : L2.St → Hp → Prop, (∀ σ' H', N σ' H' → ∃ m', m' < m ∧ W (i + 1) m' σ' H') ∧ ∀ x H', J.yld i H x H' → (lG K H0 g) x σ H' fun σ2 H2 => (lS K H0 b) { Z with nx := N, ct := N, bk := Z.nx } σ2 H2) := by
  refine ⟨fun i m σ H => m = ds.length - i ∧ i ≤ ds.length ∧ HExt H1 H ∧ ∃ e S, At K H0 H σ e S ∧ kp S ∧ loopL g b D' kp (ds.drop i) e S, ⟨_, rfl, Nat.zero_le _, .refl H1, e, S1, A, hk, by simpa using m⟩, ?_⟩
  rintro i m σ H ⟨rfl, hi, xe, e, S, A, hk, m⟩
  by_cases hlt : i < ds.length
  · obtain ⟨d, hd⟩ : ∃ d, ds[i]? = some d := ⟨ds[i], by simp [hlt]⟩
    have hdrop : ds.drop i = d :: ds.drop (i + 1) := by
      have := List.drop_eq_getElem_cons hlt
      rw [this]
      have : ds[i] = d := by
        have := List.getElem?_eq_getElem hlt
        rw [hd] at this
        exact (Option.some.inj this).symm
      rw [this]
    rw [hdrop] at m
    refine .inr ⟨go i H S hlt xe A.s hk, fun σ' H' => i + 1 ≤ ds.length ∧ HExt H1 H' ∧ ∃ e S, At K H0 H' σ' e S ∧ kp S ∧ loopL g b D' kp (ds.drop (i + 1)) e S, fun σ' H' ⟨p1, p2, p3⟩ => ⟨ds.length - (i + 1), by omega, rfl, p1, p2, p3⟩, fun x H' y => ?_⟩
    obtain ⟨S', x2, s2, _, rfl, rd⟩ := yld i H S x H' d hd xe A.s hk y
    refine ⟨d, e, S', _, rd, A.next x2 s2, m, fun e1 S2 σ1 H2 x3 A1 q => ?_⟩
    have xx := (xe.trans x2).trans x3
    exact ⟨e1, S2, _, A1, q, ⟨fun e3 S3 σ3 H3 x4 A3 q3 => ⟨hlt, xx.trans x4, e3, S3, A3, q3.1, q3.2⟩, fun d S3 v H3 x4 s3 rv q3 => k.rt d S3 v H3 (xx.trans x4) s3 rv q3, fun e3 S3 σ3 H3 x4 A3 q3 => k.nx e3 S3 σ3 H3 (xx.trans x4) A3 q3,
      fun e3 S3 σ3 H3 x4 A3 q3 => ⟨hlt, xx.trans x4, e3, S3, A3, q3.1, q3.2⟩⟩⟩
  · have e1 : i = ds.length := by omega
    subst e1
    rw [List.drop_length] at m
    exact .inl ⟨stop H S xe A.s hk, k.nx e S σ H xe A m⟩
theorem js_for {tg : Expr} {g : NG} (cx : NX X H0 w) (hl : JE X H0 a ma) (hg : JG X H0 tg g) (hb : JSs X H0 body t) (hs : ∀ x, foldedSetIterable a X.env x = pure x := by intro _; rfl) : JS X H0 (.For tg a body [] pos) (sFor ma g t) := by
  refine (ps_for cx.po cx.calm (pi_seq hl) hg hb hs).imq fun D σ H ⟨e, S, D', A, m, k⟩ => ?_
  refine ⟨e, S, _, A, m, fun x S1 v H1 x1 s1 r m1 => ?_⟩
  have A1 := A.next x1 s1
  have k1 := k.ext x1
  unfold nWalk at m1
  split at m1
  · rename_i ds
    cases r with
    | tup tr rr =>
      rename_i p vs
      refine ⟨p, rfl, .inr ⟨⟨vs, tr.sq⟩, ?_⟩⟩
      refine loop_ok (kp := fun _ => True) k1 (fun H2 S2 x s _ => ⟨vs, (tr.ext x).sq, by rw [← rr.length]; exact Nat.le_refl _⟩) (fun i H2 S2 hi x s _ => ?_) (fun i H2 S2 y H3 d hd x s _ yl => ?_) A1 True.intro m1
      · obtain ⟨v, hv, _⟩ := rr.get (List.getElem?_eq_getElem hi)
        exact ⟨vs, v, (tr.ext x).sq, hv⟩
      · obtain ⟨rfl, yl⟩ := yl
        obtain ⟨v, hv, rv⟩ := rr.get hd
        have := yl vs (tr.ext x).sq
        rw [hv] at this
        cases this
        exact ⟨S2, .refl _, s, fun _ _ h => h, rfl, rv.ext x⟩
  · rename_i ds
    cases r with
    | rol tr rr =>
      rename_i p vs
      refine ⟨p, rfl, .inl ⟨⟨vs, tr.sq⟩, ?_⟩⟩
      refine loop_ok (kp := fun _ => True) k1 (fun H2 S2 x s _ => ⟨vs, (tr.ext x).sq, by rw [← rr.length]; exact Nat.le_refl _⟩) (fun i H2 S2 hi x s _ => ?_) (fun i H2 S2 y H3 d hd x s _ yl => ?_) A1 True.intro m1
      · obtain ⟨v, hv, _⟩ := rr.get (List.getElem?_eq_getElem hi)
        exact ⟨vs, v, (tr.ext x).sq, hv⟩
      · obtain ⟨rfl, yl⟩ := yl
        obtain ⟨v, hv, rv⟩ := rr.get hd
        have := yl vs (tr.ext x).sq
        rw [hv] at this
        cases this
        exact ⟨S2, .refl _, s, fun _ _ h => h, rfl, rv.ext x⟩
  · rename_i p
    cases r
    split at m1
    · rename_i ds e1
      obtain ⟨vs0, g0, _⟩ := s1.lst e1
      refine ⟨p, rfl, .inl ⟨⟨vs0, SqL.of g0⟩, ?_⟩⟩
      refine loop_ok (kp := fun S' => S' p = some (.lst ds)) k1 (fun H2 S2 x s kk => ?_) (fun i H2 S2 hi x s kk => ?_) (fun i H2 S2 y H3 d hd x s kk yl => ?_) A1 e1 m1
      · obtain ⟨vs, g1, rr⟩ := s.lst kk
        exact ⟨vs, SqL.of g1, by rw [← rr.length]; exact Nat.le_refl _⟩
      · obtain ⟨vs, g1, rr⟩ := s.lst kk
        obtain ⟨v, hv, _⟩ := rr.get (List.getElem?_eq_getElem hi)
        exact ⟨vs, v, SqL.of g1, hv⟩
      · obtain ⟨vs, g1, rr⟩ := s.lst kk
        obtain ⟨rfl, yl⟩ := yl
        obtain ⟨v, hv, rv⟩ := rr.get hd
        have := yl vs (SqL.of g1)
        rw [hv] at this
        cases this
        exact ⟨S2, .refl _, s, fun _ _ h => h, rfl, rv⟩
    · exact m1.elim
  · exact m1.elim
/-- lo, lo + 1, .. -/
def rangeD (lo : Int) (n : Nat) : List D := (List.range n).map fun (i : Nat) => D.int (lo + (i : Int))
def RngOk (i : Int) : Prop := -(2 ^ 62) ≤ i ∧ i < 2 ^ 62
def sForR1 (m : NE) (g : NG) (b : NS) : NS := fun Z e S => m e S fun x S1 => match x with
  | .int j => RngOk j ∧ loopL g b Z (fun _ => True) (rangeD 0 j.toNat) e S1
  | _ => False
def sForR2 (m m' : NE) (g : NG) (b : NS) : NS := fun Z e S => m e S fun x S1 => m' e S1 fun y S2 => match x, y with
  | .int i, .int j => (RngOk i ∧ RngOk j) ∧ loopL g b Z (fun _ => True) (rangeD i (j - i).toNat) e S2
  | _, _ => False
theorem rangeD_get {lo : Int} {n i : Nat} {d : D} (h : (rangeD lo n)[i]? = some d) : i < n ∧ d = .int (lo + (i : Int)) := by
  unfold rangeD at h
  rw [List.getElem?_map] at h
  cases e : (List.range n)[i]? with
  | none => rw [e] at h; cases h
  | some j =>
    rw [e] at h
    obtain ⟨h1, h2⟩ := List.getElem?_eq_some_iff.mp e
    rw [List.length_range] at h1
    rw [List.getElem_range] at h2
    subst h2
    cases h
    exact ⟨h1, rfl⟩
theorem rangeD_length {lo : Int} {n : Nat} : (rangeD lo n).length = n := by unfold rangeD; simp
theorem rng_ok {K : PySem.W.Frag} {g : NG} {b : NS} {D' : NEnds} {Z : Ends} {lo : Int} {n : Nat} {H1 : Hp} {σ : L2.St} {e : Env} {S1 : Sto} (k : EndsR K H0 H1 D' Z) (A : At K H0 H1 σ e S1) (m : loopL g b D' (fun _ => True) (rangeD lo n) e S1) :
    ∃ W : Nat → Nat → L2.St → Hp → Prop, (∃ m, W 0 m σ H1) ∧ ∀ i m σ H, W i m σ H →
      ((Itr lo n).stop i H ∧ Z.nx σ H) ∨ ((Itr lo n).go i H ∧ ∃ N : L2.St → Hp → Prop, (∀ σ' H', N σ' H' → ∃ m', m' < m ∧ W (i + 1) m' σ' H') ∧ ∀ x H', (Itr lo n).yld i H x H' → (lG K H0 g) x σ H' fun σ2 H2 => (lS K H0 b) { Z with nx := N, ct := N, bk := Z.nx } σ2 H2) := by
  refine loop_ok (kp := fun _ => True) k (fun H S x s _ => ?_) (fun i H S hi x s _ => ?_) (fun i H S y H' d hd x s _ yl => ?_) A True.intro m
  · exact Nat.le_of_eq rangeD_length.symm
  · rw [rangeD_length] at hi; exact hi
  · obtain ⟨rfl, rfl⟩ := yl
    obtain ⟨_, rfl⟩ := rangeD_get hd
    exact ⟨S, .refl _, s, fun _ _ h => h, rfl, .int _⟩
theorem js_forR1 {tg : Expr} {g : NG} {p rpos : Pos} (cx : NX X H0 w) (hm : X.mg "range" = none) (hl : JE X H0 a ma) (hg : JG X H0 tg g) (hb : JSs X H0 body t) (hgl : Gl X "range" := by rfl) (hsr : starEach [a] X.env = [(false, eval a X.env)] := by rfl) (hs1 : starEach [a] X.env = (false, eval a X.env) :: starEach [] X.env := by rfl)
    (hs : ∀ x, foldedSetIterable (.Call (.Name "range" p) [a] [] rpos) X.env x = pure x := by intro _; rfl) : JS X H0 (.For tg (.Call (.Name "range" p) [a] [] rpos) body [] pos) (sForR1 ma g t) := by
  refine (ps_for cx.po cx.calm (pi_range1 hgl hm (ja_cons hl ja_nil hs1) hsr) hg hb hs).imq fun Z σ H ⟨e, S, D', A, m, k⟩ => ?_
  refine ⟨e, S, (fun ds S1 => ∃ x, ds = [x] ∧ match x with
    | .int j => RngOk j ∧ loopL g t D' (fun _ => True) (rangeD 0 j.toNat) e S1
    | _ => False), A, ?_, fun ds S1 vs H1 x1 s1 r ⟨x, ed, m1⟩ => ?_⟩
  · show ma e S _
    unfold sForR1 at m
    have : (fun x S1 => ∃ x_1, [x] = [x_1] ∧ match x_1 with
      | D.int j => RngOk j ∧ loopL g t D' (fun _ => True) (rangeD 0 j.toNat) e S1
      | _ => False) = (fun x S1 => match x with
      | D.int j => RngOk j ∧ loopL g t D' (fun _ => True) (rangeD 0 j.toNat) e S1
      | _ => False) := by
      funext x S1
      refine propext ⟨fun ⟨y, e, h⟩ => ?_, fun h => ⟨x, rfl, h⟩⟩
      cases e; exact h
    show ma e S fun x S1 => _
    exact (congrArg (ma e S) this).mpr m
  · subst ed
    obtain ⟨v, rfl, rv⟩ := vrs1 r
    split at m1
    · rename_i j _
      cases rv
      exact ⟨j, rfl, m1.1.1, m1.1.2, rng_ok (k.ext x1) (A.next x1 s1) m1.2⟩
    · exact m1.elim
theorem js_forR2 {tg : Expr} {g : NG} {p rpos : Pos} (cx : NX X H0 w) (hm : X.mg "range" = none) (hl : JE X H0 a ma) (hl2 : JE X H0 b mb) (hg : JG X H0 tg g) (hb : JSs X H0 body t) (hgl : Gl X "range" := by rfl) (hsr : starEach [a, b] X.env = [(false, eval a X.env), (false, eval b X.env)] := by rfl)
    (hsr2 : starEach [b] X.env = [(false, eval b X.env)] := by rfl) (hs1 : starEach [b] X.env = (false, eval b X.env) :: starEach [] X.env := by rfl) (hs2 : starEach [a, b] X.env = (false, eval a X.env) :: starEach [b] X.env := by rfl)
    (hs : ∀ x, foldedSetIterable (.Call (.Name "range" p) [a, b] [] rpos) X.env x = pure x := by intro _; rfl) : JS X H0 (.For tg (.Call (.Name "range" p) [a, b] [] rpos) body [] pos) (sForR2 ma mb g t) := by
  refine (ps_for cx.po cx.calm (pi_range2 hgl hm (ja_cons hl (ja_cons hl2 ja_nil hs1) hs2) hsr hsr2) hg hb hs).imq fun Z σ H ⟨e, S, D', A, m, k⟩ => ?_
  refine ⟨e, S, (fun ds S1 => ∃ x y, ds = [x, y] ∧ match x, y with
    | .int i, .int j => (RngOk i ∧ RngOk j) ∧ loopL g t D' (fun _ => True) (rangeD i (j - i).toNat) e S1
    | _, _ => False), A, ?_, fun ds S1 vs H1 x1 s1 r ⟨x, y, ed, m1⟩ => ?_⟩
  · unfold sForR2 at m
    have : ∀ x : D, (fun y S1 => ∃ x_1 y_1, [x, y] = [x_1, y_1] ∧ match x_1, y_1 with
      | D.int i, D.int j => (RngOk i ∧ RngOk j) ∧ loopL g t D' (fun _ => True) (rangeD i (j - i).toNat) e S1
      | _, _ => False) = (fun y S1 => match x, y with
      | D.int i, D.int j => (RngOk i ∧ RngOk j) ∧ loopL g t D' (fun _ => True) (rangeD i (j - i).toNat) e S1
      | _, _ => False) := by
      intro x
      funext y S1
      refine propext ⟨fun ⟨a, b, e, h⟩ => ?_, fun h => ⟨x, y, rfl, h⟩⟩
      cases e; exact h
    have h2 : (fun x S1 => mb e S1 fun y S2 => ∃ x_1 y_1, [x, y] = [x_1, y_1] ∧ match x_1, y_1 with
      | D.int i, D.int j => (RngOk i ∧ RngOk j) ∧ loopL g t D' (fun _ => True) (rangeD i (j - i).toNat) e S2
      | _, _ => False) = (fun x S1 => mb e S1 fun y S2 => match x, y with
      | D.int i, D.int j => (RngOk i ∧ RngOk j) ∧ loopL g t D' (fun _ => True) (rangeD i (j - i).toNat) e S2
      | _, _ => False) := by
      funext x S1
      rw [this x]
    exact (congrArg (ma e S) h2).mpr m
  · subst ed
    obtain ⟨v, v2, rfl, rv, rv2⟩ := vrs2 r
    split at m1
    · rename_i i j _
      cases rv; cases rv2
      exact ⟨i, j, rfl, ⟨m1.1.1.1, m1.1.1.2, m1.1.2.1, m1.1.2.2⟩, rng_ok (k.ext x1) (A.next x1 s1) m1.2⟩
    · exact m1.elim

/-! ### while -/
def whileN (c : NT) (b : NS) (D : NEnds) : Nat → Env → Sto → Prop
  | 0, _, _ => False
  | n + 1, e, S => c e S fun k S1 => match k with
    | true => b { nx := whileN c b D n, ct := whileN c b D n, bk := D.nx, rt := D.rt } e S1
    | false => D.nx e S1
def sWhile (c : NT) (b : NS) : NS := fun D e S => ∃ n, whileN c b D n e S
theorem js_while (cx : NX X H0 w) (hc : JT X H0 c tc) (hb : JSs X H0 body t) : JS X H0 (.While c body [] pos) (sWhile tc t) := by
  refine (ps_while cx.po hc hb).imq fun D σ H ⟨e, S, D', A, ⟨n, m⟩, k⟩ => ?_
  refine ⟨fun n σ' H' => HExt H H' ∧ ∃ e S, At X.K H0 H' σ' e S ∧ whileN tc t D' n e S, ⟨n, .refl H, e, S, A, m⟩, ?_⟩
  rintro n σ1 H1 ⟨x1, e1, S1, A1, m1⟩
  cases n with
  | zero => exact m1.elim
  | succ n =>
    refine ⟨e1, S1, _, A1, m1, fun b S2 H2 x2 s2 q => ?_⟩
    cases b with
    | false => exact iteF (k.nx e1 S2 σ1 H2 (x1.trans x2) (A1.next x2 s2) q)
    | true =>
      refine iteT ⟨fun σ' H' => HExt H H' ∧ ∃ e S, At X.K H0 H' σ' e S ∧ whileN tc t D' n e S, fun σ' H' h => ⟨n, Nat.lt_succ_self n, h⟩, ?_⟩
      have xx := x1.trans x2
      exact ⟨e1, S2, _, A1.next x2 s2, q, ⟨fun e3 S3 σ3 H3 x3 A3 q3 => ⟨xx.trans x3, e3, S3, A3, q3⟩, fun d S3 v H3 x3 s3 rv q3 => k.rt d S3 v H3 (xx.trans x3) s3 rv q3, fun e3 S3 σ3 H3 x3 A3 q3 => k.nx e3 S3 σ3 H3 (xx.trans x3) A3 q3, fun e3 S3 σ3 H3 x3 A3 q3 => ⟨xx.trans x3, e3, S3, A3, q3⟩⟩⟩

/-! ### raise -/
def sRaise (c : Str) (w : NW) : NS := fun _ e S => w c none e S
theorem js_raise {x : Str} {p p2 cpos : Pos} {m : Str} {j : Nat} (cx : NX X H0 w) (hx : (He.Fa.exc x).ok X.K = true) (hm : X.mg x = some (.ref (He.ga X.K x))) (hg : Gl X x := by rfl) (hdb : (x == ("__debug__" : Str)) = false := by decide +kernel) :
    JS X H0 (.Raise (some (.Call (.Name x p) [.Constant (.str m) j p2] [] cpos)) none pos) (sRaise x w) := by
  obtain ⟨h1, h2, h3, h4⟩ := He.exc_ok hx
  refine (ps_raise cx.calm cx.tk (pmk_own PySem.F.excBase_ValueError h1 hm h2 (raises_own h3 h4) hg hdb)).imq fun D σ H ⟨e, S, D', A, m, k⟩ => ?_
  exact ⟨x, e, S, rfl, A, m⟩
end
end N

set_option Elab.async false
set_option linter.all false
set_option maxRecDepth 100000
set_option maxHeartbeats 4000000
namespace N
variable [TabList]
open PySem PySem.Spec PyProof.Rows L2
section
variable {X : Cx} {pins : List (Addr × Obj)} {σ : L2.St} {H : Hp} {s : Shared}
/-- an object that came up since the entry is tracked from now on, by what is true of it -/
theorem track (I : Inv X pins σ H s) {a : Addr} {oe : Obj} {vs : Array Value} {φ : Heap → Prop} (hx : X.ex = []) (ha : s.heap.get? a = some oe) (hd : oe.data = .fields vs) (n : H a = none) (n0 : X.s_0.heap.get? a = none) (nL : a ≠ X.env.locals) (np : ∀ p ∈ X.pn ++ pins, p.1 ≠ a)
    (ok : ObjOk X.prog X.w (upd H a (.ext φ)) s.heap a (.ext φ)) : Inv X pins σ (upd H a (.ext φ)) s := by
  have neH : ∀ {b o}, H b = some o → b ≠ a := fun {b o} e z => by rw [z, n] at e; cases e
  have ne0 : ∀ {b o}, X.s_0.heap.get? b = some o → b ≠ a := fun {b o} e z => by rw [z, n0] at e; cases e
  have neC : ∀ x c, X.env.cells.lookup x = some c → c ≠ a := fun x c e z => by
    obtain ⟨v, o, ho, hc⟩ := I.cell x c e
    rw [z, ha] at ho
    cases ho
    rw [hd] at hc; cases hc
  refine ⟨I.ok, I.os, I.bare, ⟨I.base.keep, I.base.slot, fun b o e m hb => ?_, I.base.there, fun b xs e => ?_, fun b o u e => ?_, fun b ps e => ?_⟩, I.loc, I.cell, ?_, fun x c e => ?_, fun p hp => ?_, fun b u e => ?_, I.len⟩
  · rw [upd_ne (ne0 e)]; exact I.base.free b o e m hb
  · have := I.base.tups b xs e
    rw [upd_ne (neH this)]; exact this
  · have := I.base.frzs b o u e
    rw [upd_ne (neH this)]; exact this
  · obtain ⟨more, q⟩ := I.base.tbls b ps e
    exact ⟨more, by rw [upd_ne (neH q)]; exact q⟩
  · rw [upd_ne (Ne.symm nL)]; exact I.free
  · rw [upd_ne (neC x c e)]; exact I.freeC x c e
  · obtain ⟨h1, h2, h3⟩ := I.pin p hp
    exact ⟨h1, by rw [upd_ne (np p hp)]; exact h2, h3⟩
  · by_cases hb : b = a
    · subst hb
      rw [upd_same] at e
      cases e; exact ok
    · rw [upd_ne hb] at e
      exact (I.hok b u e).stay (fun _ _ _ q => q) (fun c q => by rw [upd_ne (neH q)]; exact q) fun c xs q => by rw [upd_ne (neH q)]; exact q
theorem excP_ok {P : Program} {w : World} {H : Hp} {h : Heap} {a : Addr} {cls : Value} {d : Option Addr} {oe : Obj} {vs : Array Value} (e : h.get? a = some oe) (z : Zc cls d oe) (hd : oe.data = .fields vs) : ObjOk P w H h a (.ext (excP a cls d)) :=
  ⟨⟨oe, vs, e, z, hd⟩, ⟨oe, e⟩, fun _ _ ⟨o, v, q, r⟩ k => ⟨o, v, k o q, r⟩⟩
/-- the wish, where the exception stays -/
def wKeep (K : PySem.W.Frag) (c : Value) (i : Nat) (ts : Addr → Value → Option Addr → TS) (Wout : WX) (D : Ends) : WX := fun cls d σ H =>
  ∃ b, PySem.W.exmOne K cls c = some b ∧ (b = true → ∀ a, H a = none → ts a cls d { nx := fun σ' H' => H' a = none → D.nx (σ'.set i none) (upd H' a (.ext (excP a cls d))), rt := fun _ _ => False, bk := fun _ _ => False, ct := fun _ _ => False } (σ.set i (some (.ref a))) H) ∧
    (b = false → Wout cls d σ H)
variable {x n : Str} {c : Value} {i : Nat} {body suite : List Stmt} {b₀ : Stmt} {np pos pos' : Pos} {tb : WX → TS} {ts : Addr → Value → Option Addr → TS} {Wout : WX}
theorem ps_try_keep (hs : X.stack = X.env :: X.outer) (hf : X.env.frame = some X.env.locals) (hex : X.ex = []) (hN : X.N.Nodup) (hi : X.N[i]? = some n) (hln : X.env.kindOf n = some .local) (hc : Names X x c) (tk : Takes X Wout)
    (hb : ∀ (W : WX) (pn : List (Addr × Obj)) (xe : Value → Shared → Prop), Takes (X.tr pn xe) W → PassesOwn (model X.prog X.w) X.A X.env xe → PSs (X.tr pn xe) body (tb W))
    (hsu : ∀ (a : Addr) (oe : Obj) (cls : Value) (d : Option Addr) (pn : List (Addr × Obj)), Zc cls d oe → (∃ vs, oe.data = .fields vs) → PSs (X.suite a ((a, oe) :: pn)) (b₀ :: suite) (ts a cls d)) :
    PS X (.Try body [.ExceptHandler (some (.Name x np)) (some n) (b₀ :: suite) pos'] [] [] pos) (fun D σ H => tb (wKeep X.K c i ts Wout D) D σ H) := by
  refine ⟨fun pins s σ H D I h => ?_⟩
  have ok := I.ok
  have hfr : X.A.frames = some (X.env :: X.outer) := by rw [ok.frames, hs]
  have hloc : Loc X.env.scope n := .inl hln
  refine wpAny_Try_except ?_
  refine wpAny_mono ((hb (wKeep X.K c i ts Wout D) (X.pn ++ pins) (fun e s₁ => wpAny (model X.prog X.w) X.A (noteFrame e X.env) (fun _ s₂ => wpAny (model X.prog X.w) X.A (setFlight e none) (fun _ s₃ =>
    wpAny (model X.prog X.w) X.A (handleBy e X.env [.ExceptHandler (some (.Name x np)) (some n) (b₀ :: suite) pos']) (SP X pins D) X.xe s₃) X.xe s₂) X.xe s₁) (fun u s' xx => ?_) PassesOwn.looking).run [] s σ H D (I.toTry _) h) (fun f s1 hsp => ?_) (fun e s1 he => he)
  · -- the catch
    obtain ⟨a, B, sI, pins', σ', H', cls, d, rfl, J', nb, up, sky, na, os, ag, b, hb1, hyes, hno⟩ := xx
    have J : Inv X pins σ' H' sI := J'.ofTry ok
    have sky' : Sky B (X.env :: X.outer) a (Zc cls d) X.env.locals s'.heap := by rw [← hs]; exact sky
    show wpAny (model X.prog X.w) X.A (noteFrame (.ref a) X.env) _ _ _
    refine Sky.land Zc.steady hfr hf sky' fun h3 fl3 up3 => ?_
    have J3 : Inv X pins σ' H' { s' with heap := h3 } := J.landed nb fl3.1 (up.trans up3) os ag
    obtain ⟨oe3, vs3, he3, hz3, hd3⟩ := fl3.there
    have notFr : ∀ {h : Heap} {o : Obj} {vs : Array Value}, h.FunFrames B (X.env :: X.outer) → h.get? a = some o → o.data = .fields vs → a ∉ frs (X.env :: X.outer) := fun {h o vs} ff e dd hm => by
      obtain ⟨_, o', e', hnf⟩ := ff.mem hm
      rw [e] at e'; cases e'
      exact hnf _ dd
    have nfr := notFr fl3.2.2.1 he3 hd3
    have nL : a ≠ X.env.locals := fun z => nfr (List.mem_filterMap.mpr ⟨X.env, List.mem_cons_self, by rw [hf, z]⟩)
    have nF : a ∉ X.fs := fun hm => by
      obtain ⟨e, he, q⟩ := List.mem_filterMap.mp hm
      exact nfr (List.mem_filterMap.mpr ⟨e, List.mem_cons_of_mem _ he, q⟩)
    -- it came up since
    have nI : sI.heap.get? a = none := by
      cases e : sI.heap.get? a with
      | none => rfl
      | some o =>
        have := nb a o e (by rw [hs]; exact nfr)
        rw [fl3.2.1] at this; cases this
    have n0 : X.s_0.heap.get? a = none := by
      cases e : X.s_0.heap.get? a with
      | none => rfl
      | some o =>
        obtain ⟨o', q⟩ := J.base.there a o e (by rw [hex]; exact fun z => nomatch z)
        rw [nI] at q; cases q
    have npin : ∀ p ∈ X.pn ++ pins, p.1 ≠ a := fun p hp z => by
      have := (J.pin p hp).1
      rw [z, nI] at this; cases this
    have S3 := J3.suite he3 hd3 na nL nF
    refine wpAny_handleBy_cons (codeAny_handlers_test ?_) (by intro q; cases q)
    have LT : PySem.W.Looks (model X.prog X.w) h3 (typeOf (.ref a)) cls := fun A Q E s k q => wpAny_typeOf_ref (k _ _ he3) (by rw [hz3.1]; exact q)
    have LM := PySem.W.exm_one (M := model X.prog X.w) (J3.kIn) LT hb1
    have test : ∀ {Q : Value → Shared → Prop} {E : Value → Shared → Prop}, Q c { s' with heap := h3 } → wpAny (model X.prog X.w) (X.A.mark (some (.ref a))) (eval (.Name x np) X.env) Q E { s' with heap := h3 } := fun {Q E} q => by
      obtain ⟨hg, hdbg, hm | ⟨hm, hv, hnn⟩⟩ := hc
      · exact ld_glob (X := X.suite a ((a, oe3) :: (X.pn ++ pins))) S3 hg hm q hdbg
      · exact ld_blt (X := X.suite a ((a, oe3) :: (X.pn ++ pins))) S3 hg hm hv q hnn hdbg
    refine test (LM.here ?_)
    cases b with
    | true =>
      refine codeAny_handlers_suite_as ?_
      refine HandSPX.lands_againZ fl3 fun h4 fl4 up4 => ?_
      have J4 : Inv X pins σ' H' { s' with heap := h4 } := J.landed nb fl4.1 ((up.trans up3).trans up4) os ag
      obtain ⟨oe4, vs4, he4, hz4, hd4⟩ := fl4.there
      have S4 := J4.suite he4 hd4 na nL nF
      refine store_ok (X := X.suite a ((a, oe4) :: (X.pn ++ pins))) (v := .ref a) S4 hN hi hloc rfl (fun s5 S5 => ?_) (.inr hln)
      refine wpAny_mono ((hsu a oe4 cls d (X.pn ++ pins) hz4 ⟨_, hd4⟩).run [] s5 _ H' _ S5 (hyes rfl a na)) (fun f s6 hsp => ?_) (fun _ _ z => False.elim z)
      have end_ : ∀ {σ6 : L2.St} {H6 : Hp} {Q : Shared → Prop}, Inv (X.suite a ((a, oe4) :: (X.pn ++ pins))) [] σ6 H6 s6 → (∀ s7, Inv X pins (σ6.set i none) (upd H6 a (.ext (excP a cls d))) s7 → Q s7) →
          wpAny (model X.prog X.w) X.A (do bindName X.env n .none; unbindBehindTheSuite X.env n pos') (fun _ s7 => Q s7) X.xe s6 := fun {σ6 H6 Q} S6 hq => by
        obtain ⟨hg6, hn6, _⟩ := S6.pin (a, oe4) (List.mem_append_left _ List.mem_cons_self)
        exact gone_ok (track (S6.unsuite ok) hex hg6 hd4 hn6 n0 nL npin (excP_ok hg6 hz4 hd4)) hN hi hln hq
      have free_ : ∀ {σ6 : L2.St} {H6 : Hp}, Inv (X.suite a ((a, oe4) :: (X.pn ++ pins))) [] σ6 H6 s6 → H6 a = none := fun S6 => (S6.pin (a, oe4) (List.mem_append_left _ List.mem_cons_self)).2.1
      cases f with
      | next =>
        obtain ⟨σ6, H6, S6, q6⟩ := hsp
        exact end_ S6 fun s7 J7 => ⟨_, _, J7, q6 (free_ S6)⟩
      | brk =>
        obtain ⟨σ6, H6, S6, q6⟩ := hsp
        exact q6.elim
      | cont =>
        obtain ⟨σ6, H6, S6, q6⟩ := hsp
        exact q6.elim
      | ret u =>
        obtain ⟨v6, σ6, H6, S6, r6, q6⟩ := hsp
        exact q6.elim
    | false =>
      show wpAny _ X.A (handleBy (.ref a) X.env []) _ _ _
      refine wpAny_handleBy_nil ?_
      obtain ⟨k1, k2, k3, oe, vs, T, oT, ts', he, hz, hd, h1, hr⟩ := id fl3
      unfold PySem.passOn
      refine wpAny_bind (wpAny_field he hd h1 ?_)
      rw [if_neg (show ¬ ((Value.ref T == Value.none) = true) from by simp)]
      have fin : wpAny (model X.prog X.w) X.A (setFlight (.ref a) X.env.frame) (fun _ s4 => wpAny (model X.prog X.w) X.A (throw (.ref a) : Sem Flow) (SP X pins D) X.xe s4) X.xe { s' with heap := h3 } := by
        rw [hf]
        refine HandSPX.setFlight_upZ fl3 fun h4 hh4 up4 => wpAny_throw (tk _ _ ?_)
        exact ⟨a, B, sI, pins, σ', H', cls, d, rfl, J, nb, (up.trans up3).trans up4, .inr (.inr (by rw [hs]; exact hh4)), na, os, ag, hno rfl⟩
      first
        | exact wpAny_bind (wpAny_pure (wpAny_bind fin))
        | exact wpAny_bind fin
  · cases f with
    | next =>
      obtain ⟨σ', H', J', q⟩ := hsp
      exact wpAny_execs_nil ⟨σ', H', J'.ofTry ok, q⟩
    | brk =>
      obtain ⟨σ', H', J', q⟩ := hsp
      exact ⟨σ', H', J'.ofTry ok, q⟩
    | cont =>
      obtain ⟨σ', H', J', q⟩ := hsp
      exact ⟨σ', H', J'.ofTry ok, q⟩
    | ret u =>
      obtain ⟨v, σ', H', J', r, q⟩ := hsp
      exact ⟨v, σ', H', J'.ofTry ok, r, q⟩
end

/-! ### the nice ones -/
/-- whether 'except x' catches a c; none where that isn't told -/
def catchOf (CL : List Str) (c x : Str) : Option Bool := if CL.contains c && (Str.ofString "MartError" :: CL).contains x then some (isT (.cls c) (.cls x)) else none
structure KX (CL : List Str) (K : PySem.W.Frag) : Prop where
  exm : ∀ c ∈ CL, ∀ x ∈ (Str.ofString "MartError" :: CL), PySem.W.exmOne K (.ref (He.ga K c)) (.ref (He.ga K x)) = some (isT (.cls c) (.cls x))
section
variable {X : Cx} {H0 : Hp} {w : NW} {x n y : Str} {i j : Nat} {body suite : List Stmt} {b₀ : Stmt} {np pos pos' p1 p2 p3 : Pos} {mb : NW → NS} {ms : NS}
theorem catch_ok {CL : List Str} {c : Str} {b : Bool} (F : KX CL X.K) (h : catchOf CL c x = some b) : PySem.W.exmOne X.K (.ref (He.ga X.K c)) (.ref (He.ga X.K x)) = some b := by
  unfold catchOf at h
  split at h
  · rename_i e
    rw [Bool.and_eq_true] at e
    cases h
    exact F.exm c (List.contains_iff_mem.mp e.1) x (List.contains_iff_mem.mp e.2)
  · cases h
/-- try: .. except X: .. -/
def sTryO (CL : List Str) (x : Str) (mb : NW → NS) (ms : NS) (w : NW) : NS := fun D e S => mb (fun c d e1 S1 => match catchOf CL c x with
  | some true => ms D e1 S1
  | some false => w c d e1 S1
  | none => False) D e S
theorem js_try_only {CL : List Str} (cx : NX X H0 w) (F : KX CL X.K) (hm : X.mg x = some (.ref (He.ga X.K x))) (hs : X.stack = X.env :: X.outer) (hf : X.env.frame = some X.env.locals)
    (hb : ∀ (H1 : Hp) (w' : NW) (pn : List (Addr × Obj)) (xe : Value → Shared → Prop), HExt H0 H1 → NX (X.tr pn xe) H1 w' → JSs (X.tr pn xe) H1 body (mb w'))
    (hsu : ∀ (H1 : Hp) (a : Addr) (pn : List (Addr × Obj)), JSs (X.suite a pn) H1 (b₀ :: suite) ms) (hg : Gl X x := by rfl) (hdb : (x == ("__debug__" : Str)) = false := by decide +kernel) :
    JS X H0 (.Try body [.ExceptHandler (some (.Name x np)) none (b₀ :: suite) pos'] [] [] pos) (sTryO CL x mb ms w) := by
  refine (ps_try_only (tb := fun W D σ H => ∃ (H1 : Hp) (w' : NW), HExt H0 H1 ∧ (∀ c d σ H, lW X.K H1 w' c d σ H → W c d σ H) ∧ lS X.K H1 (mb w') D σ H) (ts := fun _ _ _ D σ H => ∃ H1, lS X.K H1 ms D σ H) hs hf ⟨hg, hdb, .inl hm⟩ cx.tk (fun W pn xe tk po => ?_) (fun a oe cls d pn hz hfl => ?_)).imq fun D σ H ⟨e, S, D', A, m, k⟩ => ?_
  · refine ⟨fun pins s σ H D I h => ?_⟩
    obtain ⟨H1, w', ht, h1, h2⟩ := h
    exact (hb H1 w' pn xe ht ⟨tk.imp h1, po, cx.calm, ht.tab cx.tb⟩).run pins s σ H D I h2
  · refine ⟨fun pins s σ H D I h => ?_⟩
    obtain ⟨H1, h1⟩ := h
    exact (hsu H1 a ((a, oe) :: pn)).run pins s σ H D I h1
  · refine ⟨H, _, A.x, fun u d σ1 H1 ⟨c, e1, S1, ec, A1, q⟩ => ?_, e, S, D', ⟨.refl H, A.e, A.s⟩, m, ⟨fun e' S' σ' H' x A' q => k.nx e' S' σ' H' x ⟨A.x.trans x, A'.e, A'.s⟩ q, k.rt, fun e' S' σ' H' x A' q => k.bk e' S' σ' H' x ⟨A.x.trans x, A'.e, A'.s⟩ q, fun e' S' σ' H' x A' q => k.ct e' S' σ' H' x ⟨A.x.trans x, A'.e, A'.s⟩ q⟩⟩
    subst ec
    cases e : catchOf CL c x with
    | none =>
      dsimp only at q
      rw [e] at q; exact q.elim
    | some b =>
      refine ⟨b, catch_ok F e, fun eb a na => ?_, fun eb => ?_⟩
      · subst eb
        dsimp only at q
        rw [e] at q
        exact ⟨H0, e1, S1, D', ⟨A.x.trans A1.x, A1.e, A1.s⟩, q, k.ext A1.x⟩
      · subst eb
        dsimp only at q
        rw [e] at q
        exact ⟨c, e1, S1, rfl, ⟨A.x.trans A1.x, A1.e, A1.s⟩, q⟩
/-- try: .. except X as n: y = n; the exception stays -/
def sTryK (CL : List Str) (x : Str) (i j : Nat) (mb : NW → NS) (w : NW) : NS := fun D e S => mb (fun c d e1 S1 => match catchOf CL c x with
  | some true => i < e1.length ∧ ∀ a, S1 a = none → D.nx ((e1.set j (some (.ref a))).set i none) (put S1 a (.exc c d))
  | some false => w c d e1 S1
  | none => False) D e S
theorem js_try_keep {CL : List Str} (cx : NX X H0 w) (F : KX CL X.K) (hm : X.mg x = some (.ref (He.ga X.K x))) (hN : X.N.Nodup) (hs : X.stack = X.env :: X.outer) (hf : X.env.frame = some X.env.locals) (hex : X.ex = []) (hfn : ∀ z, X.fn z = true) (hij : i ≠ j)
    (hb : ∀ (H1 : Hp) (w' : NW) (pn : List (Addr × Obj)) (xe : Value → Shared → Prop), HExt H0 H1 → NX (X.tr pn xe) H1 w' → JSs (X.tr pn xe) H1 body (mb w'))
    (hi : X.N[i]? = some n) (hj : X.N[j]? = some y) (hln : X.env.kindOf n = some .local) (hly : Loc X.env.scope y) (hsw : ∀ a pn, swapsWith (.Name n p2) (some (.Name y p1)) p3.line (X.suite a pn).env = pure false)
    (hdn : (n == ("__debug__" : Str)) = false := by decide +kernel) (hcn : (n == ("__classdict__" : Str)) = false := by decide +kernel) (hg : Gl X x := by rfl) (hdb : (x == ("__debug__" : Str)) = false := by decide +kernel) :
    JS X H0 (.Try body [.ExceptHandler (some (.Name x np)) (some n) [.Assign [.Name y p1] (.Name n p2) p3] pos'] [] [] pos) (sTryK CL x i j mb w) := by
  refine (ps_try_keep (tb := fun W D σ H => ∃ (H1 : Hp) (w' : NW), HExt H0 H1 ∧ (∀ c d σ H, lW X.K H1 w' c d σ H → W c d σ H) ∧ lS X.K H1 (mb w') D σ H) (ts := fun a _ _ D σ H => tAsg (tVar i) (gName j) D σ H) hs hf hex hN hi hln ⟨hg, hdb, .inl hm⟩ cx.tk (fun W pn xe tk po => ?_) (fun a oe cls d pn hz hfl => ?_)).imq fun D σ H ⟨e, S, D', A, m, k⟩ => ?_
  · refine ⟨fun pins s σ H D I h => ?_⟩
    obtain ⟨H1, w', ht, h1, h2⟩ := h
    exact (hb H1 w' pn xe ht ⟨tk.imp h1, po, cx.calm, ht.tab cx.tb⟩).run pins s σ H D I h2
  · exact pss_one (ps_set (X := X.suite a ((a, oe) :: pn)) hN hj hly (pe_var (X := X.suite a ((a, oe) :: pn)) hi (.inl hln) hdn hcn) (hsw _ _) (.inl (hfn y)))
  · refine ⟨H, _, A.x, fun u d σ1 H1 ⟨c, e1, S1, ec, A1, q⟩ => ?_, e, S, D', ⟨.refl H, A.e, A.s⟩, m, ⟨fun e' S' σ' H' x A' q => k.nx e' S' σ' H' x ⟨A.x.trans x, A'.e, A'.s⟩ q, k.rt, fun e' S' σ' H' x A' q => k.bk e' S' σ' H' x ⟨A.x.trans x, A'.e, A'.s⟩ q, fun e' S' σ' H' x A' q => k.ct e' S' σ' H' x ⟨A.x.trans x, A'.e, A'.s⟩ q⟩⟩
    subst ec
    cases e : catchOf CL c x with
    | none =>
      dsimp only at q
      rw [e] at q; exact q.elim
    | some b =>
      refine ⟨b, catch_ok F e, fun eb a na => ?_, fun eb => ?_⟩
      · subst eb
        dsimp only at q
        rw [e] at q
        obtain ⟨hlt0, q⟩ := q
        have q1 := q a (A1.s.fresh na)
        have hlt : i < σ1.length := by rw [← Paired.length A1.e]; exact hlt0
        refine ⟨.ref a, by rw [List.getElem?_set_self hlt], fun na' => ?_⟩
        have xx : HExt H1 (upd H1 a (.ext (excP a (.ref (He.ga X.K c)) d))) := .new na
        have A2 : At X.K H0 (upd H1 a (.ext (excP a (.ref (He.ga X.K c)) d))) σ1 e1 (put S1 a (.exc c d)) := ⟨(A.x.trans A1.x).trans xx, A1.e.ext xx, A1.s.put (o := .exc c d) xx upd_same⟩
        have A3 := A2.set (.ref a) j
        have hc : (((σ1.set i (some (V.ref a))).set j (some (V.ref a))).set i none) = ((σ1.set j (some (V.ref a))).set i none) := by
          rw [List.set_comm _ _ hij, List.set_set]
        rw [hc]
        exact k.nx _ _ _ _ (A1.x.trans xx) ⟨A3.x, A3.e.unset i, A3.s⟩ q1
      · subst eb
        dsimp only at q
        rw [e] at q
        exact ⟨c, e1, S1, rfl, ⟨A.x.trans A1.x, A1.e, A1.s⟩, q⟩
end
end N

set_option Elab.async false
set_option linter.all false
set_option maxRecDepth 100000
set_option maxHeartbeats 4000000
namespace N
variable [TabList]
open PySem PySem.Spec PyProof.Rows L2
section
variable {X : Cx} {H0 : Hp} {w : NW} {a b c o : Expr} {ma mb mc mo : NE} {pos : Pos} {es : List Expr} {mr : NA}

/-! ### chains as tests -/
theorem jt_chain {op op' : CmpOp} {n n' : N2} (ho : OpN X (compareOp op) n) (ho' : OpN X (compareOp op') n') (ha : JE X H0 a ma) (hb : JE X H0 b mb) (hc : JE X H0 c mc)
    (h1 : lastMarks [op, op'] [b, c] = false := by with_unfolding_all rfl) : JT X H0 (.Compare a [op, op'] [b, c] pos) (mTst (mChain n n' ma mb mc)) := by
  obtain ⟨r, h3, h4⟩ := ho
  obtain ⟨r', h5, h6⟩ := ho'
  refine L2.PT.imq (pt_chain h3 h5 ha hb hc h1) fun σ H Q h => ?_
  obtain ⟨e, S, Q', A, m, k⟩ := h
  refine ⟨e, S, _, A, m, fun x S1 vx H1 x1 s1 rx m1 => ?_⟩
  refine ⟨e, S1, _, A.next x1 s1, m1, fun y S2 vy H2 x2 s2 ry m2 => ?_⟩
  refine h4 x y S2 _ vx vy H2 _ s2 (rx.ext x2) ry m2 fun z S3 vz H3 x3 s3 rz m3 => ?_
  cases z with
  | bl t =>
    cases rz
    have x13 := (x1.trans x2).trans x3
    cases t with
    | true =>
      refine ⟨true, rfl, iteT ?_⟩
      refine ⟨e, S3, _, A.next x13 s3, m3, fun u S4 vu H4 x4 s4 ru m4 => ?_⟩
      refine h6 y u S4 _ vy vu H4 _ s4 ((ry.ext x3).ext x4) ru m4 fun d S' v H' x5 s5 rd q => ?_
      cases d with
      | bl t => cases rd; exact ⟨t, rfl, k t S' H' ((x13.trans x4).trans x5) s5 q⟩
      | _ => exact q.elim
    | false => exact ⟨false, rfl, iteF ⟨false, rfl, k false S3 H3 x13 s3 m3⟩⟩
  | _ => exact m3.elim

/-! ### names of the module -/
theorem je_gint {x : Str} {i : Int} (h : ∃ t, X.mg x = some (.int i t)) (hg : Gl X x := by rfl) (hd : (x == ("__debug__" : Str)) = false := by decide +kernel) : JE X H0 (.Name x pos) (mC (.int i)) := by
  obtain ⟨t, h⟩ := h
  exact je_glob (v := .int i) h ⟨t, rfl⟩ (fun _ => .int i) hg hd
theorem je_gstr {x z : Str} (h : ∃ t, X.mg x = some (.str z t)) (hg : Gl X x := by rfl) (hd : (x == ("__debug__" : Str)) = false := by decide +kernel) : JE X H0 (.Name x pos) (mC (.str z)) := by
  obtain ⟨t, h⟩ := h
  exact je_glob (v := .str z) h ⟨t, rfl⟩ (fun _ => .str z) hg hd
theorem je_cls {x : Str} (h : X.mg x = some (.ref (He.ga X.K x))) (hg : Gl X x := by rfl) (hd : (x == ("__debug__" : Str)) = false := by decide +kernel) : JE X H0 (.Name x pos) (mC (.cls x)) :=
  je_glob (v := .ref (He.ga X.K x)) h rfl (fun _ => .cls x) hg hd
theorem je_tyB {x : Str} {T : String} (h : X.mg x = none) (hv : bootBuiltins x = some (.type T) := by decide +kernel) (hg : Gl X x := by rfl) (hn : x ≠ "__name__" := by decide +kernel) (hd : (x == ("__debug__" : Str)) = false := by decide +kernel) : JE X H0 (.Name x pos) (mC (.ty T)) :=
  je_bltn (v := .ty T) h hv rfl (fun _ => .ty T) hg hn hd
/-- a written tuple of texts -/
def tupW (K : PySem.W.Frag) (x : Str) (ys : List Str) : Bool := match K.lookup (He.ga K x) with
  | some ⟨.type c, none, .seq its _, _⟩ => decide (c = "tuple") && (decide (its.size ≤ sizeLine) && He.relAll (ys.map V.str) its.toList)
  | _ => false
structure TupS (K : PySem.W.Frag) (x : Str) (ys : List Str) : Prop where
  ex : ∃ (sl : Array (Option Value)) (its : List Value) (n : Nat), K.lookup (He.ga K x) = some ⟨.type "tuple", none, .seq its.toArray n, sl⟩ ∧ its.length ≤ sizeLine ∧ Vals (ys.map V.str) its
theorem tupW_ok {K : PySem.W.Frag} {x : Str} {ys : List Str} (h : tupW K x ys = true) : TupS K x ys := by
  unfold tupW at h
  cases q : K.lookup (He.ga K x) with
  | none => rw [q] at h; cases h
  | some ob =>
    obtain ⟨oc, od, dt, osl⟩ := ob
    rw [q] at h
    cases oc with
    | type c =>
      cases od with
      | none =>
        cases dt with
        | seq its n =>
          obtain ⟨h1, h2⟩ := He.ba h
          obtain ⟨h3, h4⟩ := He.ba h2
          have e := of_decide_eq_true h1
          subst e
          exact ⟨osl, its.toList, n, by simpa using q, by simpa using of_decide_eq_true h3, He.relAll_ok h4⟩
        | _ => cases h
      | some d => cases dt <;> cases h
    | _ => cases od <;> cases dt <;> cases h
theorem vrs_strs {K : PySem.W.Frag} {H : Hp} : ∀ ys : List Str, VRs K H (ys.map D.str) (ys.map V.str)
  | [] => .nil
  | y :: r => .cons (.str y) (vrs_strs r)
theorem TupS.vr {K : PySem.W.Frag} {x : Str} {ys : List Str} (T : TupS K x ys) (H : Hp) : VR K H (.tup (ys.map D.str)) (.ref (He.ga K x)) := by
  obtain ⟨sl, its, n, h1, h2, h3⟩ := T.ex
  exact .tup (.inr ⟨none, sl, its, n, h1, h2, h3⟩) (vrs_strs ys)
theorem je_gtup {x : Str} {ys : List Str} (T : TupS X.K x ys) (h : X.mg x = some (.ref (He.ga X.K x))) (hg : Gl X x := by rfl) (hd : (x == ("__debug__" : Str)) = false := by decide +kernel) : JE X H0 (.Name x pos) (mC (.tup (ys.map D.str))) :=
  je_glob (v := .ref (He.ga X.K x)) h rfl (fun H => T.vr H) hg hd

/-! ### methods of the built-ins -/
def nTupIndex (ys : List Str) : D → Sto → NQ → Prop := fun y S Q => match y with
  | .str z => (match ys.findIdx? (fun x => decide (x = z)) with
    | some j => Q (.int (j : Nat)) S
    | none => False)
  | _ => False
def mTupIndex (ys : List Str) (m : NE) : NE := fun e S Q => m e S fun d S1 => nTupIndex ys d S1 Q
theorem je_tupIndex {x : Str} {ys : List Str} {p1 apos : Pos} (T : TupS X.K x ys) (h : X.mg x = some (.ref (He.ga X.K x))) (he : JE X H0 a ma) (hg : Gl X x := by rfl) (hd : (x == ("__debug__" : Str)) = false := by decide +kernel)
    (hbase : attributeBase (.Name x p1) "index" X.env (eval (.Name x p1) X.env) = eval (.Name x p1) X.env := by rfl)
    (hfew : ((backTo pos (starEach (a :: []) X.env)).all (fun x => !x.1) && (backToKw pos (keywordEach [] X.env)).all (fun x => x.1.isSome)
      && decide ((a :: []).length + ([] : List Keyword).length + (if ([] : List Keyword).isEmpty then 0 else 1) < 30)) = true := by rfl)
    (hline : (apos.endLine == pos.line) = true := by rfl) (hs : starEach (a :: []) X.env = (false, eval a X.env) :: starEach [] X.env := by rfl) (hplain : (backTo pos (starEach [] X.env)).any (·.1) = false := by rfl) :
    JE X H0 (.Call (.Attribute (.Name x p1) "index" apos) [a] [] pos) (mTupIndex ys ma) := by
  refine (pe_bm PySem.F.plainAttrs_tuple PySem.F.slot_tuple_index PySem.F.type_tuple_index mt_tup_index (pe_glob (v := .ref (He.ga X.K x)) hg h rfl hd) (ja_cons he ja_nil hs) hbase hfew hline hs hplain).imq fun σ H Q ⟨e, S, Q', A, m, k⟩ => ?_
  obtain ⟨sl, its, n, h1, h2, h3⟩ := T.ex
  refine ⟨.inr (.inl ⟨rfl, _, h1, rfl, rfl⟩), e, S, fun ds S1 => ∃ d, ds = [d] ∧ nTupIndex ys d S1 Q', A, ?_, fun ds S1 vs H1 x1 s1 r ⟨d, ed, q⟩ => ?_⟩
  · have : (fun d S1 => ∃ d', [d] = [d'] ∧ nTupIndex ys d' S1 Q') = fun d S1 => nTupIndex ys d S1 Q' := by
      funext d S1
      exact propext ⟨fun ⟨d', e, q⟩ => by cases e; exact q, fun q => ⟨d, rfl, q⟩⟩
    exact (congrArg (ma e S) this).mpr m
  · subst ed
    obtain ⟨v, rfl, rv⟩ := vrs1 r
    unfold nTupIndex at q
    split at q
    · rename_i z _
      cases rv
      split at q
      · rename_i j ej
        obtain ⟨hj, e1, e2⟩ := List.findIdx?_eq_some_iff_getElem.mp ej
        refine ⟨_, ys, z, j, rfl, rfl, (TupR.sq (.inr ⟨none, sl, its, n, h1, h2, h3⟩)), ?_, fun i hi he => ?_, k _ _ _ _ x1 s1 (.int _) q⟩
        · rw [List.getElem?_eq_getElem hj, of_decide_eq_true e1]
        · obtain ⟨h5, h6⟩ := List.getElem?_eq_some_iff.mp he
          have := e2 i hi
          rw [h6] at this
          simp at this
      · exact q.elim
    · exact q.elim
/-- xs.index(y), flat items -/
def nIndex : D → D → Sto → NQ → Prop := fun x y S Q => match x with
  | .ref p => (match S p with
    | some (.lst ds) => flatD y = true ∧ ds.all flatD = true ∧ (match ds.findIdx? (fun d => eqF d y) with
      | some j => Q (.int (j : Nat)) S
      | none => False)
    | _ => False)
  | _ => False
/-- the receiver is a list, and stands -/
def mLm (n : D → List D → Sto → NQ → Prop) (mo : NE) (mr : NA) : NE := fun e S Q => mo e S fun x S1 => (∃ p ds, x = .ref p ∧ S1 p = some (.lst ds)) ∧ mr e S1 fun ds S2 => n x ds S2 Q
def OpM (K : PySem.W.Frag) (r : V → List V → Hp → VK → Prop) (n : D → List D → Sto → NQ → Prop) : Prop := ∀ x ys S Q vx vs H Q', SR K S H → VR K H x vx → VRs K H ys vs → n x ys S Q → (∀ d S' v H', HExt H H' → SR K S' H' → VR K H' d v → Q d S' → Q' v H') → r vx vs H Q'
theorem je_lm {name : Str} {id : String} {r : V → List V → Hp → VK → Prop} {n : D → List D → Sto → NQ → Prop} {apos : Pos} (slot : Slot "list" name id) (hty : typeOf (.builtin id) = pure (.type "method_descriptor")) (hm : MtR X id r) (hn : OpM X.K r n) (ho : JE X H0 o mo) (ha : JA X H0 (a :: es) mr)
    (hbase : attributeBase o name X.env (eval o X.env) = eval o X.env := by rfl)
    (hfew : ((backTo pos (starEach (a :: es) X.env)).all (fun x => !x.1) && (backToKw pos (keywordEach [] X.env)).all (fun x => x.1.isSome)
      && decide ((a :: es).length + ([] : List Keyword).length + (if ([] : List Keyword).isEmpty then 0 else 1) < 30)) = true := by rfl)
    (hline : (apos.endLine == pos.line) = true := by rfl) (hs : starEach (a :: es) X.env = (false, eval a X.env) :: starEach es X.env := by rfl) (hplain : (backTo pos (starEach es X.env)).any (·.1) = false := by rfl) :
    JE X H0 (.Call (.Attribute o name apos) (a :: es) [] pos) (mLm n mo mr) := by
  refine (pe_bm PySem.F.plainAttrs_list slot hty hm ho ha hbase hfew hline hs hplain).imq fun σ H Q ⟨e, S, Q', A, m, k⟩ => ?_
  refine ⟨e, S, _, A, m, fun x S1 vx H1 x1 s1 rx q => ?_⟩
  obtain ⟨⟨p, ds, rfl, e1⟩, q⟩ := q
  cases rx
  obtain ⟨vs0, g1, _⟩ := s1.lst e1
  refine ⟨.inl ⟨rfl, _, SqL.of g1⟩, e, S1, _, A.next x1 s1, q, fun ds S2 vs H2 x2 s2 rs q2 => ?_⟩
  exact hn (.ref p) ds S2 Q' _ vs H2 Q s2 (.ref p) rs q2 fun d S' v H' x3 s3 rd q3 => k d S' v H' ((x1.trans x2).trans x3) s3 rd q3
def nAppend : D → List D → Sto → NQ → Prop := fun x ys S Q => match x, ys with
  | .ref p, [y] => (match S p with
    | some (.lst ds) => ds.length < sizeLine ∧ Q .non (put S p (.lst (ds ++ [y])))
    | _ => False)
  | _, _ => False
theorem opM_append {K : PySem.W.Frag} : OpM K rAppend nAppend := fun x ys S Q vx vs H Q' s rx rs n k => by
  unfold nAppend at n
  split at n
  · rename_i p y
    cases rx
    obtain ⟨v, rfl, rv⟩ := vrs1 rs
    split at n
    · rename_i ds e1
      obtain ⟨ws, g1, r1⟩ := s.lst e1
      have x : HExt H (upd H p (.lst (ws ++ [v]))) := .upd g1 True.intro
      exact ⟨p, ws, v, rfl, rfl, g1, by rw [← r1.length]; exact n.1, k _ _ _ _ x (s.put (o := .lst (ds ++ [y])) x ⟨_, upd_same, (r1.append (.cons rv .nil)).ext x⟩) .non n.2⟩
    · exact n.elim
  · exact n.elim
theorem je_append {apos : Pos} (ho : JE X H0 o mo) (ha : JA X H0 (a :: es) mr)
    (hbase : attributeBase o "append" X.env (eval o X.env) = eval o X.env := by rfl)
    (hfew : ((backTo pos (starEach (a :: es) X.env)).all (fun x => !x.1) && (backToKw pos (keywordEach [] X.env)).all (fun x => x.1.isSome)
      && decide ((a :: es).length + ([] : List Keyword).length + (if ([] : List Keyword).isEmpty then 0 else 1) < 30)) = true := by rfl)
    (hline : (apos.endLine == pos.line) = true := by rfl) (hs : starEach (a :: es) X.env = (false, eval a X.env) :: starEach es X.env := by rfl) (hplain : (backTo pos (starEach es X.env)).any (·.1) = false := by rfl) :
    JE X H0 (.Call (.Attribute o "append" apos) (a :: es) [] pos) (mLm nAppend mo mr) :=
  je_lm PySem.F.slot_list_append PySem.F.type_list_append (r := rAppend) (fun pins s σ H x xs v us Q I rx rs h => mt_append pins s σ H x xs v us Q I rx rs h) opM_append ho ha hbase hfew hline hs hplain
def nIndexL : D → List D → Sto → NQ → Prop := fun x ys S Q => match ys with
  | [y] => nIndex x y S Q
  | _ => False
theorem opM_index {K : PySem.W.Frag} : OpM K (rIndex K) nIndexL := fun x ys S Q vx vs H Q' s rx rs n k => by
  unfold nIndexL nIndex at n
  split at n
  · rename_i y
    split at n
    · rename_i p
      cases rx
      obtain ⟨v, rfl, rv⟩ := vrs1 rs
      split at n
      · rename_i ds e1
        obtain ⟨ws, g1, r1⟩ := s.lst e1
        obtain ⟨n1, n2, n3⟩ := n
        split at n3
        · rename_i j ej
          obtain ⟨hj, e2, e3⟩ := List.findIdx?_eq_some_iff_getElem.mp ej
          obtain ⟨u, hu, ru⟩ := r1.get (List.getElem?_eq_getElem hj)
          have fl : ∀ i (hi : i < ds.length), flatD ds[i] = true := fun i hi => List.all_eq_true.mp n2 _ (List.getElem_mem hi)
          refine ⟨p, ws, v, j, u, rfl, rfl, SqL.of g1, flat_ok rv n1, flats_ok r1 n2, hu, ?_, fun i z hi hz => ?_, k _ _ _ _ (.refl H) s (.int _) n3⟩
          · rw [eqF_ok ru rv (fl j hj) n1]; exact e2
          · have hil : i < ds.length := Nat.lt_trans hi hj
            obtain ⟨u', hu', ru'⟩ := r1.get (List.getElem?_eq_getElem hil)
            rw [hz] at hu'
            cases hu'
            rw [eqF_ok ru' rv (fl i hil) n1]
            have := e3 i hi
            simpa using this
        · exact n3.elim
      · exact n.elim
    · exact n.elim
  · exact n.elim
theorem je_index {apos : Pos} (ho : JE X H0 o mo) (ha : JA X H0 (a :: es) mr)
    (hbase : attributeBase o "index" X.env (eval o X.env) = eval o X.env := by rfl)
    (hfew : ((backTo pos (starEach (a :: es) X.env)).all (fun x => !x.1) && (backToKw pos (keywordEach [] X.env)).all (fun x => x.1.isSome)
      && decide ((a :: es).length + ([] : List Keyword).length + (if ([] : List Keyword).isEmpty then 0 else 1) < 30)) = true := by rfl)
    (hline : (apos.endLine == pos.line) = true := by rfl) (hs : starEach (a :: es) X.env = (false, eval a X.env) :: starEach es X.env := by rfl) (hplain : (backTo pos (starEach es X.env)).any (·.1) = false := by rfl) :
    JE X H0 (.Call (.Attribute o "index" apos) (a :: es) [] pos) (mLm nIndexL mo mr) :=
  je_lm PySem.F.slot_list_index PySem.F.type_list_index mt_index opM_index ho ha hbase hfew hline hs hplain

/-! ### a dict, displayed -/
def mPairs : List (Key × NE) → Env → Sto → (List (Key × D) → Sto → Prop) → Prop
  | [], _, S, Q => Q [] S
  | (k, m) :: r, e, S, Q => m e S fun d S1 => mPairs r e S1 fun ps S2 => Q ((k, d) :: ps) S2
def mergeD (kvs more : List (Key × D)) : List (Key × D) := more.foldl (fun acc kv => dput acc kv.1 kv.2) kvs
def mDisp (ps : List (Key × NE)) : NE := fun e S Q => ∀ p, S p = none → mPairs ps e (put S p (.dic [])) fun kvs S2 => S2 p = some (.dic []) ∧ kvs.length ≤ 15 ∧ Q (.ref p) (put S2 p (.dic (mergeD [] kvs)))
structure JPs (X : Cx) (H0 : Hp) (pos : Pos) (keys : List (Option Expr)) (values : List Expr) (ps : List (Key × NE)) : Prop where
  ex : ∃ trs, PPs X pos keys values trs ∧ ∀ σ H (Q : List (V × V) → Hp → Prop) e S Q', At X.K H0 H σ e S → mPairs ps e S Q' → (∀ kvs S' ws H', HExt H H' → SR X.K S' H' → KVR X.K H' kvs ws → Q' kvs S' → Q (ws.map fun kv => (kV kv.1, kv.2)) H') → tPairs trs σ H Q
theorem jps_nil : JPs X H0 pos [] [] [] := ⟨[], pps_nil, fun σ H Q e S Q' A m k => k [] S [] H (.refl H) A.s .nil m⟩
theorem jps_cons {x : Str} {j : Nat} {kp : Pos} {ks : List (Option Expr)} {vs : List Expr} {ps : List (Key × NE)} {v : Expr} {mv : NE} (hv : JE X H0 v mv) (hr : JPs X H0 pos ks vs ps) : JPs X H0 pos (some (.Constant (.str x) j kp) :: ks) (v :: vs) ((.inr x, mv) :: ps) := by
  obtain ⟨trs, h1, h2⟩ := hr.ex
  refine ⟨_, pps_cons pe_str hv h1, fun σ H Q e S Q' A m k => ?_⟩
  refine ⟨e, S, _, A, m, fun d S1 vd H1 x1 s1 rd m1 => ?_⟩
  refine h2 σ H1 _ e S1 _ (A.next x1 s1) m1 fun kvs S' ws H' x2 s2 r q => ?_
  exact k ((.inr x, d) :: kvs) S' ((.inr x, vd) :: ws) H' (x1.trans x2) s2 (.cons ⟨rfl, rd.ext x2⟩ r) q
theorem merge_ok {K : PySem.W.Frag} {H : Hp} : ∀ {more : List (Key × D)} {wm : List (Key × V)} {kvs : List (Key × D)} {ws : List (Key × V)}, KVR K H more wm → KVR K H kvs ws → KVR K H (mergeD kvs more) (mergeK ws wm)
  | _, _, _, _, .nil, r => r
  | p :: ps, q :: qs, _, _, .cons h t, r => by
    show KVR K H (mergeD (dput _ p.1 p.2) ps) (mergeK (putK _ q.1 q.2) qs)
    refine merge_ok t ?_
    rw [← h.1]
    exact dput_ok r p.1 h.2
theorem je_disp {keys : List (Option Expr)} {values : List Expr} {ps : List (Key × NE)} (h : JPs X H0 pos keys values ps) (hall : keys.all (·.isSome) = true := by rfl) (hl : keys.length = values.length := by rfl) (h0 : keys ≠ [] := by intro z; cases z) (h15 : keys.length ≤ 15 := by decide) :
    JE X H0 (.Dict keys values pos) (mDisp ps) := by
  obtain ⟨trs, h1, h2⟩ := h.ex
  refine (pe_disp h1 hall hl h0 h15).imq fun σ H Q ⟨e, S, Q', A, m, k⟩ p np => ?_
  have x0 : HExt H (upd H p (.dK [])) := .new np
  have s0 : SR X.K (put S p (.dic [])) (upd H p (.dK [])) := A.s.put (o := .dic []) x0 ⟨[], upd_same, .nil⟩
  refine h2 σ _ _ e _ _ (A.next x0 s0) (m p (A.s.fresh np)) fun kvs S' ws H' x1 s1 r q => ?_
  obtain ⟨q1, q2, q3⟩ := q
  obtain ⟨w0, g0, r0⟩ := s1.dic q1
  cases r0
  refine ⟨g0, ws, rfl, by rw [← Paired.length r]; exact q2, ?_⟩
  have x2 : HExt H' (upd H' p (.dK (mergeK [] ws))) := .upd g0 True.intro
  exact k _ _ _ _ ((x0.trans x1).trans x2) (s1.put (o := .dic (mergeD [] kvs)) x2 ⟨_, upd_same, KVR.ext x2 (merge_ok r .nil)⟩) (.ref p) q3

/-! ### a field, op= -/
def sFldAugN (f : Str) (mo mv : NE) (n : N2) : NS := fun Z e S => mo e S fun x S1 => match x with
  | .ref p => (match S1 p with
    | some (.ins c fs) => (match fs.lookup f with
      | some v => mv e S1 fun y S2 => n v y S2 fun z S3 => (match S3 p with
        | some (.ins c' fs') => c' = c ∧ fs'.length < 1000 ∧ Z.nx e (put S3 p (.ins c (putD f z fs')))
        | _ => False)
      | none => False)
    | _ => False)
  | _ => False
theorem js_fldaug {f : Str} {op : Operator} {n : N2} {rd : R2} {value : Expr} {mv : NE} {tpos : Pos} (ho : JE X H0 o mo) (hv : JE X H0 value mv) (hop : InOp X op rd) (hn : Op2 X.K rd n) (hf : f ∈ FN := by decide +kernel) : JS X H0 (.AugAssign (.Attribute o f tpos) op value pos) (sFldAugN f mo mv n) := by
  refine (ps_fldaug ho hv hop).imq fun D σ H ⟨e, S, D', A, m, k⟩ => ?_
  refine ⟨e, S, _, A, m, fun x S1 vx H1 x1 s1 rx q => ?_⟩
  split at q
  · rename_i p
    cases rx
    split at q
    · rename_i c fs e1
      obtain ⟨dx, ws, g1, r1, co⟩ := s1.ins e1
      split at q
      · rename_i d ed
        obtain ⟨v, g2, g3⟩ := (KVR.look (f := f) r1).1 d ed
        refine ⟨p, _, dx, ws, v, rfl, g1, co.cl, co.no f hf, g2, ?_⟩
        refine ⟨e, S1, _, A.next x1 s1, q, fun y S2 vy H2 x2 s2 ry q2 => ?_⟩
        refine hn d y S2 _ v vy H2 _ s2 (g3.ext x2) ry q2 fun z S3 vz H3 x3 s3 rz q3 => ?_
        split at q3
        · rename_i c' fs' e2
          obtain ⟨rfl, q4, q5⟩ := q3
          obtain ⟨dx', ws', g4, r4, co'⟩ := s3.ins e2
          obtain ⟨x4, s4⟩ := s3.setIns (f := f) g4 r4 co' rz
          have xx := ((x1.trans x2).trans x3).trans x4
          exact ⟨dx', ws', g4, by have := Paired.length r4; omega, k.nx _ _ _ _ xx (A.next xx s4) q5⟩
        · exact q3.elim
      · exact q.elim
    · exact q.elim
  · exact q.elim
theorem op2_add {K : PySem.W.Frag} : Op2 K rAdd (nInt0 fun i j => .int (i + j)) := fun x y S Q vx vy H Q' s rx ry n k => by
  unfold nInt0 at n
  split at n
  · cases rx; cases ry
    exact ⟨_, _, rfl, rfl, k _ _ _ _ (.refl H) s (.int _) n⟩
  · exact n.elim
theorem op2_sub {K : PySem.W.Frag} : Op2 K rSub (nInt0 fun i j => .int (i - j)) := fun x y S Q vx vy H Q' s rx ry n k => by
  unfold nInt0 at n
  split at n
  · cases rx; cases ry
    exact ⟨_, _, rfl, rfl, k _ _ _ _ (.refl H) s (.int _) n⟩
  · exact n.elim
end
end N

set_option Elab.async false
set_option linter.all false
set_option maxRecDepth 100000
set_option maxHeartbeats 4000000
namespace N
variable [TabList]
open PySem PySem.Spec PyProof.Rows L2

/-! ### what is walked, in general -/
abbrev NI := Env → Sto → (List D → Keep → Sto → Prop) → Prop
/-- the walk J gives the items ds, as long as kp -/
structure ItR (K : PySem.W.Frag) (H1 : Hp) (J : It) (ds : List D) (kp : Keep) : Prop where
  stop : ∀ H S, HExt H1 H → SR K S H → kp S → J.stop ds.length H
  go : ∀ i H S, i < ds.length → HExt H1 H → SR K S H → kp S → J.go i H
  yld : ∀ i H S x H' d, ds[i]? = some d → HExt H1 H → SR K S H → kp S → J.yld i H x H' → HExt H H' ∧ SR K S H' ∧ VR K H' d x
def lI (K : PySem.W.Frag) (H0 : Hp) (m : NI) : TI := fun σ H R => ∃ e S Q', At K H0 H σ e S ∧ m e S Q' ∧ ∀ ds kp S1 H1 J, HExt H H1 → SR K S1 H1 → kp S1 → Q' ds kp S1 → ItR K H1 J ds kp → R J H1
abbrev JI (X : Cx) (H0 : Hp) (tg e : Expr) (m : NI) : Prop := PI X tg e (lI X.K H0 m)
theorem _root_.L2.PI.imq {X : Cx} {tg e : Expr} {t t' : TI} (h : PI X tg e t) (i : ∀ σ H R, t' σ H R → t σ H R) : PI X tg e t' := ⟨fun pins s σ H R I q => h.run pins s σ H R I (i _ _ _ q)⟩
section
variable {X : Cx} {H0 : Hp} {w : NW} {a b c o : Expr} {ma mb mo : NE} {pos : Pos} {es : List Expr} {mr : NA}
theorem itr_tup {K : PySem.W.Frag} {H1 : Hp} {p : Addr} {vs : List V} {ds : List D} (tr : TupR K H1 p vs) (rr : VRs K H1 ds vs) : ItR K H1 (Itt K p) ds fun _ => True := by
  refine ⟨fun H2 S2 x s _ => ⟨vs, (tr.ext x).sq, by rw [← rr.length]; exact Nat.le_refl _⟩, fun i H2 S2 hi x s _ => ?_, fun i H2 S2 y H3 d hd x s _ yl => ?_⟩
  · obtain ⟨v, hv, _⟩ := rr.get (List.getElem?_eq_getElem hi)
    exact ⟨vs, v, (tr.ext x).sq, hv⟩
  · obtain ⟨rfl, yl⟩ := yl
    obtain ⟨v, hv, rv⟩ := rr.get hd
    have := yl vs (tr.ext x).sq
    rw [hv] at this
    cases this
    exact ⟨.refl _, s, rv.ext x⟩
theorem itr_rol {K : PySem.W.Frag} {H1 : Hp} {p : Addr} {vs : List V} {ds : List D} (tr : RolR K H1 p vs) (rr : VRs K H1 ds vs) : ItR K H1 (Itl K p) ds fun _ => True := by
  refine ⟨fun H2 S2 x s _ => ⟨vs, (tr.ext x).sq, by rw [← rr.length]; exact Nat.le_refl _⟩, fun i H2 S2 hi x s _ => ?_, fun i H2 S2 y H3 d hd x s _ yl => ?_⟩
  · obtain ⟨v, hv, _⟩ := rr.get (List.getElem?_eq_getElem hi)
    exact ⟨vs, v, (tr.ext x).sq, hv⟩
  · obtain ⟨rfl, yl⟩ := yl
    obtain ⟨v, hv, rv⟩ := rr.get hd
    have := yl vs (tr.ext x).sq
    rw [hv] at this
    cases this
    exact ⟨.refl _, s, rv.ext x⟩
theorem itr_lst {K : PySem.W.Frag} {H1 : Hp} {p : Addr} {ds : List D} : ItR K H1 (Itl K p) ds fun S' => S' p = some (.lst ds) := by
  refine ⟨fun H2 S2 x s kk => ?_, fun i H2 S2 hi x s kk => ?_, fun i H2 S2 y H3 d hd x s kk yl => ?_⟩
  · obtain ⟨vs, g1, rr⟩ := s.lst kk
    exact ⟨vs, SqL.of g1, by rw [← rr.length]; exact Nat.le_refl _⟩
  · obtain ⟨vs, g1, rr⟩ := s.lst kk
    obtain ⟨v, hv, _⟩ := rr.get (List.getElem?_eq_getElem hi)
    exact ⟨vs, v, SqL.of g1, hv⟩
  · obtain ⟨vs, g1, rr⟩ := s.lst kk
    obtain ⟨rfl, yl⟩ := yl
    obtain ⟨v, hv, rv⟩ := rr.get hd
    have := yl vs (SqL.of g1)
    rw [hv] at this
    cases this
    exact ⟨.refl _, s, rv⟩
theorem itr_rng {K : PySem.W.Frag} {H1 : Hp} {lo : Int} {n : Nat} : ItR K H1 (Itr lo n) (rangeD lo n) fun _ => True := by
  refine ⟨fun H S x s _ => Nat.le_of_eq rangeD_length.symm, fun i H S hi x s _ => ?_, fun i H S y H' d hd x s _ yl => ?_⟩
  · rw [rangeD_length] at hi; exact hi
  · obtain ⟨rfl, rfl⟩ := yl
    obtain ⟨_, rfl⟩ := rangeD_get hd
    exact ⟨.refl _, s, .int _⟩
/-- what a walk finds: a list, a tuple, a text's signs -/
def signsD (z : Str) : List D := z.cps.toList.map fun c => .str ⟨#[c]⟩
def nWalkA : D → Sto → (List D → Keep → Prop) → Prop := fun x S Q => match x with
  | .tup ds => Q ds fun _ => True
  | .rol ds => Q ds fun _ => True
  | .str z => Q (signsD z) fun _ => True
  | .ref p => (match S p with
    | some (.lst ds) => Q ds fun S' => S' p = some (.lst ds)
    | _ => False)
  | _ => False
def iWalk (m : NE) : NI := fun e S Q => m e S fun x S1 => nWalkA x S1 fun ds kp => Q ds kp S1
theorem itr_str {K : PySem.W.Frag} {H1 : Hp} {z : Str} : ItR K H1 (Its z) (signsD z) fun _ => True := by
  refine ⟨fun H S _ _ _ => ?_, fun i H S hi _ _ _ => ?_, fun i H S y H' d hd _ s _ yl => ?_⟩
  · show z.cps.size ≤ (signsD z).length
    unfold signsD; simp
  · unfold signsD at hi
    show i < z.cps.size
    simpa using hi
  · obtain ⟨rfl, c, hc, rfl⟩ := yl
    unfold signsD at hd
    rw [List.getElem?_map] at hd
    have : z.cps.toList[i]? = some c := by simpa using hc
    rw [this] at hd
    cases hd
    exact ⟨.refl _, s, .str _⟩
def iAnyS (K : PySem.W.Frag) (tl : TE) : TI := fun σ H R => tl σ H fun x H1 => (∃ p, x = .ref p ∧ (((∃ xs, SqL K H1 p xs) ∧ R (Itl K p) H1) ∨ ((∃ xs, SqT K H1 p xs) ∧ R (Itt K p) H1))) ∨ ∃ z, x = .str z ∧ R (Its z) H1
theorem pi_any {tg l : Expr} {tl : TE} (hl : PE X l tl) : PI X tg l (iAnyS X.K tl) := by
  refine ⟨fun pins s σ H R I h => ?_⟩
  refine thn (hl.run pins s σ H _ I h) fun v s1 ⟨x, H1, I1, r1, q1⟩ => ?_
  rcases q1 with ⟨p, e, ⟨⟨xs, hq⟩, q⟩ | ⟨⟨xs, hq⟩, q⟩⟩ | ⟨z, e, q⟩
  · subst e
    cases r1
    obtain ⟨its, rv, p, hz⟩ := I1.list hq
    refine wpAny_pyIter_list p.isList ?_
    refine ⟨s1.heap.objs.size, [s1.heap.objs.size], _, _, H1, rfl, I1.kept (t' := s1.toks) fun b o e => Heap.get?_push_of_some _ e, turn_list _ _, ⟨_, Heap.get?_push_size _ rfl, rfl, rfl⟩, fun b hb => ?_, q⟩
    have e : b = s1.heap.objs.size := by simpa using hb
    subst e
    exact I1.fpOk (Nat.le_refl _) (I1.hok.fresh (Nat.le_refl _))
  · subst e
    cases r1
    obtain ⟨its, rv, p, hz⟩ := I1.tuple hq
    refine wpAny_pyIter_tuple (show s1.heap.IsTuple _ its.toArray from p) ?_
    refine ⟨s1.heap.objs.size, [s1.heap.objs.size], _, _, H1, rfl, I1.kept (t' := s1.toks) fun b o e => Heap.get?_push_of_some _ e, turn_tuple _ _, ⟨_, Heap.get?_push_size _ rfl, rfl, rfl⟩, fun b hb => ?_, q⟩
    have e : b = s1.heap.objs.size := by simpa using hb
    subst e
    exact I1.fpOk (Nat.le_refl _) (I1.hok.fresh (Nat.le_refl _))
  · subst e
    obtain ⟨t, rfl⟩ := r1
    cases ha : z.cps.all (· < 128)
    · exact wpAny_pyIter_wide ha (pi_one (tk := s1.toks) I1 _ (turn_str _ z t "str_iterator" (.inr rfl)) ⟨_, Heap.get?_push_size _ rfl, rfl, rfl⟩ q)
    · exact wpAny_pyIter_ascii ha (pi_one (tk := s1.toks) I1 _ (turn_str _ z t "str_ascii_iterator" (.inl rfl)) ⟨_, Heap.get?_push_size _ rfl, rfl, rfl⟩ q)
theorem ji_seq {tg : Expr} (ha : JE X H0 a ma) : JI X H0 tg a (iWalk ma) := by
  refine (pi_any (tg := tg) ha).imq fun σ H R ⟨e, S, Q', A, m, k⟩ => ?_
  refine ⟨e, S, _, A, m, fun x S1 v H1 x1 s1 r m1 => ?_⟩
  unfold nWalkA at m1
  split at m1
  · cases r with
    | tup tr rr => exact .inl ⟨_, rfl, .inr ⟨⟨_, tr.sq⟩, k _ _ _ _ _ x1 s1 True.intro m1 (itr_tup tr rr)⟩⟩
  · cases r with
    | rol tr rr => exact .inl ⟨_, rfl, .inl ⟨⟨_, tr.sq⟩, k _ _ _ _ _ x1 s1 True.intro m1 (itr_rol tr rr)⟩⟩
  · cases r
    exact .inr ⟨_, rfl, k _ _ _ _ _ x1 s1 True.intro m1 itr_str⟩
  · rename_i p
    cases r
    split at m1
    · rename_i ds e1
      obtain ⟨vs0, g0, _⟩ := s1.lst e1
      exact .inl ⟨p, rfl, .inl ⟨⟨vs0, SqL.of g0⟩, k _ _ _ _ _ x1 s1 e1 m1 itr_lst⟩⟩
    · exact m1.elim
  · exact m1.elim
def iRg1 (m : NE) : NI := fun e S Q => m e S fun x S1 => match x with
  | .int j => RngOk j ∧ Q (rangeD 0 j.toNat) (fun _ => True) S1
  | _ => False
def iRg2 (m m' : NE) : NI := fun e S Q => m e S fun x S1 => m' e S1 fun y S2 => match x, y with
  | .int i, .int j => (RngOk i ∧ RngOk j) ∧ Q (rangeD i (j - i).toNat) (fun _ => True) S2
  | _, _ => False
theorem ji_rng1 {tg : Expr} {p rpos : Pos} (hm : X.mg "range" = none) (ha : JE X H0 a ma) (hgl : Gl X "range" := by rfl) (hsr : starEach [a] X.env = [(false, eval a X.env)] := by rfl) (hs1 : starEach [a] X.env = (false, eval a X.env) :: starEach [] X.env := by rfl) :
    JI X H0 tg (.Call (.Name "range" p) [a] [] rpos) (iRg1 ma) := by
  refine (pi_range1 hgl hm (ja_cons ha ja_nil hs1) hsr).imq fun σ H R ⟨e, S, Q', A, m, k⟩ => ?_
  refine ⟨e, S, (fun ds S1 => ∃ x, ds = [x] ∧ match x with
    | .int j => RngOk j ∧ Q' (rangeD 0 j.toNat) (fun _ => True) S1
    | _ => False), A, ?_, fun ds S1 vs H1 x1 s1 r ⟨x, ed, m1⟩ => ?_⟩
  · show ma e S _
    unfold iRg1 at m
    have : (fun x S1 => ∃ x_1, [x] = [x_1] ∧ match x_1 with
      | D.int j => RngOk j ∧ Q' (rangeD 0 j.toNat) (fun _ => True) S1
      | _ => False) = (fun x S1 => match x with
      | D.int j => RngOk j ∧ Q' (rangeD 0 j.toNat) (fun _ => True) S1
      | _ => False) := by
      funext x S1
      exact propext ⟨fun ⟨y, e, q⟩ => by cases e; exact q, fun q => ⟨x, rfl, q⟩⟩
    exact (congrArg (ma e S) this).mpr m
  · subst ed
    obtain ⟨v, rfl, rv⟩ := vrs1 r
    cases x with
    | int j =>
      cases rv
      exact ⟨j, rfl, m1.1.1, m1.1.2, k _ _ _ _ _ x1 s1 True.intro m1.2 itr_rng⟩
    | _ => exact m1.elim
theorem ji_rng2 {tg : Expr} {p rpos : Pos} (hm : X.mg "range" = none) (ha : JE X H0 a ma) (hb : JE X H0 b mb) (hgl : Gl X "range" := by rfl) (hs1 : starEach [a, b] X.env = [(false, eval a X.env), (false, eval b X.env)] := by rfl) (hs2 : starEach [b] X.env = [(false, eval b X.env)] := by rfl)
    (hsa : starEach [a, b] X.env = (false, eval a X.env) :: starEach [b] X.env := by rfl) (hsb : starEach [b] X.env = (false, eval b X.env) :: starEach [] X.env := by rfl) :
    JI X H0 tg (.Call (.Name "range" p) [a, b] [] rpos) (iRg2 ma mb) := by
  refine (pi_range2 hgl hm (ja_cons ha (ja_cons hb ja_nil hsb) hsa) hs1 hs2).imq fun σ H R ⟨e, S, Q', A, m, k⟩ => ?_
  refine ⟨e, S, (fun ds S1 => ∃ x y, ds = [x, y] ∧ match x, y with
    | .int i, .int j => (RngOk i ∧ RngOk j) ∧ Q' (rangeD i (j - i).toNat) (fun _ => True) S1
    | _, _ => False), A, ?_, fun ds S1 vs H1 x1 s1 r ⟨x, y, ed, m1⟩ => ?_⟩
  · show ma e S _
    unfold iRg2 at m
    have : (fun x S1 => mb e S1 fun y S2 => ∃ x_1 y_1, [x, y] = [x_1, y_1] ∧ match x_1, y_1 with
      | D.int i, D.int j => (RngOk i ∧ RngOk j) ∧ Q' (rangeD i (j - i).toNat) (fun _ => True) S2
      | _, _ => False) = (fun x S1 => mb e S1 fun y S2 => match x, y with
      | D.int i, D.int j => (RngOk i ∧ RngOk j) ∧ Q' (rangeD i (j - i).toNat) (fun _ => True) S2
      | _, _ => False) := by
      funext x S1
      congr 1
      funext y S2
      exact propext ⟨fun ⟨x', y', e, q⟩ => by cases e; exact q, fun q => ⟨x, y, rfl, q⟩⟩
    exact (congrArg (ma e S) this).mpr m
  · subst ed
    obtain ⟨v, u, rfl, rv, ru⟩ := vrs2 r
    cases x with
    | int i =>
      cases y with
      | int j =>
        cases rv; cases ru
        exact ⟨i, j, rfl, ⟨m1.1.1.1, m1.1.1.2, m1.1.2.1, m1.1.2.2⟩, k _ _ _ _ _ x1 s1 True.intro m1.2 itr_rng⟩
      | _ => exact m1.elim
    | _ => exact m1.elim
/-- enumerate of a list, zip of two lists -/
def enumD : List D → Nat → List D
  | [], _ => []
  | d :: r, i => .tup [.int i, d] :: enumD r (i + 1)
theorem enumD_get : ∀ {ds : List D} {n i : Nat} {d : D}, (enumD ds n)[i]? = some d → ∃ y, ds[i]? = some y ∧ d = .tup [.int (n + i : Nat), y]
  | [], _, _, _, h => by cases h
  | y :: r, n, 0, d, h => ⟨y, rfl, by simp [enumD] at h; rw [← h]; simp⟩
  | y :: r, n, i + 1, d, h => by
    obtain ⟨y', h1, h2⟩ := enumD_get (ds := r) (n := n + 1) (i := i) (by simpa [enumD] using h)
    exact ⟨y', by simpa using h1, by rw [h2]; congr 3; omega⟩
theorem enumD_length : ∀ {ds : List D} {n : Nat}, (enumD ds n).length = ds.length
  | [], _ => rfl
  | _ :: r, n => by simp [enumD, enumD_length (ds := r)]
/-- the list's place, its items, how it is held -/
def nLstAt : D → Sto → (List D → Keep → Prop) → Prop := fun x S Q => match x with
  | .rol ds => Q ds fun _ => True
  | .ref p => (match S p with
    | some (.lst ds) => Q ds fun S' => S' p = some (.lst ds)
    | _ => False)
  | _ => False
/-- a list, read at any time of the walk -/
structure LstR (K : PySem.W.Frag) (H1 : Hp) (p : Addr) (ds : List D) (kp : Keep) : Prop where
  rd : ∀ H S, HExt H1 H → SR K S H → kp S → ∃ vs, SqL K H p vs ∧ VRs K H ds vs
theorem lstAt_ok {K : PySem.W.Frag} {x : D} {S : Sto} {H : Hp} {v : V} {Q : List D → Keep → Prop} (s : SR K S H) (r : VR K H x v) (m : nLstAt x S Q) : ∃ p ds kp, v = .ref p ∧ Q ds kp ∧ kp S ∧ LstR K H p ds kp := by
  unfold nLstAt at m
  split at m
  · cases r with
    | rol tr rr => exact ⟨_, _, _, rfl, m, True.intro, ⟨fun H' S' x s _ => ⟨_, (tr.ext x).sq, rr.ext x⟩⟩⟩
  · rename_i p
    cases r
    split at m
    · rename_i ds e1
      refine ⟨p, ds, _, rfl, m, e1, ⟨fun H' S' x s' kk => ?_⟩⟩
      obtain ⟨vs, g1, rr⟩ := s'.lst kk
      exact ⟨vs, SqL.of g1, rr⟩
    · exact m.elim
  · exact m.elim
theorem new_pair {K : PySem.W.Frag} {S : Sto} {H : Hp} {T : Addr} {v u : V} {d e : D} (s : SR K S H) (n : H T = none) (rv : VR K H d v) (ru : VR K H e u) : HExt H (upd H T (.tup [v, u])) ∧ SR K S (upd H T (.tup [v, u])) ∧ VR K (upd H T (.tup [v, u])) (.tup [d, e]) (.ref T) :=
  ⟨.new n, s.more n, .tup (.inl upd_same) (.cons (rv.ext (.new n)) (.cons (ru.ext (.new n)) .nil))⟩
def iEnumN (m : NE) : NI := fun e S Q => m e S fun x S1 => nLstAt x S1 fun ds kp => Q (enumD ds 0) kp S1
theorem one_arg {K : PySem.W.Frag} {m : NE} {e : Env} {S : Sto} {P : D → Sto → Prop} (h : m e S P) : mCons m mNil e S fun ds S1 => ∃ x, ds = [x] ∧ P x S1 := by
  show m e S _
  have : (fun x S1 => ∃ x_1, [x] = [x_1] ∧ P x_1 S1) = P := by
    funext x S1
    exact propext ⟨fun ⟨y, e, q⟩ => by cases e; exact q, fun q => ⟨x, rfl, q⟩⟩
  exact (congrArg (m e S) this).mpr h
theorem two_args {K : PySem.W.Frag} {m m' : NE} {e : Env} {S : Sto} {P : D → D → Sto → Prop} (h : m e S fun x S1 => m' e S1 fun y S2 => P x y S2) : mCons m (mCons m' mNil) e S fun ds S1 => ∃ x y, ds = [x, y] ∧ P x y S1 := by
  show m e S _
  have : (fun x S1 => m' e S1 fun y S2 => ∃ x_1 y_1, [x, y] = [x_1, y_1] ∧ P x_1 y_1 S2) = fun x S1 => m' e S1 fun y S2 => P x y S2 := by
    funext x S1
    congr 1
    funext y S2
    exact propext ⟨fun ⟨x', y', e, q⟩ => by cases e; exact q, fun q => ⟨x, y, rfl, q⟩⟩
  exact (congrArg (m e S) this).mpr h
theorem ji_enum {p rpos tpos : Pos} {elts : List Expr} {kk : Nat} (hm : X.mg "enumerate" = none) (ha : JE X H0 a ma) (hgl : Gl X "enumerate" := by rfl) (hs : starEach [a] X.env = [(false, eval a X.env)] := by rfl) (hs1 : starEach [a] X.env = (false, eval a X.env) :: starEach [] X.env := by rfl) :
    JI X H0 (.Tuple elts kk tpos) (.Call (.Name "enumerate" p) [a] [] rpos) (iEnumN ma) := by
  refine (pi_enum hgl hm (ja_cons ha ja_nil hs1) hs).imq fun σ H R ⟨e, S, Q', A, m, k⟩ => ?_
  refine ⟨e, S, _, A, one_arg (K := X.K) m, fun ds S1 vs H1 x1 s1 r ⟨x, ed, m1⟩ => ?_⟩
  subst ed
  obtain ⟨v, rfl, rv⟩ := vrs1 r
  obtain ⟨p, ds, kp, rfl, q, kk, L⟩ := lstAt_ok s1 rv m1
  obtain ⟨vs, h1, _⟩ := L.rd H1 S1 (.refl _) s1 kk
  refine ⟨p, vs, rfl, h1, k _ _ _ _ _ x1 s1 kk q ⟨fun H S x s kk => ?_, fun i H S hi x s kk => ?_, fun i H S y H' d hd x s kk yl => ?_⟩⟩
  · obtain ⟨vs, h1, h2⟩ := L.rd H S x s kk
    exact ⟨vs, h1, by rw [enumD_length, h2.length]; exact Nat.le_refl _⟩
  · obtain ⟨vs, h1, h2⟩ := L.rd H S x s kk
    rw [enumD_length] at hi
    obtain ⟨v, hv, _⟩ := h2.get (List.getElem?_eq_getElem hi)
    exact ⟨vs, v, h1, hv⟩
  · obtain ⟨vs, h1, h2⟩ := L.rd H S x s kk
    obtain ⟨T, u, rfl, nT, rfl, yl⟩ := yl
    obtain ⟨z, hz, rfl⟩ := enumD_get hd
    obtain ⟨v, hv, rv⟩ := h2.get hz
    have := yl vs h1
    rw [hv] at this
    cases this
    have := new_pair (d := .int ((0 + i : Nat) : Int)) s nT (.int _) rv
    rw [Nat.zero_add] at this ⊢
    exact this
def zipD : List D → List D → List D
  | x :: xs, y :: ys => .tup [x, y] :: zipD xs ys
  | _, _ => []
theorem zipD_get : ∀ {xs ys : List D} {i : Nat} {d : D}, (zipD xs ys)[i]? = some d → ∃ x y, xs[i]? = some x ∧ ys[i]? = some y ∧ d = .tup [x, y]
  | [], _, _, _, h => by simp [zipD] at h
  | _ :: _, [], _, _, h => by simp [zipD] at h
  | x :: xs, y :: ys, 0, d, h => ⟨x, y, rfl, rfl, by simp [zipD] at h; exact h.symm⟩
  | x :: xs, y :: ys, i + 1, d, h => by
    obtain ⟨x', y', h1, h2, h3⟩ := zipD_get (xs := xs) (ys := ys) (i := i) (by simpa [zipD] using h)
    exact ⟨x', y', by simpa using h1, by simpa using h2, h3⟩
theorem zipD_length : ∀ {xs ys : List D}, (zipD xs ys).length = min xs.length ys.length
  | [], ys => by simp [zipD]
  | _ :: _, [] => by simp [zipD]
  | x :: xs, y :: ys => by simp [zipD, zipD_length (xs := xs) (ys := ys)]
def iZipN (m m' : NE) : NI := fun e S Q => m e S fun x S1 => m' e S1 fun y S2 => nLstAt x S2 fun ds kp => nLstAt y S2 fun es kp' => Q (zipD ds es) (fun S' => kp S' ∧ kp' S') S2
theorem ji_zip {p rpos tpos : Pos} {elts : List Expr} {kk : Nat} (hm : X.mg "zip" = none) (ha : JE X H0 a ma) (hb : JE X H0 b mb) (hgl : Gl X "zip" := by rfl) (hs : starEach [a, b] X.env = (false, eval a X.env) :: starEach [b] X.env := by rfl) (hpl : (backTo rpos (starEach [b] X.env)).any (·.1) = false := by rfl) (hsb : starEach [b] X.env = (false, eval b X.env) :: starEach [] X.env := by rfl) :
    JI X H0 (.Tuple elts kk tpos) (.Call (.Name "zip" p) [a, b] [] rpos) (iZipN ma mb) := by
  refine (pi_zip hgl hm (ja_cons ha (ja_cons hb ja_nil hsb) hs) hs hpl).imq fun σ H R ⟨e, S, Q', A, m, k⟩ => ?_
  refine ⟨e, S, _, A, two_args (K := X.K) m, fun ds S1 vs H1 x1 s1 r ⟨x, y, ed, m1⟩ => ?_⟩
  subst ed
  obtain ⟨v, u, rfl, rv, ru⟩ := vrs2 r
  obtain ⟨p, ds, kp, rfl, q, kk, L⟩ := lstAt_ok s1 rv m1
  obtain ⟨p', es, kp', rfl, q', kk', L'⟩ := lstAt_ok s1 ru q
  obtain ⟨vs, h1, _⟩ := L.rd H1 S1 (.refl _) s1 kk
  obtain ⟨us, h2, _⟩ := L'.rd H1 S1 (.refl _) s1 kk'
  refine ⟨p, p', vs, us, rfl, h1, h2, k _ _ _ _ _ x1 s1 ⟨kk, kk'⟩ q' ⟨fun H S x s kk => ?_, fun i H S hi x s kk => ?_, fun i H S y H' d hd x s kk yl => ?_⟩⟩
  · obtain ⟨vs, h1, r1⟩ := L.rd H S x s kk.1
    obtain ⟨us, h2, r2⟩ := L'.rd H S x s kk.2
    refine ⟨vs, us, h1, h2, ?_⟩
    rw [zipD_length, r1.length, r2.length]
    omega
  · obtain ⟨vs, h1, r1⟩ := L.rd H S x s kk.1
    obtain ⟨us, h2, r2⟩ := L'.rd H S x s kk.2
    rw [zipD_length] at hi
    obtain ⟨v, hv, _⟩ := r1.get (List.getElem?_eq_getElem (show i < ds.length by omega))
    obtain ⟨u, hu, _⟩ := r2.get (List.getElem?_eq_getElem (show i < es.length by omega))
    exact ⟨vs, us, v, u, h1, h2, hv, hu⟩
  · obtain ⟨vs, h1, r1⟩ := L.rd H S x s kk.1
    obtain ⟨us, h2, r2⟩ := L'.rd H S x s kk.2
    obtain ⟨T, a', b', rfl, nT, rfl, y1, y2⟩ := yl
    obtain ⟨x', y', hx, hy, rfl⟩ := zipD_get hd
    obtain ⟨v, hv, rv⟩ := r1.get hx
    obtain ⟨u, hu, ru⟩ := r2.get hy
    have e1 := y1 vs h1
    have e2 := y2 us h2
    rw [hv] at e1; rw [hu] at e2
    cases e1; cases e2
    exact new_pair s nT rv ru

/-! ### for, over anything -/
def sForI (mi : NI) (g : NG) (b : NS) : NS := fun Z e S => mi e S fun ds kp S1 => loopL g b Z kp ds e S1
theorem js_forI {tg it : Expr} {g : NG} {mi : NI} {body : List Stmt} {t : NS} (cx : NX X H0 w) (hl : JI X H0 tg it mi) (hg : JG X H0 tg g) (hb : JSs X H0 body t) (hs : ∀ x, foldedSetIterable it X.env x = pure x := by intro _; rfl) : JS X H0 (.For tg it body [] pos) (sForI mi g t) := by
  refine (ps_for cx.po cx.calm hl hg hb hs).imq fun D σ H ⟨e, S, D', A, m, k⟩ => ?_
  refine ⟨e, S, _, A, m, fun ds kp S1 H1 J x1 s1 kk q I => ?_⟩
  exact loop_ok (k.ext x1) I.stop I.go (fun i H2 S2 y H3 d hd x s kk yl => let ⟨h1, h2, h3⟩ := I.yld i H2 S2 y H3 d hd x s kk yl; ⟨S2, h1, h2, fun _ _ h => h, rfl, h3⟩) (A.next x1 s1) kk q

/-! ### list comprehensions -/
def nwipe (e : Env) : List Nat → Env
  | [] => e
  | v :: vs => (nwipe e vs).set v none
theorem ER.wipe {K : PySem.W.Frag} {H : Hp} {e : Env} {σ : L2.St} (h : ER K H e σ) : ∀ vs : List Nat, ER K H (nwipe e vs) (L2.wipe σ vs)
  | [] => h
  | v :: vs => (ER.wipe h vs).unset v
/-- a target that touches the names vs alone -/
def lGv (K : PySem.W.Frag) (H0 : Hp) (vs : List Nat) (m : NG) : TG := fun v σ H Q => ∃ d e S Q', VR K H d v ∧ At K H0 H σ e S ∧ m d e S Q' ∧ ∀ e' S' σ' H', HExt H H' → At K H0 H' σ' e' S' → L2.wipe σ' vs = L2.wipe σ vs → Q' e' S' → Q σ' H'
def lGvs (K : PySem.W.Frag) (H0 : Hp) (vs : List Nat) (m : NGs) : TGs := fun us σ H Q => ∃ ds e S Q', VRs K H ds us ∧ At K H0 H σ e S ∧ m ds e S Q' ∧ ∀ e' S' σ' H', HExt H H' → At K H0 H' σ' e' S' → L2.wipe σ' vs = L2.wipe σ vs → Q' e' S' → Q σ' H'
abbrev JGv (X : Cx) (H0 : Hp) (vs : List Nat) (e : Expr) (m : NG) : Prop := PG X e (lGv X.K H0 vs m)
abbrev JGvs (X : Cx) (H0 : Hp) (vs : List Nat) (es : List Expr) (m : NGs) : Prop := PGs X es (lGvs X.K H0 vs m)
theorem wipe_set {σ : L2.St} {i : Nat} {x : Option V} : ∀ {vs : List Nat}, i ∈ vs → L2.wipe (σ.set i x) vs = L2.wipe σ vs
  | [], h => by cases h
  | v :: vs, h => by
    unfold L2.wipe
    by_cases hv : i ∈ vs
    · rw [wipe_set hv]
    · have e : i = v := by
        rcases List.mem_cons.mp h with h | h
        · exact h
        · exact absurd h hv
      subst e
      have : ∀ (us : List Nat), i ∉ us → L2.wipe (σ.set i x) us = (L2.wipe σ us).set i x := by
        intro us
        induction us with
        | nil => intro _; rfl
        | cons u us ih =>
          intro hu
          simp only [List.mem_cons, not_or] at hu
          unfold L2.wipe
          rw [ih hu.2, List.set_comm _ _ (fun z => hu.1 z)]
      rw [this vs hv, List.set_set]
theorem wipe_wipe' {σ : L2.St} {vs : List Nat} : ∀ {us : List Nat}, (∀ u ∈ us, u ∈ vs) → L2.wipe (L2.wipe σ us) vs = L2.wipe σ vs
  | [], _ => rfl
  | u :: us, h => by
    show L2.wipe ((L2.wipe σ us).set u none) vs = _
    rw [wipe_set (h u (by simp)), wipe_wipe' fun z hz => h z (by simp [hz])]
theorem wipe_wipe {σ : L2.St} {vs : List Nat} : L2.wipe (L2.wipe σ vs) vs = L2.wipe σ vs := wipe_wipe' fun _ h => h
theorem jgv_name {vs : List Nat} {i : Nat} {x : Str} (hN : X.N.Nodup) (hv : i ∈ vs) (hi : X.N[i]? = some x := by rfl) (hx : Loc X.env.scope x := by first | exact Or.inl rfl | exact Or.inr rfl) (hf : X.fn x = true ∨ X.env.scope.names.lookup x = some .local := by first | exact .inl rfl | exact .inr rfl) : JGv X H0 vs (.Name x pos) (gNm i) :=
  (pg_name hN hi hx hf).imq fun v σ H Q ⟨d, e, S, Q', r, A, m, k⟩ => k _ _ _ _ (.refl H) (A.set r i) (wipe_set hv) m
theorem jgvs_nil {vs : List Nat} : JGvs X H0 vs [] gsNil := pgs_nil.imq fun v σ H Q ⟨ds, e, S, Q', r, A, m, k⟩ => by
  cases r with
  | nil => exact ⟨rfl, k _ _ _ _ (.refl H) A rfl m⟩
  | cons _ _ => exact m.elim
theorem jgvs_cons {vs : List Nat} {t : NG} {u : NGs} (h1 : JGv X H0 vs a t) (h2 : JGvs X H0 vs es u) (hs : (assignEach (a :: es) X.env).map (·.2) = assign a X.env :: (assignEach es X.env).map (·.2) := by rfl) : JGvs X H0 vs (a :: es) (gsCons t u) :=
  (pgs_cons h1 h2 hs).imq fun us σ H Q ⟨ds, e, S, Q', r, A, m, k⟩ => by
    cases r with
    | nil => exact m.elim
    | cons r rr => exact ⟨_, _, rfl, _, e, S, _, r, A, m, fun e1 S1 σ1 H1 x A1 w1 m1 => ⟨_, e1, S1, Q', rr.ext x, A1, m1, fun e2 S2 σ2 H2 x2 A2 w2 q => k e2 S2 σ2 H2 (x.trans x2) A2 (w2.trans w1) q⟩⟩
theorem jgv_tup {vs : List Nat} {k n : Nat} {t : NGs} (cx : NX X H0 w) (h : JGvs X H0 vs es t) (hn : (assignEach es X.env).length = n := by rfl) (hst : (assignEach es X.env).findIdx? (·.1) = none := by rfl) : JGv X H0 vs (.Tuple es k pos) (gTp n t) :=
  (pg_tup cx.calm h hn hst).imq fun v σ H Q ⟨d, e, S, Q', r, A, m, k⟩ => by
    unfold gTp at m
    split at m
    · rename_i ds
      cases r with
      | tup tr rr => exact ⟨_, _, rfl, tr.sq, by rw [← rr.length]; exact m.1, ds, e, S, Q', rr, A, m.2, k⟩
    · exact m.elim
abbrev JTs (X : Cx) (H0 : Hp) (es : List Expr) (m : NT) : Prop := PTs X es (lT X.K H0 m)
theorem _root_.L2.PTs.imq {X : Cx} {e : List Expr} {t t' : TT} (h : PTs X e t) (i : ∀ σ H Q, t' σ H Q → t σ H Q) : PTs X e t' := ⟨fun pins s σ H Q I q => h.run pins s σ H Q I (i _ _ _ q)⟩
def mYes : NT := fun _ S Q => Q true S
theorem jts_nil : JTs X H0 [] mYes := pts_nil.imq fun σ H Q ⟨e, S, Q', A, m, k⟩ => k true S H (.refl H) A.s m
theorem jts_one {t : NT} (h : JT X H0 a t) : JTs X H0 [a] t := pts_one h
/-- the list grows at p -/
def lcL (g : NG) (tt : NT) (te : NE) (kp : Keep) (p : Addr) (e : Env) : List D → Sto → (Sto → Prop) → Prop
  | [], S, Q => Q S
  | x :: xs, S, Q => g x e S fun e2 S2 => tt e2 S2 fun b S3 => match b with
    | true => te e2 S3 fun y S4 => (match S4 p with
      | some (.lst acc) => acc.length < sizeLine ∧ kp (put S4 p (.lst (acc ++ [y]))) ∧ lcL g tt te kp p e xs (put S4 p (.lst (acc ++ [y]))) Q
      | _ => False)
    | false => kp S3 ∧ lcL g tt te kp p e xs S3 Q
def mLc (mi : NI) (g : NG) (tt : NT) (te : NE) (vs : List Nat) : NE := fun e S Q => mi e S fun ds kp S1 => ∀ p, S1 p = none → kp (put S1 p (.lst [])) ∧ lcL g tt te kp p (nwipe e vs) ds (put S1 p (.lst [])) fun S2 => Q (.ref p) S2
theorem lc_ok {K : PySem.W.Frag} {mi : NI} {g : NG} {tt : NT} {te : NE} {vs : List Nat} {σ : L2.St} {H : Hp} {Q : VK} (h : lE K H0 (mLc mi g tt te vs) σ H Q) : tLc (lI K H0 mi) (lGv K H0 vs g) (lT K H0 tt) (lE K H0 te) vs σ H Q := by
  obtain ⟨e, S, Q', A, m, k⟩ := h
  refine ⟨e, S, _, A, m, fun ds kp S1 H1 J x1 s1 kk q I p np => ?_⟩
  have A1 := A.next x1 s1
  have xp : HExt H1 (upd H1 p (.lst [])) := .new np
  have sp : SR K (put S1 p (.lst [])) (upd H1 p (.lst [])) := s1.put (o := .lst []) xp ⟨[], upd_same, .nil⟩
  obtain ⟨k0, q⟩ := q p (s1.fresh np)
  refine ⟨fun i n H' => n = ds.length - i ∧ i ≤ ds.length ∧ HExt H1 H' ∧ ∃ S', SR K S' H' ∧ kp S' ∧ lcL g tt te kp p (nwipe e vs) (ds.drop i) S' fun S2 => Q' (.ref p) S2, ⟨_, rfl, Nat.zero_le _, xp, _, sp, k0, by simpa using q⟩, ?_⟩
  rintro i n H' ⟨rfl, hi, xe, S', s', kk', q⟩
  by_cases hlt : i < ds.length
  · obtain ⟨d, hd⟩ : ∃ d, ds[i]? = some d := ⟨ds[i], by simp [hlt]⟩
    have hdrop : ds.drop i = d :: ds.drop (i + 1) := by
      have := List.drop_eq_getElem_cons hlt
      rw [this]
      have : ds[i] = d := by
        have := List.getElem?_eq_getElem hlt
        rw [hd] at this
        exact (Option.some.inj this).symm
      rw [this]
    rw [hdrop] at q
    refine .inr ⟨I.go i H' S' hlt xe s' kk', fun H2 => i + 1 ≤ ds.length ∧ HExt H1 H2 ∧ ∃ S2, SR K S2 H2 ∧ kp S2 ∧ lcL g tt te kp p (nwipe e vs) (ds.drop (i + 1)) S2 fun S2 => Q' (.ref p) S2, fun H2 ⟨p1, p2, p3⟩ => ⟨ds.length - (i + 1), by omega, rfl, p1, p2, p3⟩, fun x H2 y => ?_⟩
    obtain ⟨x2, s2, rd⟩ := I.yld i H' S' x H2 d hd xe s' kk' y
    have xx2 := xe.trans x2
    have Aw : At K H0 H2 (L2.wipe σ vs) (nwipe e vs) S' := ⟨(A1.x.trans xe).trans x2, ((A1.e.ext xe).ext x2).wipe vs, s2⟩
    refine ⟨d, _, S', _, rd, Aw, q, fun e3 S3 σ3 H3 x3 A3 w3 q3 => ⟨?_, e3, S3, _, A3, q3, fun b S4 H4 x4 s4 q4 => ?_⟩⟩
    · rw [w3, wipe_wipe]
    · have xx4 := (xx2.trans x3).trans x4
      cases b with
      | false => exact iteF ⟨hlt, xx4, S4, s4, q4.1, q4.2⟩
      | true =>
        refine iteT ⟨e3, S4, _, A3.next x4 s4, q4, fun y S5 v H5 x5 s5 ry q5 => ?_⟩
        split at q5
        · rename_i acc e5
          obtain ⟨ws, g5, r5⟩ := s5.lst e5
          have x6 : HExt H5 (upd H5 p (.lst (ws ++ [v]))) := .upd g5 True.intro
          refine ⟨ws, g5, by rw [← r5.length]; exact q5.1, hlt, (xx4.trans x5).trans x6, _, s5.put (o := .lst (acc ++ [y])) x6 ⟨_, upd_same, (r5.append (.cons ry .nil)).ext x6⟩, q5.2.1, q5.2.2⟩
        · exact q5.elim
  · have e1 : i = ds.length := by omega
    subst e1
    rw [List.drop_length] at q
    exact .inl ⟨I.stop H' S' xe s' kk', k _ _ _ _ (x1.trans xe) s' (.ref p) q⟩
/-- inside a comprehension nothing is raised -/
def nw0 : NW := fun _ _ _ _ => False
theorem nx_blk {s : Shared} {H : Hp} {scope : Scope} {ce : PySem.Env} {fp : List Addr} (cx : NX X H0 w) : NX (X.blk s H scope ce fp) H0 nw0 :=
  ⟨fun u s' ⟨a, B, sI, pins, σ, H, cls, d, e, I, nb, up, sky, na, os, ag, c, e', S, _, _, h⟩ => h.elim, PassesOwn.never, cx.calm, cx.tb⟩
theorem je_lc {elt tg iter : Expr} {ifs : List Expr} {scope : Scope} {own : List (Str × Nat)} {mi : NI} {g : NG} {tt : NT} {te : NE} (cx : NX X H0 w) (hN : X.N.Nodup) (hi : JI X H0 tg iter mi) (ok : blkC X.N X.env.scope scope own = true)
    (hg : ∀ (s : Shared) (H : Hp) (C : Addr) (cl : List (Str × Addr)) (fp : List Addr), NX (X.blk s H scope (compEnvC scope cl C X.env) fp) H0 nw0 → JGv (X.blk s H scope (compEnvC scope cl C X.env) fp) H0 (own.map (·.2)) tg g)
    (ht : ∀ (s : Shared) (H : Hp) (C : Addr) (cl : List (Str × Addr)) (fp : List Addr), NX (X.blk s H scope (compEnvC scope cl C X.env) fp) H0 nw0 → JTs (X.blk s H scope (compEnvC scope cl C X.env) fp) H0 ifs tt)
    (he : ∀ (s : Shared) (H : Hp) (C : Addr) (cl : List (Str × Addr)) (fp : List Addr), NX (X.blk s H scope (compEnvC scope cl C X.env) fp) H0 nw0 → JE (X.blk s H scope (compEnvC scope cl C X.env) fp) H0 elt te)
    (hs : ∀ x, foldedSetIterable iter X.env x = pure x := by intro _; rfl) : JE X H0 (.ListComp elt [⟨tg, iter, ifs, 0⟩] scope pos) (mLc mi g tt te (own.map (·.2))) :=
  (pe_lc cx.calm hN hi (blkOk_by ok) (fun s H C cl fp => hg s H C cl fp (nx_blk cx)) (fun s H C cl fp => ht s H C cl fp (nx_blk cx)) (fun s H C cl fp => he s H C cl fp (nx_blk cx)) hs).imq fun _ _ _ h => lc_ok h
theorem js_setLc {i : Nat} {y : Str} {py : Pos} {elt tg iter : Expr} {ifs : List Expr} {scope : Scope} {own : List (Str × Nat)} {spos : Pos} {mi : NI} {g : NG} {tt : NT} {te : NE} (cx : NX X H0 w) (hN : X.N.Nodup) (hi : JI X H0 tg iter mi) (ok : blkC X.N X.env.scope scope own = true)
    (hg : ∀ (s : Shared) (H : Hp) (C : Addr) (cl : List (Str × Addr)) (fp : List Addr), NX (X.blk s H scope (compEnvC scope cl C X.env) fp) H0 nw0 → JGv (X.blk s H scope (compEnvC scope cl C X.env) fp) H0 (own.map (·.2)) tg g)
    (ht : ∀ (s : Shared) (H : Hp) (C : Addr) (cl : List (Str × Addr)) (fp : List Addr), NX (X.blk s H scope (compEnvC scope cl C X.env) fp) H0 nw0 → JTs (X.blk s H scope (compEnvC scope cl C X.env) fp) H0 ifs tt)
    (he : ∀ (s : Shared) (H : Hp) (C : Addr) (cl : List (Str × Addr)) (fp : List Addr), NX (X.blk s H scope (compEnvC scope cl C X.env) fp) H0 nw0 → JE (X.blk s H scope (compEnvC scope cl C X.env) fp) H0 elt te)
    (hsw : swapsWith (.ListComp elt [⟨tg, iter, ifs, 0⟩] scope pos) (some (.Name y py)) spos.line X.env = pure true := by rfl) (hy : X.N[i]? = some y := by rfl) (hyl : X.env.scope.names.lookup y = some .local := by rfl)
    (hs : ∀ x, foldedSetIterable iter X.env x = pure x := by intro _; rfl) : JS X H0 (.Assign [.Name y py] (.ListComp elt [⟨tg, iter, ifs, 0⟩] scope pos) spos) (sSet i (mLc mi g tt te (own.map (·.2)))) :=
  (ps_setLc cx.calm hN hy hyl hsw hi (blkOk_by ok) (fun s H C cl fp => hg s H C cl fp (nx_blk cx)) (fun s H C cl fp => ht s H C cl fp (nx_blk cx)) (fun s H C cl fp => he s H C cl fp (nx_blk cx)) hs).imq fun D σ H ⟨e, S, D', A, m, k⟩ =>
    lc_ok ⟨e, S, _, A, m, fun d S1 v H1 x s r q => k.nx _ _ _ _ x ((A.next x s).set r i) q⟩
end

/-! ### calls over lists -/
section
variable {X : Cx}
def intsOf : List D → Option (List Int)
  | [] => some []
  | .int i :: r => (intsOf r).map (i :: ·)
  | _ => none
theorem intsOf_eq : ∀ {ds : List D} {ns : List Int}, intsOf ds = some ns → ds = ns.map D.int
  | [], ns, h => by simp only [intsOf, Option.some.injEq] at h; subst h; rfl
  | .int i :: r, ns, h => by
    simp only [intsOf, Option.map_eq_some_iff] at h
    obtain ⟨ms, h1, rfl⟩ := h
    rw [intsOf_eq h1]; rfl
  | .non :: _, _, h => by cases h
  | .bl _ :: _, _, h => by cases h
  | .str _ :: _, _, h => by cases h
  | .ref _ :: _, _, h => by cases h
  | .ty _ :: _, _, h => by cases h
  | .cls _ :: _, _, h => by cases h
  | .tup _ :: _, _, h => by cases h
  | .rol _ :: _, _, h => by cases h
theorem intsOf_map : ∀ {ns : List Int}, intsOf (ns.map D.int) = some ns
  | [] => rfl
  | n :: r => by simp only [List.map_cons, intsOf, intsOf_map (ns := r), Option.map_some]
def blsOf : List D → Option (List Bool)
  | [] => some []
  | .bl i :: r => (blsOf r).map (i :: ·)
  | _ => none
theorem blsOf_eq : ∀ {ds : List D} {ns : List Bool}, blsOf ds = some ns → ds = ns.map D.bl
  | [], ns, h => by simp only [blsOf, Option.some.injEq] at h; subst h; rfl
  | .bl i :: r, ns, h => by
    simp only [blsOf, Option.map_eq_some_iff] at h
    obtain ⟨ms, h1, rfl⟩ := h
    rw [blsOf_eq h1]; rfl
  | .non :: _, _, h => by cases h
  | .int _ :: _, _, h => by cases h
  | .str _ :: _, _, h => by cases h
  | .ref _ :: _, _, h => by cases h
  | .ty _ :: _, _, h => by cases h
  | .cls _ :: _, _, h => by cases h
  | .tup _ :: _, _, h => by cases h
  | .rol _ :: _, _, h => by cases h
theorem blsOf_map : ∀ {ns : List Bool}, blsOf (ns.map D.bl) = some ns
  | [] => rfl
  | n :: r => by simp only [List.map_cons, blsOf, blsOf_map (ns := r), Option.map_some]
theorem vrs_ints {K : PySem.W.Frag} {H : Hp} : ∀ {ns : List Int} {vs : List V}, VRs K H (ns.map D.int) vs → vs = ns.map V.int
  | [], _, h => by cases h; rfl
  | _ :: r, _, h => by
    cases h with
    | cons a b => cases a; rw [vrs_ints b]; rfl
theorem vrs_bls {K : PySem.W.Frag} {H : Hp} : ∀ {ns : List Bool} {vs : List V}, VRs K H (ns.map D.bl) vs → vs = ns.map V.bl
  | [], _, h => by cases h; rfl
  | _ :: r, _, h => by
    cases h with
    | cons a b => cases a; rw [vrs_bls b]; rfl
/-- a list's items -/
def lstOf (S : Sto) : D → Option (List D)
  | .rol ds => some ds
  | .ref a => (match S a with
    | some (.lst ds) => some ds
    | _ => none)
  | _ => none
theorem lstOf_ok {K : PySem.W.Frag} {S : Sto} {H : Hp} {d : D} {v : V} {ds : List D} (s : SR K S H) (r : VR K H d v) (e : lstOf S d = some ds) : ∃ p vs, v = .ref p ∧ SqL K H p vs ∧ VRs K H ds vs := by
  unfold lstOf at e
  split at e
  · cases e
    cases r with
    | rol tr rr => exact ⟨_, _, rfl, tr.sq, rr⟩
  · cases r
    split at e
    · rename_i e1
      cases e
      obtain ⟨vs, h1, h2⟩ := s.lst e1
      exact ⟨_, vs, rfl, SqL.of h1, h2⟩
    · cases e
  · cases e
def nSum : NL := fun xs S Q => match xs with
  | [d] => (match lstOf S d with
    | some ds => (match intsOf ds with
      | some ns => Q (.int ns.sum) S
      | none => False)
    | none => False)
  | _ => False
theorem callN_sum (hc : X.calm = true) : CallN X (.builtin "sum") nSum := ⟨_, cr_sum hc, fun xs S Q vs H Q' s r n k => by
  unfold nSum at n
  split at n
  · rename_i d
    obtain ⟨v, rfl, rv⟩ := vrs1 r
    split at n
    · rename_i ds e1
      obtain ⟨p, ws, rfl, h1, h2⟩ := lstOf_ok s rv e1
      split at n
      · rename_i ns e2
        have := intsOf_eq e2
        subst this
        have := vrs_ints h2
        subst this
        exact ⟨p, ns, rfl, h1, k _ _ _ _ (.refl H) s (.int _) n⟩
      · exact n.elim
    · exact n.elim
  · exact n.elim⟩
def nAll : NL := fun xs S Q => match xs with
  | [d] => (match lstOf S d with
    | some ds => (match blsOf ds with
      | some ns => Q (.bl (ns.all id)) S
      | none => False)
    | none => False)
  | _ => False
theorem callN_all (hc : X.calm = true) : CallN X (.builtin "all") nAll := ⟨_, cr_all hc, fun xs S Q vs H Q' s r n k => by
  unfold nAll at n
  split at n
  · rename_i d
    obtain ⟨v, rfl, rv⟩ := vrs1 r
    split at n
    · rename_i ds e1
      obtain ⟨p, ws, rfl, h1, h2⟩ := lstOf_ok s rv e1
      split at n
      · rename_i ns e2
        have := blsOf_eq e2
        subst this
        have := vrs_bls h2
        subst this
        exact ⟨p, ns, rfl, h1, k _ _ _ _ (.refl H) s (.bl _) n⟩
      · exact n.elim
    · exact n.elim
  · exact n.elim⟩
/-- max, min of a list of numbers -/
def nMaxL : NL := fun xs S Q => match xs with
  | [d] => (match lstOf S d with
    | some ds => (match intsOf ds with
      | some ns => 0 < ns.length ∧ ∀ m, m ∈ ns → (∀ y, y ∈ ns → y ≤ m) → Q (.int m) S
      | none => False)
    | none => False)
  | _ => False
theorem callN_maxL (hc : X.calm = true) : CallN X (.builtin "max") nMaxL := ⟨_, cr_max hc, fun xs S Q vs H Q' s r n k => by
  unfold nMaxL at n
  split at n
  · rename_i d
    obtain ⟨v, rfl, rv⟩ := vrs1 r
    split at n
    · rename_i ds e1
      obtain ⟨p, ws, rfl, h1, h2⟩ := lstOf_ok s rv e1
      split at n
      · rename_i ns e2
        have := intsOf_eq e2
        subst this
        have := vrs_ints h2
        subst this
        exact ⟨p, ns, rfl, h1, n.1, fun m h3 h4 => k _ _ _ _ (.refl H) s (.int _) (n.2 m h3 h4)⟩
      · exact n.elim
    · exact n.elim
  · exact n.elim⟩

/-! ### isinstance of the program's own instances -/
def isC (c d : Str) : Bool := decide (c = d) || (decide (d = "Maker") && (decide (c = "Product") || decide (c = "Stretch") || decide (c = "Sum")))
structure InsC (K : PySem.W.Frag) (C : Addr) : Prop where
  ha : PySem.W.findIn K (.ref C) "__class__" = some (some (.builtin "object.__class__"))
  hn : PySem.W.specialIn K (.builtin "object.__class__") "__get__" = some (some (.builtin "getset_descriptor.__get__"))
  ht : PySem.W.takesIn K (.builtin "object.__class__") = some true
  hm : PySem.W.mroIn K C (.type "object") = some true
structure KI (IC : List Str) (K : PySem.W.Frag) : Prop where
  isa : ∀ c ∈ IC, ∀ d ∈ IC, PySem.W.kitOne K (.ref (He.ga K c)) (.ref (He.ga K d)) = some (isC c d)
  ins : ∀ c ∈ IC, InsC K (He.ga K c)
def nIsC (IC : List Str) : NL := fun xs S Q => match xs with
  | [.ref a, .cls d] => (match S a with
    | some (.ins c _) => IC.contains c = true ∧ IC.contains d = true ∧ Q (.bl (isC c d)) S
    | _ => False)
  | _ => False
theorem callN_isC {IC : List Str} (F : KI IC X.K) : CallN X (.builtin "isinstance") (nIsC IC) := ⟨_, call_isi, fun xs S Q vs H Q' s r n k => by
  unfold nIsC at n
  split at n
  · rename_i a d
    obtain ⟨v, w, rfl, rv, rw⟩ := vrs2 r
    cases rv
    cases rw
    split at n
    · rename_i c fs e1
      obtain ⟨n1, n2, n3⟩ := n
      have h1 := List.contains_iff_mem.mp n1
      obtain ⟨dx, ws, g1, _, co⟩ := s.ins e1
      obtain ⟨ha, hn, ht, hm⟩ := F.ins c h1
      exact ⟨_, _, _, _, _, rfl, .own _, .base (.ins g1 co.cl ha hn ht hm), F.isa c h1 d (List.contains_iff_mem.mp n2), k _ _ _ _ (.refl H) s (.bl _) n3⟩
    · exact n.elim
  · exact n.elim⟩
end
def insB (K : PySem.W.Frag) (D : Addr) : Bool := He.eqO (PySem.W.findIn K (.ref D) "__class__") (some (some (.builtin "object.__class__"))) &&
  (He.eqO (PySem.W.specialIn K (.builtin "object.__class__") "__get__") (some (some (.builtin "getset_descriptor.__get__"))) && (decide (PySem.W.takesIn K (.builtin "object.__class__") = some true) && decide (PySem.W.mroIn K D (.type "object") = some true)))
def kiW (IC : List Str) (K : PySem.W.Frag) : Bool := (IC.all fun c => IC.all fun d => decide (PySem.W.kitOne K (.ref (He.ga K c)) (.ref (He.ga K d)) = some (isC c d))) && IC.all fun c => insB K (He.ga K c)
theorem kiW_ok {IC : List Str} {K : PySem.W.Frag} (h : kiW IC K = true) : KI IC K := by
  obtain ⟨h1, h2⟩ := He.ba h
  refine ⟨fun c hc d hd => of_decide_eq_true (List.all_eq_true.mp (List.all_eq_true.mp h1 c hc) d hd), fun c hc => ?_⟩
  have h := List.all_eq_true.mp h2 c hc
  obtain ⟨h5, h⟩ := He.ba h
  obtain ⟨h6, h⟩ := He.ba h
  obtain ⟨h7, h8⟩ := He.ba h
  exact ⟨He.eqO_ok h5, He.eqO_ok h6, of_decide_eq_true h7, of_decide_eq_true h8⟩
end N

set_option Elab.async false
set_option linter.all false
set_option maxRecDepth 100000
set_option maxHeartbeats 4000000
namespace N
variable [TabList]
open PySem PySem.Spec PyProof.Rows L2 HT
/-! ### (a, b)[::-1] -/
section
variable {prog : Program} {w : World} {A : Around} {E : Value → Shared → Prop} {s : Shared}
theorem sliceApplied_rev2 {sl : Addr} {vl vu vs : Value} {Q : Int × Int × Nat → Shared → Prop} (hs : s.heap.IsSliceOf sl vl vu vs) (pl : IsPart vl none) (pu : IsPart vu none) (ps : IsPart vs (some (-1)))
    (h : Q (1, -1, 2) s) : wpAny (model prog w) A (Builtin.Slice.sliceApplied (.ref sl) (pure ((2 : Nat) : Int))) Q E s := by
  obtain ⟨os, hos, hcs, hds⟩ := id hs
  unfold Builtin.Slice.sliceApplied Builtin.Slice.sliceFields
  refine wpAny_bind (wpAny_bind (wpAny_field hos hds (x := vl) rfl (wpAny_bind (wpAny_field hos hds (x := vu) rfl (wpAny_bind (wpAny_field hos hds (x := vs) rfl (wpAny_pure ?_)))))))
  refine wpAny_bind (slicePart_ ps ?_)
  show wpAny _ _ (if ((-1 : Int) == 0) = true then _ else _) _ _ s
  rw [if_neg (by decide)]
  refine wpAny_bind (slicePart_ pl (wpAny_bind (slicePart_ pu (wpAny_bind (wpAny_pure ?_)))))
  exact wpAny_pure h
theorem getItem_pair_rev {t sl : Addr} {a b vl vu vs : Value} {Q : Value → Shared → Prop} (ht : IsTup s.heap t #[a, b]) (hs : s.heap.IsSliceOf sl vl vu vs) (pl : IsPart vl none) (pu : IsPart vu none) (ps : IsPart vs (some (-1)))
    (h : Q (.ref s.heap.objs.size) { s with heap := s.heap.push { cls := .type "tuple", data := .seq #[b, a] } }) : wpAny (model prog w) A (getItem (.ref t) (.ref sl)) Q E s := by
  have htake : sizeOk (.seq #[b, a]) := by
    show 2 ≤ sizeLine
    decide
  obtain ⟨os, hos, hcs, hds⟩ := id hs
  have hTs : s.TypeIs (.ref sl) "slice" := ⟨os, hos, hcs⟩
  unfold getItem
  try with_reducible refine wpAny_holding ?_
  first | refine wpAny_bind (wpAny_pure ?_) | skip
  refine wpAny_bind (wpAny_sequenceKey ht.typeIs (by decide) ?_)
  refine wpAny_bind (wpAny_callSpecial?_slot (name := Str.ofString "__getitem__") ht.typeIs PyProof.Rows.slot_tuple_getitem
    (wpAny_call_entry PyProof.Rows.slot_tuple_getitem ht.typeIs entry_tuple_getitem ?_ (args_tuple_getitem _ _)))
  show wpAny _ _ (Builtin.Tuple.tupleItemsOf (.ref t) >>= _) _ _ s
  refine wpAny_bind (tupleItemsOf_ ht ?_)
  refine wpAny_bind (wpAny_typeOf hTs ?_)
  rw [if_pos (by decide)]
  refine wpAny_bind (sliceApplied_rev2 hs pl pu ps ?_)
  first
    | exact wpAny_bind (m := Builtin.Tuple.tupleExact _) (wpAny_newObj_type (wpAny_pure ⟨_, rfl, wpAny_pure h⟩) htake)
    | exact wpAny_bind (m := Builtin.Tuple.tupleExact _) (wpAny_newObj_type (wpAny_bind (wpAny_pure (wpAny_pure ⟨_, rfl, wpAny_pure h⟩))) htake)
    | exact wpAny_bind (wpAny_bind (m := Builtin.Tuple.tupleExact _) (wpAny_newObj_type (wpAny_pure (wpAny_pure ⟨_, rfl, wpAny_pure h⟩)) htake))
    | exact wpAny_bind (wpAny_bind (m := Builtin.Tuple.tupleExact _) (wpAny_newObj_type (wpAny_pure ⟨_, rfl, wpAny_pure h⟩) htake))
end
section
variable {X : Cx} {H0 : Hp} {w : NW} {a b c o : Expr} {ma mb mo : NE} {pos : Pos} {es : List Expr} {mr : NA}
def tRevP (K : PySem.W.Frag) (te : TE) : TE := fun σ H Q => te σ H fun v H1 => ∃ a x y, v = .ref a ∧ SqT K H1 a [x, y] ∧ ∀ p, H1 p = none → Q (.ref p) (upd H1 p (.tup [y, x]))
theorem pe_revP {e : Expr} {te : TE} {k : Nat} {p1 p2 p3 pos : Pos} (he : PE X e te) : PE X (.Subscript e (.Slice none none (some (.UnaryOp .USub (.Constant (.int 1) k p1) p2)) p3) pos) (tRevP X.K te) := by
  refine ⟨fun pins s σ H Q I h => ?_⟩
  refine Subscript_ (thn (he.run pins s σ H _ I h) fun v s1 ⟨x, H1, I1, r1, q1⟩ => ?_)
  obtain ⟨a, x1, x2, ex, hx, q⟩ := q1
  subst ex
  cases r1
  have hst : PO X (some (.UnaryOp .USub (.Constant (.int 1) k p1) p2)) (tPart (tUn (rU fun i => .int (-i)) (tC (.int 1)))) := po_some (pe_un un_neg pe_int)
  refine wpAny_Slice (thn (po_none.run pins s1 σ H1 (fun o H2 => o = none ∧ H2 = H1) I1 ⟨rfl, rfl⟩) fun vl s2 ⟨l, H2, I2, pl, el, e2⟩ => ?_)
  subst el e2
  refine thn (po_none.run pins s2 σ H2 (fun o H3 => o = none ∧ H3 = H2) I2 ⟨rfl, rfl⟩) fun vu s3 ⟨u, H3, I3, pu, eu, e3⟩ => ?_
  subst eu e3
  refine thn (hst.run pins s3 σ H3 (fun o H4 => o = some (-1) ∧ H4 = H3) I3 ⟨1, rfl, -1, rfl, rfl, rfl⟩) fun vs s4 ⟨o, H4, I4, ps, eo, e4⟩ => ?_
  subst eo e4
  have I5 : Inv X pins σ H4 { s4 with heap := s4.heap.push { cls := .type "slice", data := .fields #[vl, vu, vs] } } := I4.kept (t' := s4.toks) fun b ob q => Heap.get?_push_of_some _ q
  obtain ⟨its, r, ht, hz⟩ := I5.tuple hx
  cases r with
  | cons ra r =>
    cases r with
    | cons rb r =>
      cases r
      rename_i u1 u2
      show wpAny (model X.prog X.w) X.A (subscriptTail e (.Slice none none (some (.UnaryOp .USub (.Constant (.int 1) k p1) p2)) p3) (.ref a) (.ref s4.heap.objs.size)) (EP X pins σ Q) X.xe { s4 with heap := s4.heap.push { cls := .type "slice", data := .fields #[vl, vu, vs] } }
      refine tail_any (ops := [.ref a, .ref s4.heap.objs.size]) ht.typeIs (PyProof.Rows.slot_tuple_getitem.lookup) ?_ (by with_unfolding_all rfl)
      refine getItem_pair_rev (a := u1) (b := u2) ht (Heap.IsSliceOf.new _ vl vu vs) pl pu ps ?_
      refine ⟨.ref _, _, I5.laid (t' := s4.toks) (o := .tup [x2, x1]) (fun b ob q => Heap.get?_push_of_some _ q) (Nat.le_refl _) ?_, rfl, q _ (I5.hok.fresh (Nat.le_refl _))⟩
      exact ⟨by show 2 ≤ sizeLine; decide, [u2, u1], .cons rb (.cons ra .nil), IsTup.new _ _⟩
def nRevP : D → Sto → NQ → Prop := fun x S Q => match x with
  | .tup [x, y] => Q (.tup [y, x]) S
  | _ => False
theorem je_revP {k : Nat} {p1 p2 p3 : Pos} (he : JE X H0 a ma) : JE X H0 (.Subscript a (.Slice none none (some (.UnaryOp .USub (.Constant (.int 1) k p1) p2)) p3) pos) (mUn nRevP ma) := by
  refine (pe_revP he).imq fun σ H Q h => ?_
  obtain ⟨e, S, Q', A, m, k⟩ := h
  refine ⟨e, S, _, A, m, fun x S1 vx H1 x1 s1 rx n => ?_⟩
  unfold nRevP at n
  split at n
  · rename_i d d'
    cases rx with
    | tup tr rr =>
      obtain ⟨v, u, rfl, rv, ru⟩ := vrs2 rr
      refine ⟨_, _, _, rfl, tr.sq, fun p np => ?_⟩
      exact k _ _ _ _ (x1.trans (.new np)) (s1.more np) (.tup (.inl upd_same) (.cons (ru.ext (.new np)) (.cons (rv.ext (.new np)) .nil))) n
  · exact n.elim
end
/-! ### max of a tuple of numbers -/
section
variable {X : Cx}
def rMaxT (K : PySem.W.Frag) : List V → Hp → VK → Prop := fun vs H Q => ∃ (a : Addr) (i : Int) (ns : List Int), vs = [V.ref a] ∧ SqT K H a (V.int i :: ns.map V.int) ∧ ns.length ≤ 100 ∧ Q (.int (ns.foldl max i)) H
theorem depth_ints : ∀ ns : List Int, PyData.depthAll (ns.map PyData.int) ≤ 1 := by
  intro ns; induction ns with
  | nil => decide
  | cons n r ih => simp only [List.map_cons, PyData.depthAll, PyData.depth]; omega
theorem dp_ints {K : PySem.W.Frag} {H : Hp} : ∀ ns : List Int, DpAll K H (ns.map V.int) (ns.map PyData.int)
  | [] => .nil
  | n :: r => .cons (.int n) (dp_ints r)
theorem cr_maxT (hc : X.calm = true) (hu : X.A.units + 64 < cLine) : CallR X (.builtin "max") (rMaxT X.K) := by
  intro pins s σ H vs us Q I r h
  obtain ⟨a, i, ns, rfl, hs, _, q⟩ := h
  obtain ⟨its, rv, hl, _⟩ := I.tuple hs
  rw [Vals.ref1 r]
  obtain ⟨as, hr⟩ := Dp.readsAll I ((i :: ns).map PyData.int) ((i :: ns).map V.int) its (dp_ints (i :: ns)) rv
  have hd := depth_ints (i :: ns)
  simp only [List.map_cons] at hr hd
  refine PySem.W.max_tuple_data (I.ok.hd hc) hl (x := .int i) (xs := ns.map PyData.int) (as := as) hr ?_ (by omega) fun k v h' tk bs hk hv hkp => ?_
  · refine ⟨fun x hx y hy => ?_, fun x hx => ?_⟩
    · have ex : ∃ n, x = PyData.int n := by
        rcases List.mem_cons.mp hx with rfl | hx
        · exact ⟨_, rfl⟩
        · obtain ⟨n, _, e⟩ := List.mem_map.mp hx
          exact ⟨n, e.symm⟩
      have ey : ∃ n, y = PyData.int n := by
        rcases List.mem_cons.mp hy with rfl | hy
        · exact ⟨_, rfl⟩
        · obtain ⟨n, _, e⟩ := List.mem_map.mp hy
          exact ⟨n, e.symm⟩
      obtain ⟨n, rfl⟩ := ex
      obtain ⟨m, rfl⟩ := ey
      rfl
    · rcases List.mem_cons.mp hx with rfl | hx
      · exact fun z => nomatch z
      · obtain ⟨n, _, e⟩ := List.mem_map.mp hx
        rw [← e]; exact fun z => nomatch z
  · rw [PySem.W.maxD_ints] at hv
    cases hv with
    | int => exact ⟨.int _, H, I.kept hkp, ⟨_, rfl⟩, q⟩
def nMaxT : NL := fun xs S Q => match xs with
  | [.tup (.int i :: r)] => (match intsOf r with
    | some ns => ns.length ≤ 100 ∧ Q (.int (ns.foldl max i)) S
    | none => False)
  | _ => False
/-- max of a list, of a tuple -/
def nMax1 : NL := fun xs S Q => match xs with
  | [.tup r] => nMaxT [.tup r] S Q
  | xs => nMaxL xs S Q
theorem callN_max1 (hc : X.calm = true) (hu : X.A.units + 64 < cLine) : CallN X (.builtin "max") nMax1 := by
  obtain ⟨rl, h1, h2⟩ := callN_maxL (X := X) hc
  refine ⟨_, (cr_maxT hc hu).or h1, fun xs S Q vs H Q' s r n k => ?_⟩
  unfold nMax1 at n
  split at n
  · rename_i es
    unfold nMaxT at n
    split at n
    · rename_i i t e
      cases e
      obtain ⟨v, rfl, rv⟩ := vrs1 r
      split at n
      · rename_i ns e2
        have := intsOf_eq e2
        subst this
        cases rv with
        | tup tr rr =>
          obtain ⟨u, ws, rfl, r1, r2⟩ := rr.cons_inv
          cases r1
          have := vrs_ints r2
          subst this
          exact .inl ⟨_, i, ns, rfl, tr.sq, n.1, k _ _ _ _ (.refl H) s (.int _) n.2⟩
      · exact n.elim
    · exact n.elim
  · exact .inr (h2 _ _ _ _ _ _ s r n k)
/-! ### min of a tuple of numbers -/
def rMinT (K : PySem.W.Frag) : List V → Hp → VK → Prop := fun vs H Q => ∃ (a : Addr) (i : Int) (ns : List Int), vs = [V.ref a] ∧ SqT K H a (V.int i :: ns.map V.int) ∧ ns.length ≤ 100 ∧ Q (.int (ns.foldl min i)) H
theorem cr_minT (hc : X.calm = true) (hu : X.A.units + 64 < cLine) : CallR X (.builtin "min") (rMinT X.K) := by
  intro pins s σ H vs us Q I r h
  obtain ⟨a, i, ns, rfl, hs, _, q⟩ := h
  obtain ⟨its, rv, hl, _⟩ := I.tuple hs
  rw [Vals.ref1 r]
  obtain ⟨as, hr⟩ := Dp.readsAll I ((i :: ns).map PyData.int) ((i :: ns).map V.int) its (dp_ints (i :: ns)) rv
  have hd := depth_ints (i :: ns)
  simp only [List.map_cons] at hr hd
  refine PySem.W.min_tuple_data (I.ok.hd hc) hl (x := .int i) (xs := ns.map PyData.int) (as := as) hr ?_ (by omega) fun k v h' tk bs hk hv hkp => ?_
  · refine ⟨fun x hx y hy => ?_, fun x hx => ?_⟩
    · have ex : ∃ n, x = PyData.int n := by
        rcases List.mem_cons.mp hx with rfl | hx
        · exact ⟨_, rfl⟩
        · obtain ⟨n, _, e⟩ := List.mem_map.mp hx
          exact ⟨n, e.symm⟩
      have ey : ∃ n, y = PyData.int n := by
        rcases List.mem_cons.mp hy with rfl | hy
        · exact ⟨_, rfl⟩
        · obtain ⟨n, _, e⟩ := List.mem_map.mp hy
          exact ⟨n, e.symm⟩
      obtain ⟨n, rfl⟩ := ex
      obtain ⟨m, rfl⟩ := ey
      rfl
    · rcases List.mem_cons.mp hx with rfl | hx
      · exact fun z => nomatch z
      · obtain ⟨n, _, e⟩ := List.mem_map.mp hx
        rw [← e]; exact fun z => nomatch z
  · rw [PySem.W.minD_ints] at hv
    cases hv with
    | int => exact ⟨.int _, H, I.kept hkp, ⟨_, rfl⟩, q⟩
def nMinT : NL := fun xs S Q => match xs with
  | [.tup (.int i :: r)] => (match intsOf r with
    | some ns => ns.length ≤ 100 ∧ Q (.int (ns.foldl min i)) S
    | none => False)
  | _ => False
theorem callN_minT (hc : X.calm = true) (hu : X.A.units + 64 < cLine) : CallN X (.builtin "min") nMinT := by
  refine ⟨_, cr_minT hc hu, fun xs S Q vs H Q' s r n k => ?_⟩
  unfold nMinT at n
  split at n
  · rename_i i t
    obtain ⟨v, rfl, rv⟩ := vrs1 r
    split at n
    · rename_i ns e2
      have := intsOf_eq e2
      subst this
      cases rv with
      | tup tr rr =>
        obtain ⟨u, ws, rfl, r1, r2⟩ := rr.cons_inv
        cases r1
        have := vrs_ints r2
        subst this
        exact ⟨_, i, ns, rfl, tr.sq, n.1, k _ _ _ _ (.refl H) s (.int _) n.2⟩
    · exact n.elim
  · exact n.elim
end
/-! ### x, y = a, b -/
section
variable {X : Cx} {H0 : Hp} {w : NW} {a b c o : Expr} {ma mb mo : NE} {pos : Pos} {es : List Expr} {mr : NA}
def sPar (i j : Nat) (ma mb : NE) : NS := fun Z e S => ma e S fun x S1 => mb e S1 fun y S2 => Z.nx ((e.set i (some x)).set j (some y)) S2
theorem js_par {i j : Nat} {x y : Str} {px py pt pt2 : Pos} {kt k2} (cx : NX X H0 w) (hN : X.N.Nodup) (ha : JE X H0 a ma) (hb : JE X H0 b mb) (hij : i ≠ j) (hi : X.N[i]? = some x := by rfl) (hj : X.N[j]? = some y := by rfl)
    (hx : X.env.scope.names.lookup x = some .local := by rfl) (hy : X.env.scope.names.lookup y = some .local := by rfl)
    (hw : swappedStores [.Tuple [.Name x px, .Name y py] kt pt] (.Tuple [a, b] k2 pt2) X.env = pure (some [x, y]) := by rfl)
    (hs : swapsWithSole [.Tuple [.Name x px, .Name y py] kt pt] (.Tuple [a, b] k2 pt2) pos.line X.env = pure false := by rfl)
    (hsa : starEach [a, b] X.env = (false, eval a X.env) :: starEach [b] X.env := by rfl) (hsb : starEach [b] X.env = (false, eval b X.env) :: starEach [] X.env := by rfl) :
    JS X H0 (.Assign [.Tuple [.Name x px, .Name y py] kt pt] (.Tuple [a, b] k2 pt2) pos) (sPar i j ma mb) :=
  (ps_par cx.calm hN hi hj hij hx hy (ja_cons ha (ja_cons hb ja_nil hsb) hsa) hw hs).imq fun D σ H ⟨e, S, D', A, m, k⟩ =>
    ⟨e, S, fun ds S1 => ∃ x y, ds = [x, y] ∧ D'.nx ((e.set i (some x)).set j (some y)) S1, A, two_args (K := X.K) m, fun ds S1 vs H1 x1 s1 r ⟨x, y, ed, m1⟩ => by
      subst ed
      obtain ⟨v, u, rfl, rv, ru⟩ := vrs2 r
      exact ⟨v, u, rfl, k.nx _ _ _ _ x1 (((A.next x1 s1).set rv i).set ru j) m1⟩⟩
end
end N

set_option Elab.async false
set_option linter.all false
set_option maxRecDepth 100000
set_option maxHeartbeats 4000000
namespace N
open PySem PySem.Spec PyProof.Rows L2
variable [TabList]
/-! ### max and min of three numbers -/
def nMax3 : NL := fun xs S Q => match xs with
  | [.int i, .int j, .int k] => Q (.int (if (if i < j then j else i) < k then k else if i < j then j else i)) S
  | _ => False
def nMin3 : NL := fun xs S Q => match xs with
  | [.int i, .int j, .int k] => Q (.int (if k < (if j < i then j else i) then k else if j < i then j else i)) S
  | _ => False
theorem vrs3 {K : PySem.W.Frag} {H : Hp} {d d' d'' : D} {vs : List V} (r : VRs K H [d, d', d''] vs) : ∃ v w u, vs = [v, w, u] ∧ VR K H d v ∧ VR K H d' w ∧ VR K H d'' u := by
  cases r with
  | cons r t =>
    obtain ⟨w, u, rfl, h1, h2⟩ := vrs2 t
    exact ⟨_, _, _, rfl, r, h1, h2⟩
theorem nuLt_i {i j : Int} : nuLt (.int i) (.int j) = some (decide (i < j)) := rfl
section
variable {X : Cx}
theorem callN_max3 (hc : X.calm = true) : CallN X (.builtin "max") nMax3 := by
  refine ⟨_, call_max3Nu hc, fun xs S Q vs H Q' s r n k => ?_⟩
  unfold nMax3 at n
  split at n
  · rename_i i j l
    obtain ⟨v, w, u, rfl, r1, r2, r3⟩ := vrs3 r
    cases r1; cases r2; cases r3
    refine ⟨_, _, _, .int (if (if i < j then j else i) < l then l else if i < j then j else i), rfl, ?_, k _ _ _ _ (.refl H) s (.int _) n⟩
    unfold nuMax3 nuMax2
    by_cases h1 : i < j
    · simp only [nuLt_i, h1, decide_true, Option.map_some, Option.bind_some, if_true]
      by_cases h2 : j < l <;> simp [nuLt_i, h1, h2]
    · simp only [nuLt_i, h1, decide_false, Option.map_some, Option.bind_some, if_false]
      by_cases h2 : i < l <;> simp [nuLt_i, h1, h2]
  · exact n.elim
theorem callN_min3 (hc : X.calm = true) : CallN X (.builtin "min") nMin3 := by
  refine ⟨_, call_min3Nu hc, fun xs S Q vs H Q' s r n k => ?_⟩
  unfold nMin3 at n
  split at n
  · rename_i i j l
    obtain ⟨v, w, u, rfl, r1, r2, r3⟩ := vrs3 r
    cases r1; cases r2; cases r3
    refine ⟨_, _, _, .int (if l < (if j < i then j else i) then l else if j < i then j else i), rfl, ?_, k _ _ _ _ (.refl H) s (.int _) n⟩
    unfold nuMin3 nuMin2
    by_cases h1 : j < i
    · simp only [nuLt_i, h1, decide_true, Option.map_some, Option.bind_some, if_true]
      by_cases h2 : l < j <;> simp [nuLt_i, h1, h2]
    · simp only [nuLt_i, h1, decide_false, Option.map_some, Option.bind_some, if_false]
      by_cases h2 : l < i <;> simp [nuLt_i, h1, h2]
  · exact n.elim
end
end N

set_option Elab.async false
set_option linter.all false
set_option maxRecDepth 100000
set_option maxHeartbeats 4000000
namespace N
open PySem PySem.Spec PyProof.Rows L2
variable [TabList]
/-! ### texts -/
def strsOf : List D → Option (List Str)
  | [] => some []
  | .str x :: r => (strsOf r).map (x :: ·)
  | _ => none
theorem strsOf_eq : ∀ {ds : List D} {ss : List Str}, strsOf ds = some ss → ds = ss.map D.str
  | [], ss, h => by simp only [strsOf, Option.some.injEq] at h; subst h; rfl
  | .str i :: r, ss, h => by
    simp only [strsOf, Option.map_eq_some_iff] at h
    obtain ⟨ms, h1, rfl⟩ := h
    rw [strsOf_eq h1]; rfl
  | .non :: _, _, h => by cases h
  | .bl _ :: _, _, h => by cases h
  | .int _ :: _, _, h => by cases h
  | .ref _ :: _, _, h => by cases h
  | .ty _ :: _, _, h => by cases h
  | .cls _ :: _, _, h => by cases h
  | .tup _ :: _, _, h => by cases h
  | .rol _ :: _, _, h => by cases h
theorem strsOf_map : ∀ (ss : List Str), strsOf (ss.map D.str) = some ss
  | [] => rfl
  | x :: r => by
    show (strsOf (r.map D.str)).map (x :: ·) = some (x :: r)
    rw [strsOf_map r]; rfl
theorem vrs_strs_eq {K : PySem.W.Frag} {H : Hp} : ∀ {ss : List Str} {vs : List V}, VRs K H (ss.map D.str) vs → vs = ss.map V.str
  | [], _, .nil => rfl
  | x :: r, _, .cons h t => by
    cases h
    rw [vrs_strs_eq t]; rfl
/-- sep.join(texts) -/
def nJoin : D → D → Sto → NQ → Prop := fun x y S Q => match x with
  | .str a => (match seqOf S y with
    | some ds => (match strsOf ds with
      | some ss => (ss.map (·.length)).sum + ss.length * a.length ≤ 16777216 ∧ Q (.str (Txt.join a ss)) S
      | none => False)
    | none => False)
  | _ => False
def mM1 (n : D → D → Sto → NQ → Prop) (mo me : NE) : NE := fun e S Q => mo e S fun x S1 => match x with
  | .str a => me e S1 fun y S2 => n (.str a) y S2 Q
  | _ => False
section
variable {X : Cx} {H0 : Hp} {w : NW} {a o : Expr} {mo me : NE} {pos : Pos}
theorem je_join {apos : Pos} (ho : JE X H0 o mo) (he : JE X H0 a me) (hs : starEach [a] X.env = [(false, eval a X.env)] := by rfl) (hbase : attributeBase o "join" X.env (eval o X.env) = eval o X.env := by rfl) (hline : (apos.endLine == pos.line) = true := by rfl) :
    JE X H0 (.Call (.Attribute o "join" apos) [a] [] pos) (mM1 nJoin mo me) := by
  refine (pe_join ho he hs hbase hline).imq fun σ H Q ⟨e, S, Q', A, m, k⟩ => ?_
  refine ⟨e, S, _, A, m, fun x S1 vx H1 x1 s1 rx q => ?_⟩
  split at q
  · rename_i z
    cases rx
    refine ⟨⟨_, rfl⟩, e, S1, _, A.next x1 s1, q, fun y S2 vy H2 x2 s2 ry q2 => ?_⟩
    unfold nJoin at q2
    dsimp only at q2
    split at q2
    · rename_i ds e1
      split at q2
      · rename_i ss e2
        obtain ⟨p, ws, rfl, hs, r1⟩ := seqOf_ok s2 ry e1
        rw [strsOf_eq e2] at r1
        rw [vrs_strs_eq r1] at hs
        exact ⟨_, p, ss, rfl, rfl, hs, q2.1, k _ _ _ _ (x1.trans x2) s2 (.str _) q2.2⟩
      · exact q2.elim
    · exact q2.elim
  · exact q.elim
end
end N

set_option Elab.async false
set_option linter.all false
set_option maxRecDepth 100000
set_option maxHeartbeats 4000000
namespace N
open PySem PySem.Spec PyProof.Rows L2
variable [TabList]
/-! ### texts are split -/
def nSplit : D → D → Sto → NQ → Prop := fun x y S Q => match x, y with
  | .str a, .str b => (b.length == 0) = false ∧ a.length + 2 ≤ sizeLine ∧ ∀ p, S p = none → Q (.ref p) (put S p (.lst ((Txt.split a b).map D.str)))
  | _, _ => False
def nPart : D → D → Sto → NQ → Prop := fun x y S Q => match x, y with
  | .str a, .str b => (b.length == 0) = false ∧ a.length ≤ sizeLine ∧ Q (.tup [.str (Txt.partition a b).1, .str (Txt.partition a b).2.1, .str (Txt.partition a b).2.2]) S
  | _, _ => False
section
variable {X : Cx} {H0 : Hp} {w : NW} {a b o : Expr} {mo me mf : NE} {pos : Pos}
theorem je_split {apos : Pos} (ho : JE X H0 o mo) (he : JE X H0 a me) (hs : starEach [a] X.env = [(false, eval a X.env)] := by rfl) (hbase : attributeBase o "split" X.env (eval o X.env) = eval o X.env := by rfl) (hline : (apos.endLine == pos.line) = true := by rfl) :
    JE X H0 (.Call (.Attribute o "split" apos) [a] [] pos) (mM1 nSplit mo me) := by
  refine (pe_split ho he hs hbase hline).imq fun σ H Q ⟨e, S, Q', A, m, k⟩ => ?_
  refine ⟨e, S, _, A, m, fun x S1 vx H1 x1 s1 rx q => ?_⟩
  split at q
  · rename_i z
    cases rx
    refine ⟨⟨_, rfl⟩, e, S1, _, A.next x1 s1, q, fun y S2 vy H2 x2 s2 ry q2 => ?_⟩
    unfold nSplit at q2
    split at q2
    · rename_i z1 z2 ez
      cases ez
      cases ry
      refine ⟨_, _, rfl, rfl, q2.1, q2.2.1, fun p np => ?_⟩
      exact k _ _ _ _ ((x1.trans x2).trans (.new np)) (lst_ok s2 np (vrs_strs _)) (.ref p) (q2.2.2 p (s2.fresh np))
    · exact q2.elim
  · exact q.elim
theorem je_partition {apos : Pos} (ho : JE X H0 o mo) (he : JE X H0 a me) (hs : starEach [a] X.env = [(false, eval a X.env)] := by rfl) (hbase : attributeBase o "partition" X.env (eval o X.env) = eval o X.env := by rfl) (hline : (apos.endLine == pos.line) = true := by rfl) :
    JE X H0 (.Call (.Attribute o "partition" apos) [a] [] pos) (mM1 nPart mo me) := by
  refine (pe_partition ho he hs hbase hline).imq fun σ H Q ⟨e, S, Q', A, m, k⟩ => ?_
  refine ⟨e, S, _, A, m, fun x S1 vx H1 x1 s1 rx q => ?_⟩
  split at q
  · rename_i z
    cases rx
    refine ⟨⟨_, rfl⟩, e, S1, _, A.next x1 s1, q, fun y S2 vy H2 x2 s2 ry q2 => ?_⟩
    unfold nPart at q2
    split at q2
    · rename_i z1 z2 ez
      cases ez
      cases ry
      refine ⟨_, _, rfl, rfl, q2.1, q2.2.1, fun p np => ?_⟩
      exact k _ _ _ _ ((x1.trans x2).trans (.new np)) (s2.more np) (.tup (.inl upd_same) (.cons (.str _) (.cons (.str _) (.cons (.str _) .nil)))) q2.2.2
    · exact q2.elim
  · exact q.elim
end
end N

set_option Elab.async false
set_option linter.all false
set_option maxRecDepth 100000
set_option maxHeartbeats 4000000
namespace N
open PySem PySem.Spec PyProof.Rows L2
variable [TabList]
/-! ### a dict of the module: text keys, whole numbers -/
structure TabN (K : PySem.W.Frag) (w : World) (x : Str) (kvs : List (Str × Int)) : Prop where
  kd : ∃ es n, KDict K w (He.ga K x) es n
  at_ : ∀ z : Str, ∃ r, PySem.W.nsIn K (He.ga K x) z = some r ∧ match kvs.lookup z with
    | some i => ∃ t, r = some (.int i t)
    | none => r = none
def tabV (K : PySem.W.Frag) (a : Addr) (kvs : List (Str × Int)) : Bool := kvs.all fun q => match PySem.W.nsIn K a q.1 with
  | some (some (.int i _)) => decide (i = q.2)
  | _ => false
omit [TabList] in
theorem keys_in {P : Params} : ∀ {l : List DictEntry} {ks : List Str}, l.map He.keyOf = He.keysIn P ks → ∀ e ∈ l, ∃ y t, e.key = .str y t ∧ y ∈ ks
  | [], _, _, e, he => by cases he
  | d :: r, [], h, _, _ => by cases h
  | d :: r, k :: ks, h, e, he => by
    have h1 : He.keyOf d :: r.map He.keyOf = some (k, PyData.keyHash P k) :: He.keysIn P ks := h
    injection h1 with h2 h3
    rcases List.mem_cons.mp he with rfl | he
    · unfold He.keyOf at h2
      split at h2
      · rename_i y t q
        obtain ⟨h5, h6⟩ := Prod.mk.inj (Option.some.inj h2)
        exact ⟨y, t, q, by rw [h5]; simp⟩
      · cases h2
    · obtain ⟨y, t, q, m⟩ := keys_in h3 e he
      exact ⟨y, t, q, List.mem_cons_of_mem _ m⟩
omit [TabList] in
theorem lookup_mem : ∀ {kvs : List (Str × Int)} {z : Str} {i : Int}, kvs.lookup z = some i → (z, i) ∈ kvs
  | [], _, _, h => by cases h
  | (k, v) :: r, z, i, h => by
    unfold List.lookup at h
    split at h
    · rename_i e
      have := eq_of_beq e
      cases h; rw [this]; simp
    · exact List.mem_cons_of_mem _ (lookup_mem h)
omit [TabList] in
theorem lookup_no : ∀ {kvs : List (Str × Int)} {z : Str}, kvs.lookup z = none → ∀ p ∈ kvs, p.1 ≠ z
  | [], _, _, p, hp => by cases hp
  | (k, v) :: r, z, h, p, hp => by
    unfold List.lookup at h
    split at h
    · cases h
    · rename_i e
      rcases List.mem_cons.mp hp with rfl | hp
      · intro w; rw [← w] at e; simp at e
      · exact lookup_no h p hp
omit [TabList] in
theorem tabN_of {K : PySem.W.Frag} {w : World} {x : Str} {kvs : List (Str × Int)} (hd : He.dicW K (He.ga K x) = some (He.keysIn w.params (kvs.map (·.1)))) (hv : tabV K (He.ga K x) kvs = true) : TabN K w x kvs := by
  refine ⟨He.dicW_ok hd, fun z => ?_⟩
  cases e : kvs.lookup z with
  | some i =>
    have q := List.all_eq_true.mp hv _ (lookup_mem e)
    dsimp only at q
    split at q
    · rename_i j t eq
      have := of_decide_eq_true q
      exact ⟨_, eq, t, by rw [this]⟩
    · cases q
  | none =>
    refine ⟨none, ?_, rfl⟩
    have no := lookup_no e
    obtain ⟨es, n, D⟩ := He.dicW_ok hd
    have hk : es.toList.map He.keyOf = He.keysIn w.params (kvs.map (·.1)) := by
      have h := hd
      unfold He.dicW at h
      rw [D.at_] at h
      dsimp only at h
      split at h
      · exact Option.some.inj h
      · cases h
    have ks := keys_in hk
    unfold PySem.W.nsIn
    rw [D.at_]
    dsimp only
    have f : es.toList.find? (·.key.isStr z) = none := by
      rw [List.find?_eq_none]
      intro d hd' q
      obtain ⟨y, t, ek, hy⟩ := ks d hd'
      rw [ek] at q
      obtain ⟨p, hp, rfl⟩ := List.mem_map.mp hy
      exact no p hp (eq_of_beq q)
    have g : es.toList.any (·.refKey) = false := by
      rw [List.any_eq_false]
      intro d hd' q
      obtain ⟨y, t, ek, hy⟩ := ks d hd'
      unfold DictEntry.refKey at q
      rw [ek] at q
      cases q
    rw [f]
    dsimp only
    rw [g]; rfl
def mTabGet (kvs : List (Str × Int)) (me mf : NE) : NE := fun e S Q => me e S fun x S1 => mf e S1 fun y S2 => match x with
  | .str z => (match kvs.lookup z with
    | some i => Q (.int i) S2
    | none => Q y S2)
  | _ => False
section
variable {X : Cx} {H0 : Hp} {w : NW} {a b : Expr} {me mf : NE} {ty tx : TE} {p1 apos pos : Pos}
def tTabGet (kvs : List (Str × Int)) (ty tx : TE) : TE := fun σ H Q => ty σ H fun y H1 => tx σ H1 fun z H2 => ∃ k, y = .str k ∧ (match kvs.lookup k with
  | some i => Q (.int i) H2
  | none => Q z H2)
theorem pe_tabget {x : Str} {kvs : List (Str × Int)} (T : TabN X.K X.w x kvs) (h : X.mg x = some (.ref (He.ga X.K x))) (he : PE X a ty) (hf : PE X b tx) (m : M2 X (.Name x p1) "get" apos a b pos) (hg : Gl X x := by rfl) (hdb : (x == ("__debug__" : Str)) = false := by decide +kernel) :
    PE X (.Call (.Attribute (.Name x p1) "get" apos) [a, b] [] pos) (tTabGet kvs ty tx) := by
  obtain ⟨es, n, D⟩ := T.kd
  refine ⟨fun pins s σ H Q I q => ?_⟩
  have ho := (pe_glob (pos := p1) (v := .ref (He.ga X.K x)) hg h rfl hdb).run pins s σ H (fun v H1 => v = .ref (He.ga X.K x) ∧ H1 = H) I ⟨rfl, rfl⟩
  refine wpAny_Call_method m.base m.few m.line PySem.F.plainAttrs_dict PySem.F.slot_dict_get PySem.F.type_dict_get (thn ho fun u s1 ⟨v, H1, I1, rx, e1, e2⟩ => ?_)
  subst e1 e2
  obtain rfl : u = Value.ref _ := rx
  refine ⟨kd_type D I1, (fun b e => by cases e; exact ⟨_, I1.kIn _ _ D.at_, rfl⟩), ?_⟩
  rw [m.trees]
  refine Calls.callWith_builtin rfl (Calls.evalArgs_plain (Calls.spliced_cons (thn (he.run pins s1 σ H1 _ I1 q) fun iv s2 ⟨y, H2, I2, ry, q2⟩ =>
    Calls.spliced_cons (thn (hf.run pins s2 σ H2 _ I2 q2) fun fv s3 ⟨z, H3, I3, rz, k, ek, q3⟩ => Calls.spliced_nil ?_))))
  subst ek
  obtain ⟨t, rfl⟩ := ry
  obtain ⟨r, e3, e4⟩ := T.at_ k
  refine call_meetsIn PySem.F.slot_dict_get (kd_type D I3) PySem.F.entry_dict_get (PySem.F.args_dict_get_3 _ _ _) (meets_dict_get_default (PySem.strKind X.prog X.w) (He.ga X.K x) (PySem.strKind_is X.prog X.w k t) D.low fv) ⟨_, PySem.W.mapOf_K (prog := X.prog) I3.kIn D.at_ D.lit, ?_⟩
  rw [PySem.W.find_K D.at_ e3]
  cases el : kvs.lookup k with
  | some i =>
    rw [el] at e4 q3
    obtain ⟨t2, rfl⟩ := e4
    exact ⟨.int i, H3, I3.tok _, ⟨t2, rfl⟩, q3⟩
  | none =>
    rw [el] at e4 q3
    subst e4
    exact ⟨z, H3, I3.tok _, rz, q3⟩
theorem je_tabget {x : Str} {kvs : List (Str × Int)} (T : TabN X.K X.w x kvs) (h : X.mg x = some (.ref (He.ga X.K x))) (he : JE X H0 a me) (hf : JE X H0 b mf) (m : M2 X (.Name x p1) "get" apos a b pos := by exact ⟨rfl, rfl, rfl, rfl⟩) (hg : Gl X x := by rfl) (hdb : (x == ("__debug__" : Str)) = false := by decide +kernel) :
    JE X H0 (.Call (.Attribute (.Name x p1) "get" apos) [a, b] [] pos) (mTabGet kvs me mf) := by
  refine (pe_tabget T h he hf m hg hdb).imq fun σ H Q ⟨e, S, Q', A, q, k⟩ => ?_
  refine ⟨e, S, _, A, q, fun x1 S1 v1 H1 x1' s1 r1 q1 => ⟨e, S1, _, A.next x1' s1, q1, fun y S2 vy H2 x2 s2 ry q2 => ?_⟩⟩
  split at q2
  · rename_i z
    cases r1
    refine ⟨z, rfl, ?_⟩
    split at q2
    · rename_i i e1
      exact k _ _ _ _ (x1'.trans x2) s2 (.int _) q2
    · rename_i e1
      exact k _ _ _ _ (x1'.trans x2) s2 ry q2
  · exact q2.elim
end
end N

set_option Elab.async false
set_option linter.all false
set_option maxRecDepth 100000
set_option maxHeartbeats 4000000
namespace N
open PySem PySem.Spec PyProof.Rows L2
variable [TabList]

/-! ### a lambda without parameters, handed to a def that calls it -/
theorem SR.lam {K : PySem.W.Frag} {S : Sto} {H H' : Hp} (h : SR K S H) (e : LamX.ExtN H H') (x : HExt H H') : SR K S H' := fun a o q => by
  have r := h a o q
  cases o with
  | lst ds => obtain ⟨vs, e1, r⟩ := r; exact ⟨vs, e _ _ e1 (fun _ z => by cases z), r.ext x⟩
  | dic kvs => obtain ⟨vs, e1, r⟩ := r; exact ⟨vs, e _ _ e1 (fun _ z => by cases z), KVR.ext x r⟩
  | ins C fs => obtain ⟨dx, vs, e1, r, c⟩ := r; exact ⟨dx, vs, e _ _ e1 (fun _ z => by cases z), KVR.ext x r, c⟩
  | exc c d => exact e _ _ r (fun _ z => by cases z)
  | xd fs => obtain ⟨vs, e1, r⟩ := r; exact ⟨vs, e _ _ e1 (fun _ z => by cases z), KVR.ext x r⟩
  | lok kvs => obtain ⟨o, vs, e1, r⟩ := r; exact ⟨o, vs, e _ _ e1 (fun _ z => by cases z), KVR.ext x r⟩
/-- what is known of the code object of a def that makes lambdas -/
structure LamT (base : Heap) (mg : Str → Option Value) (cdv : Value) (q : Str) : Prop where
  ex : ∃ c P, cdv = .ref c ∧ LamX.TabB base mg c P ∧ (P, q) ∈ TabList.T ∧ ∀ p ∈ TabList.T, p.1 = P → p.2 = q
/-- the call of the lambda f, that stands in the i-th slot -/
def mAct (i : Nat) (f : Addr) (act : NSp) (w : NW) : NE := fun e S Q => e[i]? = some (some (.ref f)) ∧ act [] S Q fun c d S' => w c d e S'
section
variable {X : Cx} {pins : List (Addr × Obj)} {σ : L2.St} {H H1 : Hp} {s : Shared} {w1 : NW} {e0 : Env} {mb : NW → NE}
theorem je_act {Eg : XK} {Ng : List Str} {qg : Str} {sg : Scope} {g f c' : Addr} {cdg pm ctv : Value} {params : Arguments} {body : Expr} {scope : Scope} {k i : Nat} {a : Str} {pn : List (Addr × Obj)} {xe : Value → Shared → Prop} {p1 p2 : Pos}
    (I : Inv X pins σ H s) (r0 : ER X.K H e0 σ) (L : LamX.LamS X.env.scope scope) (hf : s.heap.get? f = some (PySem.W.kla_obj "<lambda>" (X.env.qual ++ "<lambda>") params body scope (cloFrom X.env.cells scope.names []) pm c' ctv)) (hfn : H f = none) (hfr : f ∉ frs X.stack)
    (hbind : bindArgs (PySem.W.kla_fn "<lambda>" (X.env.qual ++ "<lambda>") params body scope (cloFrom X.env.cells scope.names []) pm (.ref c') ctv) ⟨[], []⟩ = pure [])
    (hco : H c' = some (LamX.CodeO c' (X.env.qual ++ "<lambda>"))) (hx1 : HExt H H1)
    (cx1 : NX ((cxOf (L2.CX X.prog X.w) X.prog X.w X.K X.mg X.base Ng qg sg g cdg X.A X.stack s H Eg).tr pn xe) H1 w1) (hr : Room (k + 1) (X.A.deeper (envOfC qg sg s.heap.objs.size g cdg)))
    (hbody : ∀ (A : Around) (outer : List PySem.Env) (s : Shared) (H : Hp) (E : XK) (w' : NW), Room k (A.deeper (LamX.lamEnv X scope s.heap.objs.size f c')) → NX (LamX.lamCx X A outer s H E scope f c') H w' → JE (LamX.lamCx X A outer s H E scope f c') H body (mb w'))
    (hN : Ng[i]? = some a) (hv : Vis sg a) (hd : (a == ("__debug__" : Str)) = false := by decide) (hcd : (a == ("__classdict__" : Str)) = false := by decide) :
    JE ((cxOf (L2.CX X.prog X.w) X.prog X.w X.K X.mg X.base Ng qg sg g cdg X.A X.stack s H Eg).tr pn xe) H1 (.Call (.Name a p1) [] [] p2) (mAct i f (fun _ S' Q' E' => mb (fun c d _ S2 => E' c d S2) e0 S' Q') w1) := by
  refine ⟨fun pinsZ sZ σZ HZ Q IZ h => ?_⟩
  obtain ⟨eZ, SZ, Q', AZ, ⟨m1, m2⟩, kk⟩ := h
  obtain ⟨v0, hs0, rv0⟩ := AZ.e.get m1
  cases rv0
  refine wpAny_Call_Name_kw (thn ((pe_var (pos := p1) (i := i) hN hv hd hcd).run pinsZ sZ σZ HZ (fun v H1 => v = .ref f ∧ H1 = HZ) IZ ⟨.ref f, hs0, rfl, rfl⟩) fun u s1 ⟨v, H2, I1, r1, q1⟩ => ?_)
  obtain ⟨ev, eH⟩ := q1
  subst ev
  rw [eH] at I1
  obtain rfl : u = Value.ref f := r1
  have of1 := I1.base.keep f _ hf hfn hfr (fun z => nomatch (show f ∈ ([] : List Addr) from z))
  refine PySem.W.callWith_F0 ⟨_, _, _, _, of1⟩ ?_
  have un : Un (frs X.stack) [] H HZ s.heap s1.heap := I1.base
  have hcZ : HZ c' = some (LamX.CodeO c' (X.env.qual ++ "<lambda>")) := (hx1.trans AZ.x).cod _ _ hco
  obtain ⟨⟨oc, vs, t, hoc, hdc, hvc⟩, _, _⟩ := I1.hok c' _ hcZ
  have tbZ : LamX.Tabs TabList.T HZ := AZ.x.tab cx1.tb
  have rc : codeAny (model X.prog X.w) (X.A.deeper (envOfC qg sg s.heap.objs.size g cdg)) (.call (.ref f) ⟨[], []⟩) (CR (L2.CX X.prog X.w) (envOfC qg sg s.heap.objs.size g cdg :: X.stack) X.prog X.w HZ s1 Q (WE (lW X.K H1 w1) σZ)) s1 := by
    refine PySem.W.kla_callFunE hr.depth of1 rfl L.co L.gen rfl ⟨c', oc, vs, t, rfl, hoc, hdc, hvc⟩ ?_
    rw [hbind]
    refine wpAny_pure (wpAny_newFunctionEnv (fun y hy => (L.own y hy).2) (fun y hy => absurd hy (by simp)) (fun h₁ hns hsb => ⟨I1.nolimit.fresh _ hsb, ?_⟩) L.kind)
    show codeAny _ _ (.expr body (LamX.lamEnv X scope s1.heap.objs.size f c')) _ _
    have kp : ∀ b o, s1.heap.get? b = some o → h₁.get? b = some o := fun b o e => hsb.extBut b o (Nat.ne_of_lt (Heap.lt_size e)) (Heap.get?_push_of_some _ e)
    have J : Inv (LamX.lamCx X (X.A.deeper (envOfC qg sg s.heap.objs.size g cdg)) (envOfC qg sg s.heap.objs.size g cdg :: X.stack) s1 HZ (WE (lW X.K H1 w1) σZ) scope f c') [] σ HZ { s1 with heap := h₁, toks := s1.toks + ([] : List (Str × Value)).length } :=
      LamX.lam_start2 I L I1.env0 hr.hd un hns kp
    have tk0 : Takes (LamX.lamCx X (X.A.deeper (envOfC qg sg s.heap.objs.size g cdg)) (envOfC qg sg s.heap.objs.size g cdg :: X.stack) s1 HZ (WE (lW X.K H1 w1) σZ) scope f c') (fun cls d _ H' => WE (lW X.K H1 w1) σZ cls d H') := takes_of rfl rfl rfl rfl
    have tk : Takes (LamX.lamCx X (X.A.deeper (envOfC qg sg s.heap.objs.size g cdg)) (envOfC qg sg s.heap.objs.size g cdg :: X.stack) s1 HZ (WE (lW X.K H1 w1) σZ) scope f c') (lW X.K HZ fun c d _ S2 => w1 c d eZ S2) :=
      tk0.imp fun cls d σ' H' ⟨c, e, S', ec, A', q⟩ => ⟨c, eZ, S', ec, AZ.next A'.x A'.s, q⟩
    refine PySem.W.kla_codeExpr (wpAny_mono ((hbody _ _ s1 HZ _ _ (hr.deeper _) ⟨tk, passes_of rfl, rfl, tbZ⟩).run [] _ _ HZ Q J ⟨e0, SZ, Q', ⟨.refl HZ, r0.ext (hx1.trans AZ.x), AZ.s⟩, m2, kk⟩) (fun v s' hq => ?_) fun e s' hq => hq)
    obtain ⟨w', H', J', rv, q⟩ := hq
    exact ⟨w', H', J'.os, J'.bare, J'.base, J'.hok, rv, q⟩
  refine wpAny_call (codeAny_mono rc fun r s' hq => ?_)
  cases r with
  | error e => exact passAt cx1.tk σZ pinsZ HZ s1 e s' I1 hq
  | ok fl =>
    cases fl with
    | ret u => exact I1.after hq
    | next => exact False.elim hq
    | brk => exact False.elim hq
    | cont => exact False.elim hq
end
/-- the promise of a def that calls the lambda it is given -/
def spAct (N : Nat) (mT : Addr → NSp → NW → NS) : NSp → NSp := fun act _ S Q E => ∀ f, S f = none → mT f act (fun c d _ S' => E c d S') { nx := fun _ S' => Q .non S', rt := Q } (startN N [.ref f]) S
/-- x(lambda: body) -/
def mLam (spT : NSp → NSp) (w : NW) (mb : NW → NE) : NE := fun e S Q => spT (fun _ S' Q' E' => mb (fun c d _ S2 => E' c d S2) e S' Q') [] S Q fun c d S' => w c d e S'
section
variable {X : Cx} {H0 : Hp} {w : NW} {mb : NW → NE}
theorem je_lam {x a : Str} {g : Addr} {k n : Nat} {pg : Arguments} {bg : List Stmt} {sg : Scope} {fd : FuncData} {Ng : List Str} {mT : Addr → NSp → NW → NS}
    {params : Arguments} {body : Expr} {scope : Scope} {p lpos pos : Pos} (cx : NX X H0 w) (F : FunD X.K x x pg bg sg [] [] g fd) (hm : X.mg x = some (.ref g)) (hb : Binds X.K fd [a] []) (Sg : FnScope Ng [a] sg)
    (LT : LamT X.base X.mg X.env.code (X.env.qual ++ "<lambda>")) (hr : Room (k + 2) X.A)
    (hT : ∀ (cdv : Value) (A : Around) (outer : List PySem.Env) (s : Shared) (H : Hp) (E : XK) (w' : NW) (f : Addr) (act : NSp), Room (k + 1) (A.deeper (envOfC x sg s.heap.objs.size g cdv)) → NX (cxOf (L2.CX X.prog X.w) X.prog X.w X.K X.mg X.base Ng x sg g cdv A outer s H E) H w' →
      (∀ (H1 : Hp) (w1 : NW) (pn : List (Addr × Obj)) (xe : Value → Shared → Prop) (p1 p2 : Pos), HExt H H1 → NX ((cxOf (L2.CX X.prog X.w) X.prog X.w X.K X.mg X.base Ng x sg g cdv A outer s H E).tr pn xe) H1 w1 →
        JE ((cxOf (L2.CX X.prog X.w) X.prog X.w X.K X.mg X.base Ng x sg g cdv A outer s H E).tr pn xe) H1 (.Call (.Name a p1) [] [] p2) (mAct 0 f act w1)) →
      JSs (cxOf (L2.CX X.prog X.w) X.prog X.w X.K X.mg X.base Ng x sg g cdv A outer s H E) H bg (mT f act w'))
    (hbody : ∀ (A : Around) (outer : List PySem.Env) (s : Shared) (H : Hp) (E : XK) (w' : NW) (f c' : Addr), Room k (A.deeper (LamX.lamEnv X scope s.heap.objs.size f c')) → NX (LamX.lamCx X A outer s H E scope f c') H w' → JE (LamX.lamCx X A outer s H E scope f c') H body (mb w'))
    (hn : Ng.length = n) (hNg : Ng[0]? = some a) (hva : Vis sg a) (hL : LamX.lamSB X.env.scope scope = true) (hdef : defaultsOf params X.env = ([], []))
    (hbind : ∀ (q : Str) (cl : List (Str × Addr)) (pm cv ctv : Value), bindArgs (PySem.W.kla_fn "<lambda>" q params body scope cl pm cv ctv) ⟨[], []⟩ = pure [])
    (hg : Gl X x := by rfl) (hdb : (x == ("__debug__" : Str)) = false := by decide +kernel) (hd : (a == ("__debug__" : Str)) = false := by decide) (hcd : (a == ("__classdict__" : Str)) = false := by decide) :
    JE X H0 (.Call (.Name x p) [.Lambda params body scope lpos] [] pos) (mLam (spAct n mT) w mb) := by
  subst hn
  have L := LamX.lamS_by hL
  obtain ⟨c, P, hcode, TB, hmT, hu⟩ := LT.ex
  have kpF := F.kp
  obtain ⟨oc, od, dV, kV, doc, pm, an, cdv, ct, osl, rfl, lk, hcg, _, _⟩ := F.ex
  refine ⟨fun pins s σ H Q I h => ?_⟩
  obtain ⟨e, S, Q', A, m, kk⟩ := h
  refine wpAny_Call_Name_kw (ld_glob I hg hm ?_ hdb)
  refine PySem.W.callWith_K (h₀ := X.base) I.ok.mod.kin kpF ?_ (by rfl) (by rfl)
  show wpAny _ _ (spliced ((false, eval (.Lambda params body scope lpos) X.env) :: backTo pos (starEach [] X.env))) _ _ s
  refine Calls.spliced_cons (LamX.lam_make2 I TB hcode hmT hu (A.x.tab cx.tb) hdef (L.has I.ok) fun f c' pm' ctv H1 s' I1 eN T1 hf hfn hfr hco => ?_)
  refine Calls.spliced_nil ⟨I1.kIn, ?_⟩
  have x1 : HExt H H1 := .lam eN T1
  have A1 := A.next x1 (A.s.lam eN x1)
  have rc : codeAny (model X.prog X.w) X.A (.call (.ref g) ⟨[.ref f], []⟩) (CR (L2.CX X.prog X.w) X.stack X.prog X.w H1 s' Q (WE (lW X.K H0 w) σ)) s' := by
    refine LamX.run_ofS (k := k + 1) (N := Ng) (ps := [a]) (us := [.ref f]) (vs := [.ref f]) lk hcg Sg hr I1.env0 (hb s' [.ref f] I1.kIn rfl) (.cons rfl .nil) rfl fun hr' => ?_
    have tk0 : Takes (cxOf (L2.CX X.prog X.w) X.prog X.w X.K X.mg X.base Ng x sg g cdv X.A X.stack s' H1 (WE (lW X.K H0 w) σ)) (fun cls d _ H' => WE (lW X.K H0 w) σ cls d H') := takes_of rfl rfl rfl rfl
    have tk : Takes (cxOf (L2.CX X.prog X.w) X.prog X.w X.K X.mg X.base Ng x sg g cdv X.A X.stack s' H1 (WE (lW X.K H0 w) σ)) (lW X.K H1 fun c d _ S2 => w c d e S2) :=
      tk0.imp fun cls d σ' H' ⟨c, e', S', ec, A', q⟩ => ⟨c, e, S', ec, A1.next A'.x A'.s, q⟩
    refine ⟨_, hT cdv X.A X.stack s' H1 _ _ f _ hr' ⟨tk, passes_of rfl, rfl, T1⟩ (fun H2 w1 pn xe p1 p2 hx2 cx2 => je_act (i := 0) I1 A1.e L hf hfn hfr (hbind _ _ _ _ _) hco hx2 cx2 hr' (fun A outer s H E w' => hbody A outer s H E w' f c') hNg hva hd hcd), ?_⟩
    refine ⟨startN Ng.length [.ref f], S, _, ⟨.refl H1, ?_, A1.s⟩, m f (A1.s.fresh hfn), ⟨fun e S' σ' H' x A' q => kk _ _ _ _ (x1.trans x) A'.s .non q, fun d S' v H' x s r q => kk _ _ _ _ (x1.trans x) s r q, fun _ _ _ _ _ _ q => q, fun _ _ _ _ _ _ q => q⟩⟩
    rw [startN_eq]
    exact ER.app (ER.some (.cons (.ref f) .nil)) (ER.none _)
  refine wpAny_call (codeAny_mono rc fun r s2 hq => ?_)
  cases r with
  | error e => exact passAt cx.tk σ pins H1 s' e s2 I1 hq
  | ok fl =>
    cases fl with
    | ret u => exact I1.after hq
    | next => exact False.elim hq
    | brk => exact False.elim hq
    | cont => exact False.elim hq
end
/-- the name of the lambdas of a def of the top -/
def lamQ (x : Str) : Str := x ++ ".<locals>." ++ "<lambda>"
theorem code_of {K : PySem.W.Frag} {x y qual : Str} {params : Arguments} {body : List Stmt} {scope : Scope} {dvs : List V} {kws : List (Str × V)} {fd : FuncData} {c P : Addr} (F : FunD K y qual params body scope dvs kws (He.ga K x) fd) (h : PySem.W.tabIn K x = some (c, P)) : fd.code = .ref c := by
  obtain ⟨oc, od, dV, kV, doc, pm, an, cdv, ct, osl, e0, lk, _⟩ := F.ex
  unfold PySem.W.tabIn at h
  split at h
  · rename_i f hf
    have eg : He.ga K x = f := by unfold He.ga; rw [hf]
    rw [eg] at lk
    rw [lk] at h
    dsimp only at h
    split at h
    · rename_i c2 hc
      split at h
      · split at h
        · cases h; exact hc
        · cases h
      · cases h
    · cases h
  · cases h
theorem fn_bodyL {P : Program} {w : World} {K : PySem.W.Frag} {mg : Str → Option Value} {base : Heap} {x qual : Str} {params : Arguments} {body : List Stmt} {scope : Scope} {fd : FuncData} {N ps : List Str} {k : Nat} {m : NW → NS}
    (F : FunD K x qual params body scope [] [] (He.ga K x) fd) (S : FnScope N ps scope) {q : Str} (lt : ∃ c P, PySem.W.tabIn K x = some (c, P) ∧ LamX.TabB base mg c P ∧ (P, q) ∈ TabList.T ∧ ∀ p ∈ TabList.T, p.1 = P → p.2 = q)
    (hb : ∀ (cdv : Value) (A : Around) (outer : List PySem.Env) (s : Shared) (H : Hp) (E : XK) (w' : NW), LamT base mg cdv q → Room k (A.deeper (envOfC qual scope s.heap.objs.size (He.ga K x) cdv)) → NX (cxOf (L2.CX P w) P w K mg base N qual scope (He.ga K x) cdv A outer s H E) H w' →
      JSs (cxOf (L2.CX P w) P w K mg base N qual scope (He.ga K x) cdv A outer s H E) H body (m w')) :
    FnOk P w K mg base (L2.CX P w) (k + 1) (He.ga K x) fd ps (lSp K ps.length (spOf N.length m)) := by
  obtain ⟨c, Pt, ht, tb, t1, t2⟩ := lt
  have hcode := code_of F ht
  obtain ⟨oc, od, dV, kV, doc, pm, an, cdv, ct, osl, rfl, lk, hcd, _, _⟩ := F.ex
  have ec : cdv = .ref c := hcode
  refine fn_of lk hcd S (fun vs H Q E h => h.len) fun A outer s H vs Q E hr h => ?_
  obtain ⟨ds, S0, Q', E', h1, h2, h3, h3t, h4, h5, h6⟩ := h
  have tk0 : Takes (cxOf (L2.CX P w) P w K mg base N qual scope (He.ga K x) cdv A outer s H E) (fun cls d _ H' => E cls d H') := takes_of rfl rfl rfl rfl
  have tk : Takes (cxOf (L2.CX P w) P w K mg base N qual scope (He.ga K x) cdv A outer s H E) (lW K H fun c d _ S' => E' c d S') :=
    tk0.imp fun cls d σ H' ⟨c, e, S', ec, A', q⟩ => by
      rw [ec]; exact h6 c d S' H' A'.x A'.s q
  refine ⟨_, hb cdv A outer s H E _ ⟨c, Pt, ec, tb, t1, t2⟩ hr ⟨tk, passes_of rfl, rfl, h3t⟩, ?_⟩
  refine ⟨startN N.length ds, S0, _, ⟨.refl H, ?_, h3⟩, h4, ⟨fun e S' σ' H' x A' q => h5 _ _ _ _ x A'.s .non q, fun d S' v H' x s r q => h5 _ _ _ _ x s r q, fun _ _ _ _ _ _ q => q, fun _ _ _ _ _ _ q => q⟩⟩
  rw [startN_eq]
  unfold L2.start
  rw [h2.length]
  exact ER.app (ER.some h2) (ER.none _)
end N

set_option Elab.async false
set_option linter.all false
set_option maxRecDepth 100000
set_option maxHeartbeats 4000000
namespace N
variable [TabList]
open PySem PySem.Spec PyProof.Rows L2

/-! ### methods, the room apart -/
structure MtK (P : Program) (w : World) (K : PySem.W.Frag) (mg : Str → Option Value) (base : Heap) (m : Str) (mt : MT) (k : Nat) : Prop where
  ok : ∀ c n sp, mt c = some (n, sp) → ∃ f, Meth K (He.ga K c) m f ∧ Fn P w K mg base k f n sp
theorem Fn.mono {P : Program} {w : World} {K : PySem.W.Frag} {mg : Str → Option Value} {base : Heap} {j k : Nat} {f : Addr} {n : Nat} {sp : NSp} (F : Fn P w K mg base j f n sp) (h : j ≤ k) : Fn P w K mg base k f n sp := by
  obtain ⟨fd, ps, h1, h2, h3⟩ := F.ex
  exact ⟨⟨fd, ps, h1, h2.mono h, h3⟩, F.kp⟩
section
variable {X : Cx} {H0 : Hp} {w : NW} {a o : Expr} {mo : NE} {pos : Pos} {es : List Expr} {mr : NA} {k : Nat}
theorem MtK.at {m : Str} {mt : MT} (h : MtK X.prog X.w X.K X.mg X.base m mt k) (hr : Room k X.A) : MtOk X m mt := ⟨fun c n sp e => let ⟨f, h1, h2⟩ := h.ok c n sp e; ⟨f, k, hr, h1, h2⟩⟩
theorem je_methK {m : Str} {mt : MT} {apos : Pos} {pl : Sem Bool} (cx : NX X H0 w) (h : MtK X.prog X.w X.K X.mg X.base m mt k) (hr : Room k X.A) (he : JE X H0 o mo) (ha : JA X H0 (a :: es) mr)
    (hst : starEach (a :: es) X.env = (false, eval a X.env) :: starEach es X.env := by rfl) (hpl : (backTo pos (starEach es X.env)).any (·.1) = false := by rfl)
    (ht : eval (.Call (.Attribute o m apos) (a :: es) [] pos) X.env = (do
      let ov ← eval o X.env
      standAt apos.atName
      let (f, first) ← holding [ov] (getMethod ov m pl)
      callWith pos f first (backTo pos (starEach (a :: es) X.env)) (backToKw pos (keywordEach [] X.env))) := by rfl) :
    JE X H0 (.Call (.Attribute o m apos) (a :: es) [] pos) (mMeth m mt w mo mr) := je_meth cx (h.at hr) he ha hst hpl ht
theorem je_methK0 {m : Str} {mt : MT} {apos : Pos} {pl : Sem Bool} (cx : NX X H0 w) (h : MtK X.prog X.w X.K X.mg X.base m mt k) (hr : Room k X.A) (he : JE X H0 o mo)
    (ht : eval (.Call (.Attribute o m apos) [] [] pos) X.env = (do
      let ov ← eval o X.env
      standAt apos.atName
      let (f, first) ← holding [ov] (getMethod ov m pl)
      callWith pos f first (backTo pos (starEach [] X.env)) (backToKw pos (keywordEach [] X.env))) := by rfl) :
    JE X H0 (.Call (.Attribute o m apos) [] [] pos) (mMeth m mt w mo mNil) := je_meth0 cx (h.at hr) he ht
end

/-! ### what the head looks at -/
def excB (K : PySem.W.Frag) (D : Addr) : Bool := He.eqO (PySem.W.findIn K (.ref D) "__getattribute__") (some (some (.builtin "BaseException.__getattribute__"))) && (He.eqO (PySem.W.findIn K (.ref D) "__getattr__") (some none) &&
  (decide (PySem.W.subIn K (.ref D) (.type "BaseException") = some true) && (PySem.W.hasDictIn K D && (He.eqO (PySem.W.findIn K (.ref D) "__class__") (some (some (.builtin "object.__class__"))) &&
  (He.eqO (PySem.W.specialIn K (.builtin "object.__class__") "__get__") (some (some (.builtin "getset_descriptor.__get__"))) && (decide (PySem.W.takesIn K (.builtin "object.__class__") = some true) && decide (PySem.W.mroIn K D (.type "object") = some true)))))))
theorem excB_ok {K : PySem.W.Frag} {D : Addr} (h : excB K D = true) : ExcC K D := by
  obtain ⟨h1, h⟩ := He.ba h
  obtain ⟨h2, h⟩ := He.ba h
  obtain ⟨h3, h⟩ := He.ba h
  obtain ⟨h4, h⟩ := He.ba h
  obtain ⟨h5, h⟩ := He.ba h
  obtain ⟨h6, h⟩ := He.ba h
  obtain ⟨h7, h8⟩ := He.ba h
  exact ⟨He.eqO_ok h1, He.eqO_ok h2, of_decide_eq_true h3, h4, He.eqO_ok h5, He.eqO_ok h6, of_decide_eq_true h7, of_decide_eq_true h8⟩
def kfW (CL : List Str) (K : PySem.W.Frag) : Bool := ((T1 CL).all fun t => (T2 CL).all fun u => decide (PySem.W.kitOne K (t.v K) (u.v K) = some (isT t u))) && ((CL.all fun c => excB K (He.ga K c)) && CL.all fun c => (Str.ofString "MartError" :: CL).all fun x => decide (PySem.W.exmOne K (.ref (He.ga K c)) (.ref (He.ga K x)) = some (isT (.cls c) (.cls x))))
theorem kfW_ok {CL : List Str} {K : PySem.W.Frag} (h : kfW CL K = true) : KF CL K := by
  obtain ⟨h1, h⟩ := He.ba h
  obtain ⟨h2, h3⟩ := He.ba h
  exact ⟨fun t ht u hu => of_decide_eq_true (List.all_eq_true.mp (List.all_eq_true.mp h1 t ht) u hu), fun c hc => excB_ok (List.all_eq_true.mp h2 c hc)⟩
theorem kxW_ok {CL : List Str} {K : PySem.W.Frag} (h : kfW CL K = true) : KX CL K := by
  obtain ⟨h1, h⟩ := He.ba h
  obtain ⟨h2, h3⟩ := He.ba h
  exact ⟨fun c hc x hx => of_decide_eq_true (List.all_eq_true.mp (List.all_eq_true.mp h3 c hc) x hx)⟩
def clsW (K : PySem.W.Frag) (c : Str) : Bool := (He.Fa.cls c).ok K && FN.all fun f => (He.Fa.noat c f).ok K
theorem clsW_ok {K : PySem.W.Frag} {c : Str} (h : clsW K c = true) : ClsOk K c := by
  obtain ⟨h1, h2⟩ := He.ba h
  exact ⟨He.cls_ok h1, fun f hf => He.noat_ok (List.all_eq_true.mp h2 f hf)⟩
abbrev AlN : Type := He.AlD × Bool
/-- addresses, each once: those that were met are the bits of s -/
def addB {β : Type} : List Addr → List Addr → Nat → (List Addr → Nat → β) → β
  | [], acc, s, k => k acc s
  | a :: r, acc, s, k => HandSHeadRun.frNat a fun a' => match Nat.beq (Nat.mod (Nat.shiftRight s a') 2) 1 with
    | true => addB r acc s k
    | false => HandSHeadRun.frNat (Nat.lor s (Nat.shiftLeft 1 a')) fun s' => addB r (a' :: acc) s' k
def levB (g : Addr → Option Obj) : Nat → List Addr → List Addr → Nat → List Addr
  | 0, all, fr, _ => all ++ fr
  | n + 1, all, fr, s => addB (fr.flatMap fun a => match g a with
    | some o => He.refsD o
    | none => []) [] s fun fr' s' => levB g n (all ++ fr) fr' s'
/-- the places that are looked at, as far as n steps lead: tables of code objects are none -/
def asN (g : Addr → Option Obj) (n : Nat) : List Addr := (levB g n [] [mainGlobals] (Nat.shiftLeft 1 mainGlobals)).filter fun a => match g a with
  | some ⟨.none, _, .fields vs, _⟩ => vs.size != 0
  | _ => true
def obsN (n : Nat) (fa : List He.Fa) (fn : List He.DefD) (ex : PySem.W.Frag → Bool) (g : Addr → Option Obj) : AlN := (He.obsD fa fn (He.frG g (asN g n)), ex (He.frG g (asN g n)))
def hookN (n : Nat) (fa : List He.Fa) (fn : List He.DefD) (ex : PySem.W.Frag → Bool) : PySem.W.Hook where
  α := AlN
  obs := fun s => obsN n fa fn ex s.heap.get?
  val := fun _ => (He.valD fn, true)
  says := fun _ h => ∃ K : PySem.W.Frag, K.In h ∧ He.SaysD fa fn K ∧ ex K = true
  of := fun _ _ e => ⟨_, He.frG_in, congrArg (fun z : AlN => z.1) e, congrArg (fun z : AlN => z.2) e⟩
  keeps := fun _ _ _ ⟨K, hK, c⟩ k => ⟨K, PySem.W.Frag.In.keeps hK k, c⟩
omit [TabList] in
theorem obsN_eq {n : Nat} {fa : List He.Fa} {fn : List He.DefD} {ex : PySem.W.Frag → Bool} {g : Addr → Option Obj} {s : Shared} (h : ∀ a, g a = s.heap.get? a) : obsN n fa fn ex g = (hookN n fa fn ex).obs s := by
  have e : g = s.heap.get? := funext h
  rw [e] <;> rfl

omit [TabList] in
/-- the run's equation, in three parts -/
theorem runEq_of {r : PySem.W.OpenRow} {q : Program} {M n : Nat} {loose : List Str} {w : World} {fa : List He.Fa} {fn : List He.DefD} {ex : PySem.W.Frag → Bool} {ob : PySem.W.SharedT → AlN} {kq : PySem.W.SharedT → PySem.W.Frag}
    (hob : ∀ s, ob s = obsN n fa fn ex (HandSHeadRun.getT s)) (hk : ∀ s, kq s = He.frG (HandSHeadRun.getT s) (asN (HandSHeadRun.getT s) n))
    (hD : ∀ os : OsState, (HandSHeadRun.endF (HandSHeadRun.stepQ (HandSHeadRun.denQ HandSHeadRun.tabQ) r.prog w) M r.prog w os).map (fun s => (HandSHeadRun.looksF r.prog (PySem.W.boot_heap w.params) s.abs, HandSHeadRun.seenQ q loose (importedModules r.prog.main.body) (fun s => PySem.W.xlAt q [] s && PySem.W.recOk r.toRowW.records s) s.abs)) = some (true, PySem.W.openGood q loose))
    (hE : ∀ os : OsState, (HandSHeadRun.endF (HandSHeadRun.stepQ (HandSHeadRun.denQ HandSHeadRun.tabQ) r.prog w) M r.prog w os).map (fun s => ex (kq s) && ((fa.all fun f => f.ok (kq s)) && fn.all fun d => d.ok (kq s))) = some true)
    (hF : ∀ os : OsState, (HandSHeadRun.endF (HandSHeadRun.stepQ (HandSHeadRun.denQ HandSHeadRun.tabQ) r.prog w) M r.prog w os).map (fun s => fn.map fun d => He.fnW (kq s) d.at_) = some (fn.map He.DefD.val)) :
    HandSHeadRun.RunEq r q (hookN n fa fn ex) ob M loose w := by
  intro os
  have d := hD os
  have e := hE os
  have f := hF os
  cases h : HandSHeadRun.endF (HandSHeadRun.stepQ (HandSHeadRun.denQ HandSHeadRun.tabQ) r.prog w) M r.prog w os with
  | none => rw [h] at d; cases d
  | some s =>
    rw [h] at d e f
    simp only [Option.map_some, Option.some.injEq] at d e f ⊢
    obtain ⟨e1, e2⟩ := He.ba e
    rw [hk] at e1 e2 f
    obtain ⟨d1, d2⟩ := Prod.mk.inj d
    rw [d1, d2, hob]
    have e3 : obsN n fa fn ex (HandSHeadRun.getT s) = ((true, fn.map He.DefD.val), true) := by
      unfold obsN He.obsD
      rw [e1, e2, f]
    rw [e3]
    rfl
/-! ### the end -/
theorem cx_none {P : Program} {w : World} {H : Hp} {s : Shared} {e : Value} {s' : Shared} (h : L2.CX P w [] H s (fun _ _ _ => False) e s') : False := by
  obtain ⟨_, _, _, _, _, _, _, _, _, _, _, _, z⟩ := h
  exact z.elim
omit [TabList] in
theorem walk_ofN {l : PySem.W.OpenLaw} {k : Nat} {q : Program} {loose : List Str} {XP : (Str → Option Value) → Heap → Prop} {YP : World → Heap → Prop} {d : DefRec} {x : Str} {sp : NSp}
    (hn : l.most = some 63) (hdf : d.params.defaults = []) (hr : Room k callerA)
    (plain : ∀ ns : List Int, ns.length ≤ 63 → sp [.rol (ns.map D.int)] (fun _ => none) (fun d _ => d = .bl true) (fun _ _ _ => False))
    (F : ∀ (w : World) (mg : Str → Option Value) (fa : Addr) (h : Heap), YP w h → h.Ns mainGlobals mg → mg d.name = some (.ref fa) →
      ∃ (K : PySem.W.Frag) (fd : FuncData), K.In h ∧ (∀ (s : Shared) (u : Value), BindsTo s fd ⟨[u], []⟩ [(x, u)]) ∧
        ∀ base : Heap, K.In base → base.Ns mainGlobals mg → FnOk l.prog w K mg base (L2.CX l.prog w) k fa fd [x] (@lSp ⟨[]⟩ K 1 sp)) :
    PySem.W.WalkO q loose XP YP l.row.toRowW d [] (fun f vs => PySem.call f vs) := by
  letI : TabList := ⟨[]⟩
  refine Att.attach_call hn hdf fun w s₀ s₁ mg mb fa o pm cd doc a vs ns G Y ho hd hcd hmg hobj hints hlen hg => ?_
  obtain ⟨K, fd, KX, hb, hF⟩ := F w mg fa _ Y G.T.g hmg
  refine law_call KX G.T.g G.T.b G.T.builtins G.T.nolimit hg hobj hints (Nat.le_trans hlen (by decide)) hr hF hb (fun H hO hS => ?_) fun H e s' => cx_none
  refine ⟨[.rol (ns.map D.int)], fun _ => none, _, _, rfl, .cons (.rol (vs := ns.map V.int) ?_ VRs.ints) .nil, fun a o e => (by cases e), fun p hp => (by cases hp), plain ns hlen, fun d S' v H' _ _ r e => ?_, fun _ _ _ _ _ _ z => z⟩
  · rcases hS with (h | ⟨ob, h⟩) | h
    · rcases hO a with z | ⟨o, xs, z⟩
      · rw [h] at z; cases z
      · rw [h] at z; cases z
    · exact .inl ⟨ob, h⟩
    · exact .inr h
  · subst e
    cases r; rfl
end N

set_option Elab.async false
set_option linter.all false
set_option maxRecDepth 100000
set_option maxHeartbeats 4000000
namespace N
open PySem PySem.Spec PyProof.Rows L2
/-! ### the end of a law whose defs make lambdas -/
/-- which tables there are: LN, the defs that make lambdas and the names of these -/
def tabsL (LN : List (Str × Str)) (K : PySem.W.Frag) : List (Addr × Str) := LN.filterMap fun x => (PySem.W.tabIn K x.1).map fun p => (p.2, x.2)
def tabsB (LN : List (Str × Str)) (K : PySem.W.Frag) : Bool := (LN.all fun x => match PySem.W.tabIn K x.1 with
    | some p => (K.lookup p.2).isNone
    | none => false) && (tabsL LN K).all fun p => (tabsL LN K).all fun r => !decide (p.1 = r.1) || decide (p.2 = r.2)
/-- where the law is called: what is tracked there -/
def hp0 (K : PySem.W.Frag) (ts : List Addr) (a : Addr) (ob : Obj) (xs : List V) : Hp := fun b => if b ∈ ts then some (.tbl #[]) else if b = a ∧ K.lookup a = none then some (.frz ob (.lst xs)) else none
section
variable {P : Program} {w : World} {K : PySem.W.Frag} {mg mb : Str → Option Value} {CX : CXT} {k : Nat} {fa a : Addr} {cs : List (Addr × Addr)} {fd : FuncData} {x : Str} {sp : Sp} {s₁ : Shared} {vs : List Value} {ns : List Int}
theorem law_callN (KX : K.In s₁.heap) (hns : s₁.heap.Ns mainGlobals mg) (hb : s₁.heap.Ns builtinsNs mb) (hbb : ∀ x : Str, x ≠ "__name__" → mb x = bootBuiltins x) (hlim : s₁.heap.NoLimit) (hg : s₁.gens = #[])
    (hT : ∀ p ∈ cs, s₁.heap.get? p.2 = some { cls := .none, data := .fields #[] }) (nT : ∀ p ∈ cs, K.lookup p.2 = none) (C : ∀ p ∈ cs, PySem.W.CodeHd s₁.heap p.1 p.2)
    (hbm : ∃ (bm : Addr) (ob : Obj), mg "__builtins__" = some (.ref bm) ∧ bm ≠ builtinsNs ∧ s₁.heap.get? bm = some ob ∧ ob.cls = .type "module" ∧ ob.dict = some builtinsNs ∧ ob.data = .plain)
    (ha : s₁.heap.get? a = some { cls := .type "list", data := .seq vs.toArray }) (hi : IntsAre vs ns) (hl : ns.length ≤ sizeLine) (hr : Room k callerA)
    (F : ∀ base : Heap, K.In base → base.Ns mainGlobals mg → (∀ p ∈ cs, LamX.TabB base mg p.1 p.2) → FnOk P w K mg base CX k fa fd [x] sp) (hbind : ∀ (s : Shared) (u : Value), BindsTo s fd ⟨[u], []⟩ [(x, u)])
    (hsp : ∀ H : Hp, (∀ p ∈ cs, H p.2 = some (.tbl #[])) → RolR K H a (ns.map V.int) → sp [.ref a] H (fun v _ => v = .bl true) fun _ _ _ => False)
    (hCX : ∀ H e s', CX [] H s₁ (fun _ _ _ => False) e s' → False) :
    codeAny (model P w) callerA (.call (.ref fa) ⟨[.ref a], []⟩) (fun r s' => r = .ok (.ret (.bool true)) ∧ OldK s₁.heap s'.heap ∧ s'.os = s₁.os ∧ AllBare s'.gens) s₁ := by
  have rv := vals_ints hi
  have lenV := hi.length
  have mT : ∀ {b}, b ∈ cs.map (·.2) → ∃ p ∈ cs, p.2 = b := fun hb => List.mem_map.mp hb
  have tm : ∀ p ∈ cs, p.2 ∈ cs.map (·.2) := fun p hp => List.mem_map.mpr ⟨p, hp, rfl⟩
  have tO : ∀ {b}, b ∈ cs.map (·.2) → s₁.heap.get? b = some { cls := .none, data := .fields #[] } := fun hb => let ⟨p, hp, e⟩ := mT hb; e ▸ hT p hp
  have aT : a ∉ cs.map (·.2) := fun z => by
    have q := (tO z).symm.trans ha
    cases q
  obtain ⟨ob, eob⟩ : ∃ ob : Obj, ob = { cls := .type "list", data := .seq vs.toArray } := ⟨_, rfl⟩
  have ha' : s₁.heap.get? a = some ob := eob ▸ ha
  obtain ⟨H, eH⟩ : ∃ H, H = hp0 K (cs.map (·.2)) a ob (ns.map V.int) := ⟨_, rfl⟩
  have H1 : ∀ p ∈ cs, H p.2 = some (.tbl #[]) := fun p hp => by rw [eH]; exact if_pos (tm p hp)
  -- the three kinds of place
  have kind : ∀ b, H b = none ∨ (b ∈ cs.map (·.2) ∧ H b = some (.tbl #[])) ∨ (b = a ∧ K.lookup a = none ∧ H b = some (.frz ob (.lst (ns.map V.int)))) := fun b => by
    rw [eH]; unfold hp0
    by_cases h1 : b ∈ cs.map (·.2)
    · exact .inr (.inl ⟨h1, if_pos h1⟩)
    · rw [if_neg h1]
      by_cases h2 : b = a ∧ K.lookup a = none
      · exact .inr (.inr ⟨h2.1, h2.2, if_pos h2⟩)
      · exact .inl (if_neg h2)
  have hS : RolR K H a (ns.map V.int) := by
    cases hk : K.lookup a with
    | some o =>
      have e := KX a o hk
      rw [ha] at e
      cases e
      exact .inr ⟨_, vs.toArray, _, hk, rfl, rfl, rfl, by rw [List.size_toArray, lenV]; exact hl, by simpa using rv⟩
    | none => exact .inl ⟨ob, by rw [eH]; unfold hp0; rw [if_neg aT, if_pos ⟨rfl, hk⟩]⟩
  have hok : HOk P w H s₁.heap := fun b u e => by
    rcases kind b with z | ⟨z1, z2⟩ | ⟨z1, _, z2⟩
    · rw [e] at z; cases z
    · rw [e] at z2; cases z2; exact tO z1
    · rw [e] at z2; cases z2
      subst z1; subst eob
      exact ⟨ha, by rw [List.length_map]; exact hl, vs, _, rv, ha⟩
  -- what is no list and no table stays in the base
  have off : ∀ {b : Addr} {o : Obj}, s₁.heap.get? b = some o → (∀ xs n, o.data ≠ .seq xs n) → o.data ≠ .fields #[] → H b = none := fun {b o} e h1 h2 => by
    rcases kind b with z | ⟨z1, z2⟩ | ⟨z1, _, z2⟩
    · exact z
    · rw [tO z1] at e; cases e; exact (h2 rfl).elim
    · rw [z1, ha] at e; cases e; exact (h1 _ _ rfl).elim
  have base_of : ∀ {b : Addr} {o : Obj}, s₁.heap.get? b = some o → (∀ xs n, o.data ≠ .seq xs n) → o.data ≠ .fields #[] → (hidT s₁.heap H).get? b = some o := fun e h1 h2 => hidT_get e (off e h1 h2)
  have nsK : ∀ {b : Addr} {m : Str → Option Value}, s₁.heap.Ns b m → (hidT s₁.heap H).Ns b m := fun {b m} ⟨o, es, ep, e, d, r⟩ => ⟨o, es, ep, base_of e (fun xs n z => by rw [d] at z; cases z) (fun z => by rw [d] at z; cases z), d, r⟩
  have hKb : K.In (hidT s₁.heap H) := fun b o e => hidT_get (KX b o e) (by
    rcases kind b with z | ⟨z1, z2⟩ | ⟨z1, z2, _⟩
    · exact z
    · obtain ⟨p, hp, ep⟩ := mT z1
      rw [← ep, nT p hp] at e; cases e
    · rw [z1, z2] at e; cases e)
  have hM : L2.Mod K mg (hidT s₁.heap H) := ⟨hKb, nsK hns, ⟨mb, nsK hb, hbb⟩, let ⟨mc, h1, h2⟩ := hlim; ⟨mc, nsK h1, h2⟩⟩
  have TB : ∀ p ∈ cs, LamX.TabB (hidT s₁.heap H) mg p.1 p.2 := fun p hp => by
    have hTp := hT p hp
    refine ⟨?_, ?_, fun z => ?_⟩
    · obtain ⟨o, us, file, tf, flags, tg, inF, text, tt, e1, r1, r2, r3, rr⟩ := C p hp
      exact ⟨o, us, file, tf, flags, tg, inF, text, tt, base_of e1 (fun xs n z => by rw [r2] at z; cases z) (fun z => by rw [r2] at z; cases z; simp at r3), r1, r2, r3, rr⟩
    · obtain ⟨bm, om, b1, b2, b3, b4, b5, b6⟩ := hbm
      have nG : bm ≠ mainGlobals := fun q => by
        obtain ⟨o, es, ep, e, hd, _⟩ := hns
        rw [q, e] at b3
        cases b3
        rw [hd] at b6; cases b6
      have nP : bm ≠ p.2 := fun q => by
        rw [q, hTp] at b3
        cases b3; cases b6
      exact ⟨bm, om, b1, b2, nG, nP, base_of b3 (fun xs n z => by rw [b6] at z; cases z) (fun z => by rw [b6] at z; cases z), b4, b5, b6⟩
    · obtain ⟨o, es, ep, e, hd, _⟩ := hns
      rw [z, hTp] at e
      cases e; cases hd
  have e0 : Env0 P w K mg (hidT s₁.heap H) callerA [] s₁ H := ⟨rfl, hM, fun b o e => of_hidT e, Nat.le_of_eq (hidT_size _ _), trivial, fun b hb => absurd (show b ∈ ([] : List Addr) from hb) (by simp), hok, .of_eq hg⟩
  refine codeAny_mono ((F _ hKb (nsK hns) TB).run callerA [] s₁ H ⟨[.ref a], []⟩ [.ref a] [.ref a] _ _ hr e0 (hbind s₁ (.ref a)) (.cons rfl .nil) (hsp H H1 hS)) fun r s' h => ?_
  cases r with
  | error e => exact (hCX H e s' h).elim
  | ok fl =>
    cases fl with
    | next => exact False.elim h
    | brk => exact False.elim h
    | cont => exact False.elim h
    | ret u =>
      obtain ⟨v, H', os, bare, un, hok', r', q⟩ := h
      have q' : v = .bl true := q
      subst q'
      obtain rfl : u = Value.bool true := r'
      -- what becomes of each object
      have each : ∀ b o, s₁.heap.get? b = some o → s'.heap.get? b = some o ∨ ∃ p ∈ cs, p.2 = b ∧ ∃ more : Array Value, s'.heap.get? b = some { cls := .none, data := .fields more } := fun b o e => by
        rcases kind b with z | ⟨z1, z2⟩ | ⟨z1, _, z2⟩
        · exact .inl (un.keep b o e z (by intro z; exact absurd (show b ∈ ([] : List Addr) from z) (by simp)) (by simp))
        · obtain ⟨p, hp, ep⟩ := mT z1
          obtain ⟨more, zz⟩ := un.tbls b #[] z2
          exact .inr ⟨p, hp, ep, _, hok' b _ zz⟩
        · have z3 := un.frzs b ob _ z2
          obtain ⟨e1, _⟩ := hok b _ z2
          obtain ⟨e2, _⟩ := hok' b _ z3
          rw [e] at e1; cases e1
          exact .inl e2
      refine ⟨rfl, ⟨fun b o e => ?_, fun b o e => ?_⟩, os, bare⟩
      · rcases each b o e with z | ⟨p, hp, ep, more, z⟩
        · exact .inl z
        · subst ep
          rw [hT p hp] at e
          cases e
          exact .inr (.inl ⟨((C p hp).tab (hT p hp)).isCodeTable, rfl, #[], more, rfl, by rw [Array.empty_append]; exact z⟩)
      · rcases each b o e with z | ⟨_, _, _, more, z⟩
        · exact ⟨o, z⟩
        · exact ⟨_, z⟩
end
theorem tabsB_lt {LN : List (Str × Str)} {K : PySem.W.Frag} (h : tabsB LN K = true) : ∀ x ∈ LN, ∃ c P, PySem.W.tabIn K x.1 = some (c, P) ∧ K.lookup P = none ∧ (P, x.2) ∈ tabsL LN K ∧ ∀ p ∈ tabsL LN K, p.1 = P → p.2 = x.2 := fun x hx => by
  unfold tabsB at h
  rw [Bool.and_eq_true] at h
  obtain ⟨h1, h2⟩ := h
  have q := List.all_eq_true.mp h1 x hx
  split at q
  · rename_i p e
    obtain ⟨c, P⟩ := p
    have m : (P, x.2) ∈ tabsL LN K := List.mem_filterMap.mpr ⟨x, hx, by rw [e]; rfl⟩
    refine ⟨c, P, e, by simpa using q, m, fun p hp ep => ?_⟩
    have := List.all_eq_true.mp (List.all_eq_true.mp h2 p hp) _ m
    simp only [Bool.or_eq_true, Bool.not_eq_true', decide_eq_false_iff_not, decide_eq_true_eq] at this
    rcases this with z | z
    · exact absurd ep z
    · exact z
  · cases q
theorem walk_ofTN {l : PySem.W.OpenLaw} {k : Nat} {q : Program} {loose : List Str} {XP : (Str → Option Value) → Heap → Prop} {YP : World → Heap → Prop} {d : DefRec} {x : Str} {sp : NSp} (LN : List (Str × Str))
    (hn : l.most = some 63) (hdf : d.params.defaults = []) (hr : Room k callerA) (hrec : (LN.all fun x => ((recsOf q).find? fun e => e.name == x.1).isSome) = true)
    (plain : ∀ ns : List Int, ns.length ≤ 63 → sp [.rol (ns.map D.int)] (fun _ => none) (fun d _ => d = .bl true) (fun _ _ _ => False))
    (F : ∀ (w : World) (mg : Str → Option Value) (fa : Addr) (h : Heap), YP w h → h.Ns mainGlobals mg → mg d.name = some (.ref fa) →
      ∃ (K : PySem.W.Frag) (fd : FuncData), K.In h ∧ tabsB LN K = true ∧ (∀ (s : Shared) (u : Value), BindsTo s fd ⟨[u], []⟩ [(x, u)]) ∧
        ∀ base : Heap, K.In base → base.Ns mainGlobals mg → (∀ x ∈ LN, ∃ c P, PySem.W.tabIn K x.1 = some (c, P) ∧ LamX.TabB base mg c P ∧ (P, x.2) ∈ tabsL LN K ∧ ∀ p ∈ tabsL LN K, p.1 = P → p.2 = x.2) →
          FnOk l.prog w K mg base (L2.CX l.prog w) k fa fd [x] (@lSp ⟨tabsL LN K⟩ K 1 sp)) :
    PySem.W.WalkO q loose XP YP l.row.toRowW d [] (fun f vs => PySem.call f vs) := by
  refine Att.attach_call hn hdf fun w s₀ s₁ mg mb fa o pm cd doc a vs ns G Y ho hd hcd hmg hobj hints hlen hg => ?_
  obtain ⟨K, fd, KX, tb, hb, hF⟩ := F w mg fa _ Y G.T.g hmg
  have lt := tabsB_lt tb
  letI : TabList := ⟨tabsL LN K⟩
  have look : ∀ x ∈ LN, ∀ c P, PySem.W.tabIn K x.1 = some (c, P) → PySem.W.CodeHd s₁.heap c P ∧ s₁.heap.get? P = some (PySem.W.tabObj #[]) := fun x hx c P e => by
    have := List.all_eq_true.mp hrec x hx
    obtain ⟨dd, e2⟩ := Option.isSome_iff_exists.mp this
    exact PySem.W.tab_of G.T KX e2 e
  have cm : ∀ p ∈ LN.filterMap fun x => PySem.W.tabIn K x.1, ∃ x ∈ LN, PySem.W.tabIn K x.1 = some p := fun p hp => by
    obtain ⟨x, hx, e⟩ := List.mem_filterMap.mp hp
    exact ⟨x, hx, e⟩
  refine law_callN (cs := LN.filterMap fun x => PySem.W.tabIn K x.1) (sp := lSp K 1 sp) KX G.T.g G.T.b G.T.builtins G.T.nolimit hg (fun p hp => ?_) (fun p hp => ?_) (fun p hp => ?_) G.T.bmain hobj hints (Nat.le_trans hlen (by decide)) hr (fun base b1 b2 b3 => hF base b1 b2 fun x hx => ?_) hb (fun H hH hS => ?_) fun H e s' => cx_none
  · obtain ⟨x, hx, e⟩ := cm p hp
    exact (look x hx p.1 p.2 e).2
  · obtain ⟨x, hx, e⟩ := cm p hp
    obtain ⟨c, P, e2, e3, _⟩ := lt x hx
    rw [e] at e2; cases e2
    exact e3
  · obtain ⟨x, hx, e⟩ := cm p hp
    exact (look x hx p.1 p.2 e).1
  · obtain ⟨c, P, e2, e3, e4⟩ := lt x hx
    exact ⟨c, P, e2, b3 _ (List.mem_filterMap.mpr ⟨x, hx, e2⟩), e4⟩
  · refine ⟨[.rol (ns.map D.int)], fun _ => none, _, _, rfl, .cons (.rol (vs := ns.map V.int) hS VRs.ints) .nil, fun a o e => (by cases e), fun p hp => ?_, plain ns hlen, fun d S' v H' _ _ r e => ?_, fun _ _ _ _ _ _ z => z⟩
    · obtain ⟨x, hx, e⟩ := List.mem_filterMap.mp (show p ∈ tabsL LN K from hp)
      simp only [Option.map_eq_some_iff] at e
      obtain ⟨cp, e1, rfl⟩ := e
      exact LamX.TabS.nil (hH cp (List.mem_filterMap.mpr ⟨x, hx, e1⟩))
    · subst e
      cases r; rfl
end N

set_option Elab.async false
set_option linter.all false
set_option maxRecDepth 100000
set_option maxHeartbeats 4000000
namespace N
open PySem PySem.Spec PyProof.Rows L2
variable [TabList]
/-! ### a refusal that has a line -/
structure OexN (K : PySem.W.Frag) (x f : Str) : Prop where
  oc : OexC K (He.ga K x)
  ini : PySem.W.findIn K (.ref (He.ga K x)) "__init__" = some (some (.ref (He.ma K (He.ga K x) "__init__")))
  tI : PySem.W.typeIn K (.ref (He.ma K (He.ga K x) "__init__")) = some (.type "function")
  no : PySem.W.findIn K (.ref (He.ga K x)) f = some none
def oexC (K : PySem.W.Frag) (C : Addr) : Bool := match K.lookup C with
  | some ⟨.type c, _, .cls cd, sl⟩ => decide (c = "type") && (match cd.mro, sl.toList with
    | .ref C' :: bm, [_, _, _, _, some (.builtin n), _] => decide (C' = C) && (decide (n = "ValueError.__new__") && (!cd.hasDel && (cd.hasDict && PySem.HandSPX.refsVE bm)))
    | _, _ => false)
  | _ => false
def oexW (K : PySem.W.Frag) (x f : Str) : Bool := oexC K (He.ga K x) && (He.eqO (PySem.W.findIn K (.ref (He.ga K x)) "__setattr__") (some (some (.builtin "object.__setattr__"))) && (decide (PySem.W.subIn K (.ref (He.ga K x)) (.type "BaseException") = some true) &&
  (decide (PySem.W.typeIn K (.ref (He.ga K x)) = some (.type "type")) && (PySem.W.keepIn K (.ref (He.ga K x)) && (He.eqO (PySem.W.findIn K (.ref (He.ga K x)) "__init__") (some (some (.ref (He.ma K (He.ga K x) "__init__")))) &&
  (decide (PySem.W.typeIn K (.ref (He.ma K (He.ga K x) "__init__")) = some (.type "function")) && He.eqO (PySem.W.findIn K (.ref (He.ga K x)) f) (some none)))))))
omit [TabList] in
theorem oexW_ok {K : PySem.W.Frag} {x f : Str} (h : oexW K x f = true) : OexN K x f := by
  obtain ⟨h1, h⟩ := He.ba h
  obtain ⟨h2, h⟩ := He.ba h
  obtain ⟨h3, h⟩ := He.ba h
  obtain ⟨h4, h⟩ := He.ba h
  obtain ⟨h5, h⟩ := He.ba h
  obtain ⟨h6, h⟩ := He.ba h
  obtain ⟨h7, h8⟩ := He.ba h
  refine ⟨⟨?_, He.eqO_ok h2, of_decide_eq_true h3, of_decide_eq_true h4, h5⟩, He.eqO_ok h6, of_decide_eq_true h7, He.eqO_ok h8⟩
  unfold oexC at h1
  split at h1
  · rename_i c dd cd sl ho
    simp only [Bool.and_eq_true, decide_eq_true_eq] at h1
    obtain ⟨rfl, h1⟩ := h1
    split at h1
    · rename_i C' bm k0 k1 k2 k3 n k5 hm hs
      simp only [Bool.and_eq_true, decide_eq_true_eq, Bool.not_eq_true'] at h1
      obtain ⟨g2, rfl, g4, g5, g6⟩ := h1
      obtain ⟨nm, bs, mro, ns, qn, hd, sn, sub, ab, col, del⟩ := cd
      dsimp only at hm g4 g5
      subst hm
      subst g4 g5
      have hsl : sl = #[k0, k1, k2, k3, some (.builtin "ValueError.__new__"), k5] := by
        obtain ⟨l⟩ := sl
        simp only at hs
        rw [hs]
      subst hsl
      rw [g2] at ho
      exact ⟨nm, qn, ns, bs, bm, sn, sub, ab, col, dd, k0, k1, k2, k3, k5, ho, g6⟩
    · cases h1
  · cases h1
def spOI (K : PySem.W.Frag) (f : Str) : Sp := fun vs H Q E => ∃ (a C : Addr) (y : V), vs = [.ref a, y] ∧ OexC K C ∧ PySem.W.findIn K (.ref C) f = some none ∧ H a = some (exo a C none) ∧ ∀ dx, H dx = none → dx ≠ a → Q .non (upd (upd H dx (exd dx [(f, y)])) a (exo a C (some dx)))
omit [TabList] in
theorem fn_oinit {P : Program} {w : World} {K : PySem.W.Frag} {mg : Str → Option Value} {base : Heap} {x qual f n0 n1 : Str} {params : Arguments} {body : List Stmt} {scope : Scope} {fI : Addr} {fd : FuncData} {k : Nat} {p1 p2 p3 p4 : Pos}
    (F : FunD K x qual params body scope [] [] fI fd) (S : FnScope [n0, n1] [n0, n1] scope) (hb : body = [.Assign [.Attribute (.Name n0 p1) f p2] (.Name n1 p3) p4])
    (h0 : scope.names.lookup n0 = some .local) (h1 : scope.names.lookup n1 = some .local) (d0 : (n0 == ("__debug__" : Str)) = false) (d1 : (n1 == ("__debug__" : Str)) = false) (c0 : (n0 == ("__classdict__" : Str)) = false) (c1 : (n1 == ("__classdict__" : Str)) = false)
    (hs : ∀ X : Cx, swapsWith (.Name n1 p3) (some (.Attribute (.Name n0 p1) f p2)) p4.line X.env = pure false) : FnOk P w K mg base (L2.CX P w) (k + 1) fI fd [n0, n1] (spOI K f) := by
  subst hb
  refine F.ok S (fun vs H Q E h => by obtain ⟨a, C, y, rfl, _⟩ := h; rfl) (fun cdv A outer s H vs Q E hr h => ?_)
  refine ⟨_, pss_one (ps_ost (pe_var (i := 0) rfl (.inl h0) d0 c0) (pe_var (i := 1) rfl (.inl h1) d1 c1) (hs _)), ?_⟩
  obtain ⟨a, C, y, rfl, T, no, e, q⟩ := h
  exact ⟨y, rfl, .ref a, rfl, a, C, rfl, T, no, .inl ⟨e, fun dx n ne => q dx n ne⟩⟩
def sRaiseX (c f : Str) (m : NE) (w : NW) : NS := fun _ e S => m e S fun y S1 => ∀ d, S1 d = none → w c (some d) e (N.put S1 d (.xd [(f, y)]))
/-! ### the head looks at tables too -/
abbrev AlM : Type := AlN × List (Option (List (Option (Str × Int))))
def obsM (n : Nat) (fa : List He.Fa) (fn : List He.DefD) (ex : PySem.W.Frag → Bool) (ts : List (Str × List Str)) (g : Addr → Option Obj) : AlM := (obsN n fa fn ex g, ts.map fun t => He.dicW (He.frG g (asN g n)) (He.ga (He.frG g (asN g n)) t.1))
def hookM (n : Nat) (fa : List He.Fa) (fn : List He.DefD) (ex : PySem.W.Frag → Bool) (ts : List (Str × List Str)) : PySem.W.Hook where
  α := AlM
  obs := fun s => obsM n fa fn ex ts s.heap.get?
  val := fun w => ((He.valD fn, true), ts.map fun t => some (He.keysIn w.params t.2))
  says := fun w h => ∃ K : PySem.W.Frag, K.In h ∧ He.SaysD fa fn K ∧ ex K = true ∧ (ts.map fun t => He.dicW K (He.ga K t.1)) = ts.map fun t => some (He.keysIn w.params t.2)
  of := fun _ _ e => ⟨_, He.frG_in, congrArg (fun z : AlM => z.1.1) e, congrArg (fun z : AlM => z.1.2) e, (by have z := congrArg (fun z : AlM => z.2) e; exact z)⟩
  keeps := fun _ _ _ ⟨K, hK, c⟩ k => ⟨K, PySem.W.Frag.In.keeps hK k, c⟩
omit [TabList] in
theorem obsM_eq {n : Nat} {fa : List He.Fa} {fn : List He.DefD} {ex : PySem.W.Frag → Bool} {ts : List (Str × List Str)} {g : Addr → Option Obj} {s : Shared} (h : ∀ a, g a = s.heap.get? a) : obsM n fa fn ex ts g = (hookM n fa fn ex ts).obs s := by
  have e : g = s.heap.get? := funext h
  rw [e] <;> rfl
omit [TabList] in
theorem tab_at {α β : Type} {ts : List α} {f g : α → β} (h : ts.map f = ts.map g) (i : Nat) {t : α} (hi : ts[i]? = some t) : f t = g t := by
  have e : (ts.map f)[i]? = (ts.map g)[i]? := by rw [h]
  rw [List.getElem?_map, List.getElem?_map, hi] at e
  exact Option.some.inj e
omit [TabList] in
theorem runEq_ofM {r : PySem.W.OpenRow} {q : Program} {M n : Nat} {loose : List Str} {w : World} {fa : List He.Fa} {fn : List He.DefD} {ex : PySem.W.Frag → Bool} {ts : List (Str × List Str)} {ob : PySem.W.SharedT → AlM} {kq : PySem.W.SharedT → PySem.W.Frag}
    (hob : ∀ s, ob s = obsM n fa fn ex ts (HandSHeadRun.getT s)) (hk : ∀ s, kq s = He.frG (HandSHeadRun.getT s) (asN (HandSHeadRun.getT s) n))
    (hD : ∀ os : OsState, (HandSHeadRun.endF (HandSHeadRun.stepQ (HandSHeadRun.denQ HandSHeadRun.tabQ) r.prog w) M r.prog w os).map (fun s => (HandSHeadRun.looksF r.prog (PySem.W.boot_heap w.params) s.abs, HandSHeadRun.seenQ q loose (importedModules r.prog.main.body) (fun s => PySem.W.xlAt q [] s && PySem.W.recOk r.toRowW.records s) s.abs)) = some (true, PySem.W.openGood q loose))
    (hE : ∀ os : OsState, (HandSHeadRun.endF (HandSHeadRun.stepQ (HandSHeadRun.denQ HandSHeadRun.tabQ) r.prog w) M r.prog w os).map (fun s => ((ex (kq s) && ((fa.all fun f => f.ok (kq s)) && fn.all fun d => d.ok (kq s)), fn.map fun d => He.fnW (kq s) d.at_), ts.map fun t => He.dicW (kq s) (He.ga (kq s) t.1))) = some ((true, fn.map He.DefD.val), ts.map fun t => some (He.keysIn w.params t.2))) :
    HandSHeadRun.RunEq r q (hookM n fa fn ex ts) ob M loose w := by
  intro os
  have d := hD os
  have e := hE os
  cases h : HandSHeadRun.endF (HandSHeadRun.stepQ (HandSHeadRun.denQ HandSHeadRun.tabQ) r.prog w) M r.prog w os with
  | none => rw [h] at d; cases d
  | some s =>
    rw [h] at d e
    simp only [Option.map_some, Option.some.injEq] at d e ⊢
    obtain ⟨e, g⟩ := Prod.mk.inj e
    obtain ⟨e, f⟩ := Prod.mk.inj e
    obtain ⟨e1, e2⟩ := He.ba e
    rw [hk] at e1 e2 f g
    obtain ⟨d1, d2⟩ := Prod.mk.inj d
    rw [d1, d2, hob]
    have e3 : obsM n fa fn ex ts (HandSHeadRun.getT s) = (((true, fn.map He.DefD.val), true), ts.map fun t => some (He.keysIn w.params t.2)) := by
      unfold obsM obsN He.obsD
      rw [e1, e2, f, g]
    rw [e3]
    rfl
section
variable {X : Cx} {H0 : Hp} {w : NW} {a : Expr} {me : NE}
theorem js_raiseX {x f n0 n1 : Str} {p cpos pos : Pos} {k : Nat} (cx : NX X H0 w) (O : OexN X.K x f) (hF : ∃ fd, FnOk X.prog X.w X.K X.mg X.base (L2.CX X.prog X.w) k (He.ma X.K (He.ga X.K x) "__init__") fd [n0, n1] (spOI X.K f) ∧ Binds X.K fd [n0, n1] []) (hr : Room (k + 1) X.A)
    (hm : X.mg x = some (.ref (He.ga X.K x))) (he : JE X H0 a me) (hg : Gl X x := by rfl) (hdb : (x == ("__debug__" : Str)) = false := by decide +kernel)
    (hs : starEach (a :: []) X.env = (false, eval a X.env) :: starEach [] X.env := by rfl) (hpl : (backTo cpos (starEach [] X.env)).any (·.1) = false := by rfl) :
    JS X H0 (.Raise (some (.Call (.Name x p) [a] [] cpos)) none pos) (sRaiseX x f me w) := by
  obtain ⟨fd, F1, hb⟩ := hF
  have hx : Passes (L2.CX X.prog X.w) X (fun _ _ _ => False) := fun pins σ H s e s' I h => by
    obtain ⟨_, _, _, _, _, _, _, _, _, _, _, _, z⟩ := h
    exact z.elim
  refine (ps_raise cx.calm cx.tk (pmk_oex O.oc O.ini O.tI F1 hr hb .nil hx hg hm (ja_cons he ja_nil hs) hdb hs hpl)).imq fun D σ H ⟨e, S, D', A, m, k⟩ => ?_
  refine ⟨e, S, fun ds S1 => ∃ y, ds = [y] ∧ ∀ d, S1 d = none → w x (some d) e (N.put S1 d (.xd [(f, y)])), A, ?_, fun ds S1 vs H1 x1 s1 rs q => ?_⟩
  · have ee : (fun y S1 => mNil e S1 fun ds S2 => ∃ y', y :: ds = [y'] ∧ ∀ d, S2 d = none → w x (some d) e (N.put S2 d (.xd [(f, y')]))) = fun y S1 => ∀ d, S1 d = none → w x (some d) e (N.put S1 d (.xd [(f, y)])) := by
      funext y S1
      exact propext ⟨fun ⟨y', e1, q⟩ => by cases e1; exact q, fun q => ⟨y, rfl, q⟩⟩
    exact (congrArg (me e S) ee).mpr m
  · obtain ⟨y, rfl, q⟩ := q
    obtain ⟨v, rfl, rv⟩ := vrs1 rs
    refine ⟨by simp, fun a0 n0' => ⟨a0, _, v, rfl, O.oc, O.no, upd_same, fun dx n ne => ⟨rfl, dx, [(f, v)], upd_same, by rw [upd_ne ne, upd_same], by rw [upd_ne ne] at n; exact n, ?_⟩⟩⟩
    have nd : H1 dx = none := by rw [upd_ne ne] at n; exact n
    have eh : upd (del (upd (upd (upd H1 a0 (exo a0 (He.ga X.K x) none)) dx (exd dx [(f, v)])) a0 (exo a0 (He.ga X.K x) (some dx))) a0) dx (.xd [(f, v)]) = upd H1 dx (.xd [(f, v)]) := by
      funext b
      by_cases hb' : b = dx
      · rw [hb', upd_same, upd_same]
      · rw [upd_ne hb', upd_ne hb']
        by_cases ha' : b = a0
        · rw [ha', del_same, n0']
        · rw [del_ne ha', upd_ne ha', upd_ne hb', upd_ne ha']
    rw [eh]
    exact ⟨x, e, _, rfl, A.next (x1.trans (.new nd)) (s1.put (o := .xd [(f, y)]) (.new nd) ⟨_, upd_same, .cons ⟨rfl, rv.ext (.new nd)⟩ .nil⟩), q dx (s1.fresh nd)⟩
end
end N

set_option Elab.async false
set_option linter.all false
set_option maxRecDepth 100000
set_option maxHeartbeats 4000000
namespace N
open PySem PySem.Spec PyProof.Rows L2
variable [TabList]
/-! ### a dict is locked while it is walked -/
section
variable {K : PySem.W.Frag}
/-- values stay, whatever is unlocked -/
structure HExtV (H H' : Hp) : Prop where
  tup : ∀ a vs, H a = some (.tup vs) → H' a = some (.tup vs)
  lst : ∀ a o vs, H a = some (.frz o (.lst vs)) → H' a = some (.frz o (.lst vs))
variable {H H' : Hp}
mutual
theorem VR.extV (x : HExtV H H') : ∀ {d : D} {v : V}, VR K H d v → VR K H' d v
  | _, _, .non => .non
  | _, _, .bl b => .bl b
  | _, _, .int i => .int i
  | _, _, .str z => .str z
  | _, _, .ref a => .ref a
  | _, _, .ty n => .ty n
  | _, _, .cls n => .cls n
  | _, _, .tup h r => .tup (h.elim (fun h => .inl (x.tup _ _ h)) .inr) (VRs.extV x r)
  | _, _, .rol h r => .rol (h.elim (fun ⟨o, h⟩ => .inl ⟨o, x.lst _ o _ h⟩) .inr) (VRs.extV x r)
theorem VRs.extV (x : HExtV H H') : ∀ {ds : List D} {vs : List V}, VRs K H ds vs → VRs K H' ds vs
  | _, _, .nil => .nil
  | _, _, .cons h r => .cons (VR.extV x h) (VRs.extV x r)
end
theorem KVR.extV {κ : Type} (x : HExtV H H') {a : List (κ × D)} {b : List (κ × V)} (h : KVR K H a b) : KVR K H' a b := Paired.mapP h fun _ _ z => ⟨z.1, z.2.extV x⟩
theorem ER.extV (x : HExtV H H') {e : Env} {s : L2.St} (h : ER K H e s) : ER K H' e s := Paired.mapP h fun _ _ z d q => let ⟨w, a, b⟩ := z d q; ⟨w, a, b.extV x⟩
theorem OR.extV {a : Addr} {o : Ob} (x : HExtV H H') (k : H' a = H a) (h : OR K H a o) : OR K H' a o := by
  cases o with
  | lst ds => obtain ⟨vs, e, r⟩ := h; exact ⟨vs, k.trans e, r.extV x⟩
  | dic kvs => obtain ⟨vs, e, r⟩ := h; exact ⟨vs, k.trans e, KVR.extV x r⟩
  | ins C fs => obtain ⟨dx, vs, e, r, c⟩ := h; exact ⟨dx, vs, k.trans e, KVR.extV x r, c⟩
  | exc c d => exact k.trans h
  | xd fs => obtain ⟨vs, e, r⟩ := h; exact ⟨vs, k.trans e, KVR.extV x r⟩
  | lok kvs => obtain ⟨o, vs, e, r⟩ := h; exact ⟨o, vs, k.trans e, KVR.extV x r⟩
/-- the unlocking of a dict -/
theorem unlockV {p : Addr} {od : Obj} {ws : List (Key × V)} (h : H p = some (.frz od (.dK ws))) : HExtV H (upd H p (.dK ws)) :=
  ⟨fun a vs e => by rw [upd_ne (fun z => by rw [z, h] at e; cases e)]; exact e, fun a o vs e => by rw [upd_ne (fun z => by rw [z, h] at e; cases e)]; exact e⟩
/-- locked, then unlocked: all stays -/
theorem HExt.locked {H H2 : Hp} {p : Addr} {od : Obj} {ws : List (Key × V)} (h : H p = some (.dK ws)) (x : HExt (L2.upd H p (.frz od (.dK ws))) H2) : HExt H (L2.upd H2 p (.dK ws)) := by
  have ne : ∀ {a : Addr} {u : HO}, H a = some u → (∀ ws, u ≠ .dK ws) → a ≠ p := fun e n z => by
    rw [z, h] at e; cases e; exact n _ rfl
  refine ⟨fun a vs e => ?_, fun a o u e => ?_, fun a q e => ?_, fun t => ?_⟩
  · have n := ne e (by nofun)
    rw [upd_ne n]; exact x.tup a vs (by rw [upd_ne n]; exact e)
  · have n := ne e (by nofun)
    rw [upd_ne n]; exact x.frz a o u (by rw [upd_ne n]; exact e)
  · have n := ne e (fun ws z => by cases z)
    rw [upd_ne n]; exact x.cod a q (by rw [upd_ne n]; exact e)
  · have h2 : H2 p = some (.frz od (.dK ws)) := x.frz p od _ upd_same
    have t2 := x.tab ((HExt.upd (u := .frz od (.dK ws)) h trivial).tab t)
    intro q hq
    obtain ⟨ps, e1, e2, e3⟩ := t2 q hq
    refine ⟨ps, by rw [upd_ne (fun z => by rw [z, h2] at e1; cases e1)]; exact e1, e2, fun pos cv hc => ?_⟩
    obtain ⟨c, f1, f2⟩ := e3 pos cv hc
    exact ⟨c, f1, by rw [upd_ne (fun z => by rw [z, h2] at f2; cases f2)]; exact f2⟩
theorem SR.unlock {S : Sto} {H2 : Hp} {p : Addr} {od : Obj} {ws : List (Key × V)} {kvs : List (Key × D)} (s : SR K S H2) (h : H2 p = some (.frz od (.dK ws))) (r : KVR K H2 kvs ws) : SR K (N.put S p (.dic kvs)) (upd H2 p (.dK ws)) := fun b q e => by
  have x := unlockV h
  by_cases hb : b = p
  · subst hb
    rw [put_same] at e
    cases e
    exact ⟨ws, upd_same, KVR.extV x r⟩
  · rw [put_ne hb] at e
    exact (s b q e).extV x (upd_ne hb)
end
/-- the expression is told while the dict at p is locked -/
def mLock (m : NE) : NE := fun e S Q => ∃ p kvs, S p = some (.dic kvs) ∧ m e (N.put S p (.lok kvs)) fun d S' => Q d (N.put S' p (.dic kvs))
def sLock (t : NS) : NS := fun D e S => ∃ p kvs, S p = some (.dic kvs) ∧ t { nx := fun e' S' => D.nx e' (N.put S' p (.dic kvs)), rt := fun d S' => D.rt d (N.put S' p (.dic kvs)), bk := fun e' S' => D.bk e' (N.put S' p (.dic kvs)), ct := fun e' S' => D.ct e' (N.put S' p (.dic kvs)) } e (N.put S p (.lok kvs))
section
variable {X : Cx} {H0 : Hp} {w : NW} {a : Expr} {m : NE} {st : Stmt} {t : NS}
theorem at_lock {H : Hp} {σ : L2.St} {e : Env} {S : Sto} {p : Addr} {kvs : List (Key × D)} {ws : List (Key × V)} (A : At X.K H0 H σ e S) (h : H p = some (.dK ws)) (r : KVR X.K H kvs ws) (od : Obj) : At X.K H0 (upd H p (.frz od (.dK ws))) σ e (N.put S p (.lok kvs)) := by
  have x : HExt H (upd H p (.frz od (.dK ws))) := .upd h trivial
  exact ⟨A.x.trans x, A.e.ext x, A.s.put x ⟨od, ws, upd_same, KVR.ext x r⟩⟩
theorem je_lock (h : JE X H0 a m) : JE X H0 a (mLock m) := by
  refine (pe_lock h).imq fun σ H Q ⟨e, S, Q', A, ⟨p, kvs, hp, q⟩, k⟩ => ?_
  obtain ⟨ws, h1, r1⟩ := A.s.dic hp
  refine ⟨p, _, h1, trivial, fun od => ⟨e, _, _, at_lock A h1 r1 od, q, fun d S' v H2 x s2 rv q2 => ?_⟩⟩
  have h2 : H2 p = some (.frz od (.dK ws)) := x.frz p od _ upd_same
  have r2 : KVR X.K H2 kvs ws := KVR.ext x (KVR.ext (.upd h1 trivial) r1)
  exact ⟨h2, k _ _ _ _ (HExt.locked h1 x) (s2.unlock h2 r2) (rv.extV (unlockV h2)) q2⟩
theorem js_lock (h : JS X H0 st t) : JS X H0 st (sLock t) := by
  refine (ps_lock h).imq fun D σ H ⟨e, S, D', A, ⟨p, kvs, hp, q⟩, k⟩ => ?_
  obtain ⟨ws, h1, r1⟩ := A.s.dic hp
  refine ⟨p, _, h1, trivial, fun od => ⟨e, _, _, at_lock A h1 r1 od, q, ?_⟩⟩
  have hh : ∀ {H2 : Hp}, HExt (upd H p (.frz od (.dK ws))) H2 → H2 p = some (.frz od (.dK ws)) ∧ KVR X.K H2 kvs ws := fun x => ⟨x.frz p od _ upd_same, KVR.ext x (KVR.ext (.upd h1 trivial) r1)⟩
  have aa : ∀ {H2 : Hp} {σ2 : L2.St} {e2 : Env} {S2 : Sto}, HExt (upd H p (.frz od (.dK ws))) H2 → At X.K H0 H2 σ2 e2 S2 → At X.K H0 (upd H2 p (.dK ws)) σ2 e2 (N.put S2 p (.dic kvs)) := fun x A2 =>
    ⟨A.x.trans (HExt.locked h1 x), A2.e.extV (unlockV (hh x).1), A2.s.unlock (hh x).1 (hh x).2⟩
  exact ⟨fun e2 S2 σ2 H2 x A2 q2 => ⟨(hh x).1, k.nx _ _ _ _ (HExt.locked h1 x) (aa x A2) q2⟩, fun d S2 v H2 x s2 rv q2 => ⟨(hh x).1, k.rt _ _ _ _ (HExt.locked h1 x) (s2.unlock (hh x).1 (hh x).2) (rv.extV (unlockV (hh x).1)) q2⟩,
    fun e2 S2 σ2 H2 x A2 q2 => ⟨(hh x).1, k.bk _ _ _ _ (HExt.locked h1 x) (aa x A2) q2⟩, fun e2 S2 σ2 H2 x A2 q2 => ⟨(hh x).1, k.ct _ _ _ _ (HExt.locked h1 x) (aa x A2) q2⟩⟩
end
/-! ### what a locked dict tells, walked -/
def kD : Key → D
  | .inl i => .int i
  | .inr x => .str x
theorem kD_ok {K : PySem.W.Frag} {H : Hp} (k : Key) : VR K H (kD k) (kV k) := by
  cases k with
  | inl i => exact .int i
  | inr x => exact .str x
theorem kvr_get {K : PySem.W.Frag} {H : Hp} : ∀ {kvs : List (Key × D)} {ws : List (Key × V)}, KVR K H kvs ws → ∀ {i : Nat} {k : Key} {v : V}, ws[i]? = some (k, v) → ∃ d, kvs[i]? = some (k, d) ∧ VR K H d v
  | _, _, .nil, i, k, v, e => by simp at e
  | p :: r, q :: t, .cons h l, 0, k, v, e => by
    obtain ⟨pk, pd⟩ := p
    simp only [List.getElem?_cons_zero, Option.some.injEq] at e
    subst e
    obtain ⟨h1, h2⟩ := h
    dsimp only at h1 h2
    subst h1
    exact ⟨pd, rfl, h2⟩
  | p :: r, q :: t, .cons h l, i + 1, k, v, e => by
    simp only [List.getElem?_cons_succ] at e ⊢
    exact kvr_get l e
theorem kvr_len {K : PySem.W.Frag} {H : Hp} {kvs : List (Key × D)} {ws : List (Key × V)} (h : KVR K H kvs ws) : kvs.length = ws.length := Paired.length h
def lokOf (S : Sto) : D → Option (List (Key × D))
  | .ref p => (match S p with
    | some (.lok kvs) => some kvs
    | _ => none)
  | _ => none
theorem lokOf_ok {K : PySem.W.Frag} {S : Sto} {H : Hp} {d : D} {v : V} {kvs : List (Key × D)} (s : SR K S H) (r : VR K H d v) (e : lokOf S d = some kvs) : ∃ a o ws, d = .ref a ∧ v = .ref a ∧ H a = some (.frz o (.dK ws)) ∧ KVR K H kvs ws := by
  unfold lokOf at e
  split at e
  · rename_i a
    cases r
    split at e
    · rename_i es e1
      cases e
      obtain ⟨o, ws, h1, r1⟩ := s a _ e1
      exact ⟨a, o, ws, rfl, rfl, h1, r1⟩
    · cases e
  · cases e
def iKeysN (m : NE) : NI := fun e S Q => m e S fun x S1 => match lokOf S1 x with
  | some kvs => Q (kvs.map fun kv => kD kv.1) (fun _ => True) S1
  | none => False
def iValsN (m : NE) : NI := fun e S Q => m e S fun x S1 => match lokOf S1 x with
  | some kvs => Q (kvs.map fun kv => kv.2) (fun _ => True) S1
  | none => False
def iItemsN (m : NE) : NI := fun e S Q => m e S fun x S1 => match lokOf S1 x with
  | some kvs => Q (kvs.map fun kv => .tup [kD kv.1, kv.2]) (fun _ => True) S1
  | none => False
section
variable {X : Cx} {H0 : Hp} {a : Expr} {ma : NE} {tg : Expr} {apos cpos : Pos}
theorem itr_keys {K : PySem.W.Frag} {H1 : Hp} {p : Addr} {o : Obj} {ws : List (Key × V)} {kvs : List (Key × D)} (h : H1 p = some (.frz o (.dK ws))) (r : KVR K H1 kvs ws) : ItR K H1 (Itk p o ws) (kvs.map fun kv => kD kv.1) fun _ => True := by
  have l := kvr_len r
  refine ⟨fun H2 S2 x s _ => ⟨x.frz p o _ h, by simp [l]⟩, fun i H2 S2 hi x s _ => ⟨x.frz p o _ h, by simpa [l] using hi⟩, fun i H2 S2 y H3 d hd x s _ yl => ?_⟩
  obtain ⟨rfl, k, v, hw, rfl⟩ := yl
  obtain ⟨d', e1, _⟩ := kvr_get r hw
  rw [List.getElem?_map, e1] at hd
  cases hd
  exact ⟨.refl _, s, kD_ok k⟩
theorem itr_vals {K : PySem.W.Frag} {H1 : Hp} {p : Addr} {o : Obj} {ws : List (Key × V)} {kvs : List (Key × D)} (h : H1 p = some (.frz o (.dK ws))) (r : KVR K H1 kvs ws) : ItR K H1 (Itd p o ws) (kvs.map fun kv => kv.2) fun _ => True := by
  have l := kvr_len r
  refine ⟨fun H2 S2 x s _ => ⟨x.frz p o _ h, by simp [l]⟩, fun i H2 S2 hi x s _ => ⟨x.frz p o _ h, by simpa [l] using hi⟩, fun i H2 S2 y H3 d hd x s _ yl => ?_⟩
  obtain ⟨rfl, k, hw⟩ := yl
  obtain ⟨d', e1, rv⟩ := kvr_get r hw
  rw [List.getElem?_map, e1] at hd
  cases hd
  exact ⟨.refl _, s, rv.ext x⟩
theorem itr_items {K : PySem.W.Frag} {H1 : Hp} {p : Addr} {o : Obj} {ws : List (Key × V)} {kvs : List (Key × D)} (h : H1 p = some (.frz o (.dK ws))) (r : KVR K H1 kvs ws) : ItR K H1 (Iti p o ws) (kvs.map fun kv => .tup [kD kv.1, kv.2]) fun _ => True := by
  have l := kvr_len r
  refine ⟨fun H2 S2 x s _ => ⟨x.frz p o _ h, by simp [l]⟩, fun i H2 S2 hi x s _ => ⟨x.frz p o _ h, by simpa [l] using hi⟩, fun i H2 S2 y H3 d hd x s _ yl => ?_⟩
  obtain ⟨T, k, v, hw, rfl, nT, rfl⟩ := yl
  obtain ⟨d', e1, rv⟩ := kvr_get r hw
  rw [List.getElem?_map, e1] at hd
  cases hd
  exact ⟨.new nT, s.more nT, .tup (.inl upd_same) (.cons (kD_ok k) (.cons ((rv.ext x).ext (.new nT)) .nil))⟩
theorem ji_keys (ha : JE X H0 a ma) : JI X H0 tg a (iKeysN ma) := by
  refine (pi_keys (tg := tg) ha).imq fun σ H R ⟨e, S, Q', A, m, k⟩ => ?_
  refine ⟨e, S, _, A, m, fun x S1 v H1 x1 s1 r m1 => ?_⟩
  split at m1
  · rename_i kvs e1
    obtain ⟨p, o, ws, rfl, rfl, h1, r1⟩ := lokOf_ok s1 r e1
    exact ⟨p, o, rfl, .inl ⟨ws, h1, k _ _ _ _ _ x1 s1 trivial m1 (itr_keys h1 r1)⟩⟩
  · exact m1.elim
theorem ji_values (ha : JE X H0 a ma) (hbase : attributeBase a "values" X.env (eval a X.env) = eval a X.env := by rfl) (hline : (apos.endLine == cpos.line) = true := by rfl) : JI X H0 tg (.Call (.Attribute a "values" apos) [] [] cpos) (iValsN ma) := by
  refine (pi_values (tg := tg) ha hbase hline).imq fun σ H R ⟨e, S, Q', A, m, k⟩ => ?_
  refine ⟨e, S, _, A, m, fun x S1 v H1 x1 s1 r m1 => ?_⟩
  split at m1
  · rename_i kvs e1
    obtain ⟨p, o, ws, rfl, rfl, h1, r1⟩ := lokOf_ok s1 r e1
    exact ⟨p, o, ws, rfl, h1, k _ _ _ _ _ x1 s1 trivial m1 (itr_vals h1 r1)⟩
  · exact m1.elim
theorem ji_items {elts : List Expr} {kk : Nat} {tpos : Pos} (ha : JE X H0 a ma) (hbase : attributeBase a "items" X.env (eval a X.env) = eval a X.env := by rfl) (hline : (apos.endLine == cpos.line) = true := by rfl) : JI X H0 (.Tuple elts kk tpos) (.Call (.Attribute a "items" apos) [] [] cpos) (iItemsN ma) := by
  refine (pi_items ha hbase hline).imq fun σ H R ⟨e, S, Q', A, m, k⟩ => ?_
  refine ⟨e, S, _, A, m, fun x S1 v H1 x1 s1 r m1 => ?_⟩
  split at m1
  · rename_i kvs e1
    obtain ⟨p, o, ws, rfl, rfl, h1, r1⟩ := lokOf_ok s1 r e1
    exact ⟨p, o, ws, rfl, h1, k _ _ _ _ _ x1 s1 trivial m1 (itr_items h1 r1)⟩
  · exact m1.elim
end
/-! ### list of a dict: its keys -/
def nListD : NL := fun xs S Q => match xs with
  | [d] => (match dicOf S d with
    | some kvs => ∀ p, S p = none → Q (.ref p) (N.put S p (.lst (kvs.map fun kv => kD kv.1)))
    | none => nList1 [d] S Q)
  | _ => False
theorem kD_vrs {K : PySem.W.Frag} {H : Hp} : ∀ {kvs : List (Key × D)} {ws : List (Key × V)}, KVR K H kvs ws → VRs K H (kvs.map fun kv => kD kv.1) (ws.map fun kv => kV kv.1)
  | _, _, .nil => .nil
  | p :: r, q :: t, .cons h l => by
    refine .cons ?_ (kD_vrs l)
    show VR K H (kD p.1) (kV q.1)
    rw [h.1]
    exact kD_ok _
theorem callN_listD {X : Cx} (hc : X.calm = true) : CallN X (.type "list") nListD := by
  obtain ⟨rl, h1, h2⟩ := callN_list (X := X)
  refine ⟨_, (call_listD hc).or h1, fun xs S Q vs H Q' s r n k => ?_⟩
  unfold nListD at n
  split at n
  · rename_i d
    split at n
    · rename_i kvs e1
      obtain ⟨v, rfl, rd⟩ := vrs1 r
      obtain ⟨a, ws, rfl, rfl, hr, rk⟩ := dicOf_ok s rd e1
      exact .inl ⟨a, ws, rfl, hr, fun p np => k _ _ _ _ (.new np) (lst_ok s np (kD_vrs rk)) (.ref p) (n p (s.fresh np))⟩
    · exact .inr (h2 _ _ _ _ _ _ s r n k)
  · exact n.elim
/-! ### dicts are compared -/
section
variable {X : Cx}
omit [TabList] in
theorem hits_data {pins : List (Addr × Obj)} {σ : L2.St} {H : Hp} {s : Shared} {A : Around} (I : Inv X pins σ H s) (hu : A.units + 64 < cLine) {ls : List (Key × V)} {vb : List (Key × Value)} (rb : KV ls vb) {ks : List (Key × V)} {va : List (Key × Value)} (ra : KV ks va) :
    (∀ p ∈ ks, ∃ u d e, valV ls p.1 = some u ∧ Dp X.K H p.2 d ∧ Dp X.K H u e ∧ SeqAt.shaped d = true ∧ SeqAt.shaped e = true ∧ d.depth ≤ 60 ∧ PyData.eqv d e = true) → PySem.W.KeqHits A.in1 s vb va true := by
  unfold KV at ra
  induction ra with
  | nil => intro _; exact .nil
  | @cons p q ps qs h t ih =>
    intro hp
    obtain ⟨h1, h2⟩ := h
    obtain ⟨u, d, e, eu, hd, he, sd, se, dd, ee⟩ := hp p List.mem_cons_self
    have rr : RelO (some u) (valueAt vb p.1) := by rw [← eu]; exact rb.val p.1
    obtain ⟨y, hy, ry⟩ := rr.some_of
    obtain ⟨k, v⟩ := q
    have h1' : p.1 = k := h1
    rw [h1'] at hy
    obtain ⟨as, r1⟩ := Dp.reads I d _ v hd h2
    obtain ⟨bs, r2⟩ := Dp.reads I e _ y he ry
    have z := SeqAt.eqAt_reads d e A.in1 s v y as bs r1 r2 (SeqAt.canLay_of_shaped sd) (SeqAt.canLay_of_shaped se) (by
      have : min d.depth e.depth ≤ d.depth := Nat.min_le_left _ _
      show A.units + 1 + min d.depth e.depth < cLine
      omega)
    rw [ee] at z
    show PySem.W.KeqHits A.in1 s vb ((k, v) :: qs) (true && true)
    exact .hit hy z (ih fun p' hm => hp p' (List.mem_cons_of_mem _ hm))
def rDic : V → V → Hp → Bool → PySem.W.Frag → Prop := fun x y H r K => ∃ a b ks ls, x = .ref a ∧ y = .ref b ∧ H a = some (.dK ks) ∧ H b = some (.dK ls) ∧ r = (ks.length == ls.length) ∧ (ks.length = ls.length → ∀ p ∈ ks, ∃ u d e, valV ls p.1 = some u ∧ Dp K H p.2 d ∧ Dp K H u e ∧ SeqAt.shaped d = true ∧ SeqAt.shaped e = true ∧ d.depth ≤ 60 ∧ PyData.eqv d e = true)
omit [TabList] in
theorem op_eqDic (hu : X.A.units + 64 < cLine) : OpR X (compareOp .Eq) (fun x y H Q => ∃ r, rDic x y H r X.K ∧ Q (.bl r) H) := by
  intro pins s σ H x y v u Q I rx ry h
  obtain ⟨r, ⟨a, b, ks, ls, rfl, rfl, ea, eb, er, hp⟩, q⟩ := h
  obtain rfl : v = Value.ref a := rx
  obtain rfl : u = Value.ref b := ry
  obtain ⟨_, ya, va, ra, da⟩ := (show ObjOk X.prog X.w H s.heap a (.dK ks) from I.hok a _ ea)
  obtain ⟨_, yb, vb, rb, db⟩ := (show ObjOk X.prog X.w H s.heap b (.dK ls) from I.hok b _ eb)
  have la := ra.length
  have lb := rb.length
  exact PySem.W.keq_eq (knd := mixKind X.prog X.w) (r := true) ya yb da db (by omega) (fun e => hits_data I hu rb ra (hp (by rw [la, lb]; exact e))) (fin_bl I q (by rw [er, la, lb]; simp))
omit [TabList] in
theorem op_neDic (hu : X.A.units + 64 < cLine) : OpR X (compareOp .NotEq) (fun x y H Q => ∃ r, rDic x y H r X.K ∧ Q (.bl (!r)) H) := by
  intro pins s σ H x y v u Q I rx ry h
  obtain ⟨r, ⟨a, b, ks, ls, rfl, rfl, ea, eb, er, hp⟩, q⟩ := h
  obtain rfl : v = Value.ref a := rx
  obtain rfl : u = Value.ref b := ry
  obtain ⟨_, ya, va, ra, da⟩ := (show ObjOk X.prog X.w H s.heap a (.dK ks) from I.hok a _ ea)
  obtain ⟨_, yb, vb, rb, db⟩ := (show ObjOk X.prog X.w H s.heap b (.dK ls) from I.hok b _ eb)
  have la := ra.length
  have lb := rb.length
  exact PySem.W.keq_ne (knd := mixKind X.prog X.w) (r := true) ya yb da db (by omega) (fun e => hits_data I hu rb ra (hp (by rw [la, lb]; exact e))) (fin_bl I q (by rw [er, la, lb]; simp))
end
def dic1 (S : Sto) : D → Option (List (Key × D))
  | .ref p => (match S p with
    | some (.dic kvs) => some kvs
    | _ => none)
  | _ => none
theorem dic1_ok {K : PySem.W.Frag} {S : Sto} {H : Hp} {d : D} {v : V} {kvs : List (Key × D)} (s : SR K S H) (r : VR K H d v) (e : dic1 S d = some kvs) : ∃ a ws, v = .ref a ∧ H a = some (.dK ws) ∧ KVR K H kvs ws := by
  unfold dic1 at e
  split at e
  · cases r
    split at e
    · rename_i es e1
      cases e
      obtain ⟨ws, h1, r1⟩ := s.dic e1
      exact ⟨_, ws, rfl, h1, r1⟩
    · cases e
  · cases e
/-- equal data -/
def eqS (x y : D) : Bool := match pyD x, pyD y with
  | some a, some b => SeqAt.shaped a && (SeqAt.shaped b && (decide (a.depth ≤ 60) && PyData.eqv a b))
  | _, _ => false
def eqDic (ks ls : List (Key × D)) : Option Bool := if ks.length = ls.length then (if ks.all (fun p => match dget ls p.1 with
  | some d => eqS p.2 d
  | none => false) then some true else none) else some false
theorem eqDic_ok {K : PySem.W.Frag} {S : Sto} {H : Hp} {x y : D} {v u : V} {ks ls : List (Key × D)} {r : Bool} (s : SR K S H) (rx : VR K H x v) (ry : VR K H y u) (ex : dic1 S x = some ks) (ey : dic1 S y = some ls) (e : eqDic ks ls = some r) : rDic v u H r K := by
  obtain ⟨a, ws, rfl, h1, r1⟩ := dic1_ok s rx ex
  obtain ⟨b, zs, rfl, h2, r2⟩ := dic1_ok s ry ey
  have l1 := kvr_len r1
  have l2 := kvr_len r2
  unfold eqDic at e
  split at e
  · rename_i el
    split at e
    · rename_i al
      cases e
      refine ⟨a, b, ws, zs, rfl, rfl, h1, h2, by simp [← l1, ← l2, el], fun _ p hp => ?_⟩
      obtain ⟨i, hi, ep⟩ := List.getElem_of_mem hp
      obtain ⟨k, vv⟩ := p
      obtain ⟨d, e1, rd⟩ := kvr_get r1 (i := i) (k := k) (v := vv) (by rw [List.getElem?_eq_getElem hi, ep])
      have q := List.all_eq_true.mp al _ (List.mem_of_getElem? e1)
      dsimp only at q
      split at q
      · rename_i d' ed
        obtain ⟨u', e3, ru⟩ := (KVR.val k r2).1 d' ed
        unfold eqS at q
        split at q
        · rename_i pa pb ea eb
          obtain ⟨g1, q⟩ := He.ba q
          obtain ⟨g2, q⟩ := He.ba q
          obtain ⟨g3, g4⟩ := He.ba q
          exact ⟨u', pa, pb, e3, pyD_ok rd ea, pyD_ok ru eb, g1, g2, of_decide_eq_true g3, g4⟩
        · cases q
      · cases q
    · cases e
  · rename_i el
    cases e
    exact ⟨a, b, ws, zs, rfl, rfl, h1, h2, by simp [← l1, ← l2, el], fun z => absurd z (by rw [← l1, ← l2]; exact el)⟩
def nEqX : N2 := fun x y S Q => match dic1 S x, dic1 S y with
  | some ks, some ls => (match eqDic ks ls with
    | some b => Q (.bl b) S
    | none => False)
  | _, _ => nEq x y S Q
def nNeX : N2 := fun x y S Q => match dic1 S x, dic1 S y with
  | some ks, some ls => (match eqDic ks ls with
    | some b => Q (.bl (!b)) S
    | none => False)
  | _, _ => nNe x y S Q
section
variable {X : Cx}
theorem opN_eqX (hu : X.A.units + 64 < cLine) : OpN X (compareOp .Eq) nEqX := by
  obtain ⟨t, h1, h2⟩ := opN_eq (X := X) hu
  refine ⟨_, (op_eqDic hu).or h1, fun x y S Q vx vy H Q' s rx ry n k => ?_⟩
  unfold nEqX at n
  split at n
  · rename_i ks ls ex ey
    split at n
    · rename_i b eb
      exact .inl ⟨b, eqDic_ok s rx ry ex ey eb, k _ _ _ _ (.refl H) s (.bl _) n⟩
    · exact n.elim
  · exact .inr (h2 _ _ _ _ _ _ _ _ s rx ry n k)
theorem opN_neX (hu : X.A.units + 64 < cLine) : OpN X (compareOp .NotEq) nNeX := by
  obtain ⟨t, h1, h2⟩ := opN_ne (X := X) hu
  refine ⟨_, (op_neDic hu).or h1, fun x y S Q vx vy H Q' s rx ry n k => ?_⟩
  unfold nNeX at n
  split at n
  · rename_i ks ls ex ey
    split at n
    · rename_i b eb
      exact .inl ⟨b, eqDic_ok s rx ry ex ey eb, k _ _ _ _ (.refl H) s (.bl _) n⟩
    · exact n.elim
  · exact .inr (h2 _ _ _ _ _ _ _ _ s rx ry n k)
end
/-! ### xs.extend(ys) -/
def nExtend : D → List D → Sto → NQ → Prop := fun x ys S Q => match x, ys with
  | .ref p, [.ref b] => (match S p, S b with
    | some (.lst ds), some (.lst es) => ds.length + es.length ≤ sizeLine ∧ Q .non (N.put S p (.lst (ds ++ es)))
    | _, _ => False)
  | _, _ => False
theorem opM_extend {K : PySem.W.Frag} : OpM K rExtend nExtend := fun x ys S Q vx vs H Q' s rx rs n k => by
  unfold nExtend at n
  split at n
  · rename_i p b
    cases rx
    obtain ⟨v, rfl, rv⟩ := vrs1 rs
    cases rv
    split at n
    · rename_i ds es e1 e2
      obtain ⟨ws, g1, r1⟩ := s.lst e1
      obtain ⟨zs, g2, r2⟩ := s.lst e2
      have x : HExt H (upd H p (.lst (ws ++ zs))) := .upd g1 True.intro
      exact ⟨p, b, ws, zs, rfl, rfl, g1, g2, by rw [← r1.length, ← r2.length]; exact n.1, k _ _ _ _ x (s.put (o := .lst (ds ++ es)) x ⟨_, upd_same, (r1.append r2).ext x⟩) .non n.2⟩
    · exact n.elim
  · exact n.elim
section
variable {X : Cx} {H0 : Hp} {w : NW} {a o : Expr} {mo : NE} {mr : NA} {es : List Expr} {pos : Pos}
theorem je_extend {apos : Pos} (ho : JE X H0 o mo) (ha : JA X H0 (a :: es) mr)
    (hbase : attributeBase o "extend" X.env (eval o X.env) = eval o X.env := by rfl)
    (hfew : ((backTo pos (starEach (a :: es) X.env)).all (fun x => !x.1) && (backToKw pos (keywordEach [] X.env)).all (fun x => x.1.isSome)
      && decide ((a :: es).length + ([] : List Keyword).length + (if ([] : List Keyword).isEmpty then 0 else 1) < 30)) = true := by rfl)
    (hline : (apos.endLine == pos.line) = true := by rfl) (hs : starEach (a :: es) X.env = (false, eval a X.env) :: starEach es X.env := by rfl) (hplain : (backTo pos (starEach es X.env)).any (·.1) = false := by rfl) :
    JE X H0 (.Call (.Attribute o "extend" apos) (a :: es) [] pos) (mLm nExtend mo mr) :=
  je_lm PySem.F.slot_list_extend PySem.F.type_list_extend (r := rExtend) (fun pins s σ H x xs v us Q I rx rs h => mt_extend pins s σ H x xs v us Q I rx rs h) opM_extend ho ha hbase hfew hline hs hplain
end
/-! ### list(d.values()) -/
section
variable {X : Cx} {H0 : Hp} {e : Expr} {te : TE} {me : NE} {p apos cpos pos : Pos}
def rValsL : V → Hp → VK → Prop := fun x H Q => ∃ (d : Addr) (kvs : List (Key × V)), x = .ref d ∧ Rd H d (.dK kvs) ∧ ∀ q, H q = none → Q (.ref q) (upd H q (.lst (kvs.map fun kv => kv.2)))
omit [TabList] in
theorem vals_at {kvs : List (Key × V)} {vs : List (Key × Value)} (rel : KV kvs vs) {acc : List Value} (hl : acc.length = kvs.length) (h : ∀ (j : Nat) (v : Value), acc[j]? = some v → ∃ k : Key, vs[j]? = some (k, v)) : Vals (kvs.map fun kv => kv.2) acc := by
  have e : acc = vs.map fun q => q.2 := by
    apply List.ext_getElem?
    intro j
    rw [List.getElem?_map]
    cases q : acc[j]? with
    | none =>
      have : vs.length ≤ j := by rw [← rel.length, ← hl]; exact List.getElem?_eq_none_iff.mp q
      rw [List.getElem?_eq_none this]; rfl
    | some v =>
      obtain ⟨k, ek⟩ := h j v q
      rw [ek]; rfl
  rw [e]
  clear e h hl
  unfold KV at rel
  induction rel with
  | nil => exact .nil
  | cons h _ ih => exact .cons h.2 ih
omit [TabList] in
theorem pe_listVals (hc : X.calm = true) (he : PE X e te) (hg : Gl X "list") (hm : X.mg "list" = none) (hv : bootBuiltins "list" = some (.type "list")) (hbase : attributeBase e "values" X.env (eval e X.env) = eval e X.env := by rfl) (hline : (apos.endLine == cpos.line) = true := by rfl)
    (hs : starEach [.Call (.Attribute e "values" apos) [] [] cpos] X.env = (false, eval (.Call (.Attribute e "values" apos) [] [] cpos) X.env) :: starEach [] X.env := by rfl) :
    PE X (.Call (.Name "list" p) [.Call (.Attribute e "values" apos) [] [] cpos] [] pos) (fun σ H Q => te σ H fun x H1 => rValsL x H1 Q) := by
  refine ⟨fun pins s σ H Q I hq => ?_⟩
  refine wpAny_Call_Name_kw (ld_blt I hg hm hv ?_)
  refine PyProof.Rows.callWith_type1 ?_ hs rfl
  rw [hs]
  show wpAny _ _ (spliced ((false, eval (.Call (.Attribute e "values" apos) [] [] cpos) X.env) :: backTo pos (starEach [] X.env))) _ _ s
  refine Calls.spliced_cons ?_
  refine wpAny_Call_method (T := "dict") (id := "dict.values") hbase rfl hline PySem.F.plainAttrs_dict PySem.F.slot_dict_values PySem.F.type_dict_values (thn (he.run pins s σ H _ I hq) fun u s1 ⟨x, H1, I1, rx, d, kvs, ex, hd, q⟩ => ?_)
  subst ex
  obtain rfl : u = Value.ref d := rx
  obtain ⟨hz, hs0, vs, kv, hdo⟩ := dk_rd I1.hok hd
  obtain ⟨ep, hat⟩ := hdo.dictAt
  have lk : kvs.length = vs.length := Paired.length kv
  have I2 : Inv X pins σ H1 { s1 with heap := s1.heap.push { cls := .type "dict_values", data := .fields #[.ref d] } } := I1.kept (t' := s1.toks) fun b ob q => Heap.get?_push_of_some _ q
  refine ⟨hdo.typeIs, hdo.mapOf.noDict, ?_⟩
  show wpAny _ _ (callWith cpos (.builtin "dict.values") [.ref d] [] []) _ X.xe s1
  refine method_meetsIn PySem.F.slot_dict_values PySem.F.entry_dict_values rfl (PySem.evalArgs_none ⟨rfl, hdo.typeIs, PySem.F.args_dict_values_1 _, _, meets_dict_values (mixKind X.prog X.w) d hs0, ⟨vs, hdo⟩, ?_⟩)
  refine Calls.spliced_nil ?_
  refine PySem.W.kdl_call (PySem.W.kdl_values (knd := mixKind X.prog X.w) (kvs := vs) (ep := ep)) (I1.ok.hd hc) ⟨⟨_, Heap.get?_push_size _ rfl, rfl, rfl⟩, hat.push _⟩ (by omega) fun h' tk acc c' hk hD hacc => ?_
  have rv : Vals (kvs.map fun kv => kv.2) acc.toList := vals_at kv (by rw [Array.length_toList, lk]; exact hacc.1) fun j v e => hacc.2 j v (by rw [← Array.getElem?_toList]; exact e)
  exact ⟨.ref _, upd H1 _ (.lst (kvs.map fun kv => kv.2)), I2.laid (t' := tk) hk (Nat.le_refl _)
    (show ObjOk X.prog X.w _ _ _ (.lst (kvs.map fun kv => kv.2)) from ⟨by rw [List.length_map]; exact hz, acc.toList, c', rv, by rw [Array.toArray_toList]; exact hD⟩), rfl, q _ (I2.hok.fresh (Nat.le_refl _))⟩
def mListVals (me : NE) : NE := fun e S Q => me e S fun x S1 => match dicOf S1 x with
  | some kvs => ∀ p, S1 p = none → Q (.ref p) (N.put S1 p (.lst (kvs.map fun kv => kv.2)))
  | none => False
theorem kvr_vals {K : PySem.W.Frag} {H : Hp} : ∀ {kvs : List (Key × D)} {ws : List (Key × V)}, KVR K H kvs ws → VRs K H (kvs.map fun kv => kv.2) (ws.map fun kv => kv.2)
  | _, _, .nil => .nil
  | _, _, .cons h l => .cons h.2 (kvr_vals l)
theorem je_listVals (hc : X.calm = true) (hm : X.mg "list" = none) (he : JE X H0 e me) (hg : Gl X "list" := by rfl) (hbase : attributeBase e "values" X.env (eval e X.env) = eval e X.env := by rfl) (hline : (apos.endLine == cpos.line) = true := by rfl)
    (hs : starEach [.Call (.Attribute e "values" apos) [] [] cpos] X.env = (false, eval (.Call (.Attribute e "values" apos) [] [] cpos) X.env) :: starEach [] X.env := by rfl) :
    JE X H0 (.Call (.Name "list" p) [.Call (.Attribute e "values" apos) [] [] cpos] [] pos) (mListVals me) := by
  refine (pe_listVals hc he hg hm (by kernel_rfl) hbase hline hs).imq fun σ H Q ⟨e, S, Q', A, m, k⟩ => ?_
  refine ⟨e, S, _, A, m, fun x S1 v H1 x1 s1 r m1 => ?_⟩
  split at m1
  · rename_i kvs e1
    obtain ⟨a, ws, rfl, rfl, hr, rk⟩ := dicOf_ok s1 r e1
    exact ⟨a, ws, rfl, hr, fun p np => k _ _ _ _ (x1.trans (.new np)) (lst_ok s1 np (kvr_vals rk)) (.ref p) (m1 p (s1.fresh np))⟩
  · exact m1.elim
end
/-! ### lists of lists are compared -/
def pyTs (S : Sto) : List D → Option (List PyData)
  | [] => some []
  | d :: r => match pyT S d, pyTs S r with
    | some a, some b => some (a :: b)
    | _, _ => none
def pyU (S : Sto) : D → Option PyData
  | .ref a => (match S a with
    | some (.lst ds) => (pyTs S ds).map .list
    | _ => none)
  | d => pyT S d
theorem pyTs_ok {K : PySem.W.Frag} {S : Sto} {H : Hp} (s : SR K S H) : ∀ {ds : List D} {vs : List V} {ps : List PyData}, VRs K H ds vs → pyTs S ds = some ps → DpAll K H vs ps
  | _, _, _, .nil, e => by simp only [pyTs, Option.some.injEq] at e; subst e; exact .nil
  | d :: r, _, _, .cons h t, e => by
    simp only [pyTs] at e
    split at e
    · rename_i a b e1 e2
      cases e
      exact .cons (pyT_ok s h e1) (pyTs_ok s t e2)
    · cases e
theorem pyU_ok {K : PySem.W.Frag} {S : Sto} {H : Hp} {d : D} {v : V} {p : PyData} (s : SR K S H) (r : VR K H d v) (e : pyU S d = some p) : Dp K H v p := by
  unfold pyU at e
  split at e
  · rename_i a
    cases r
    split at e
    · rename_i ds e1
      obtain ⟨vs, h1, r1⟩ := s.lst e1
      simp only [Option.map_eq_some_iff] at e
      obtain ⟨ps, e2, rfl⟩ := e
      exact .lst (SqL.of h1) (pyTs_ok s r1 e2)
    · cases e
  · exact pyT_ok s r e
def eqU (S : Sto) (x y : D) : Option Bool := match pyU S x, pyU S y with
  | some d, some e => if SeqAt.shaped d && SeqAt.shaped e then some (PyData.eqv d e) else none
  | _, _ => none
def nEqL : N2 := fun x y S Q => match eqU S x y with
  | some b => Q (.bl b) S
  | none => False
def nNeL : N2 := fun x y S Q => match eqU S x y with
  | some b => Q (.bl (!b)) S
  | none => False
theorem eqU_ok {K : PySem.W.Frag} {S : Sto} {H : Hp} {x y : D} {vx vy : V} {b : Bool} (s : SR K S H) (rx : VR K H x vx) (ry : VR K H y vy) (e : eqU S x y = some b) :
    ∃ d e, Dp K H vx d ∧ Dp K H vy e ∧ SeqAt.shaped d = true ∧ SeqAt.shaped e = true ∧ PyData.eqv d e = b := by
  unfold eqU at e
  split at e
  · rename_i d d' e1 e2
    split at e
    · rename_i h
      cases e
      rw [Bool.and_eq_true] at h
      exact ⟨d, d', pyU_ok s rx e1, pyU_ok s ry e2, h.1, h.2, rfl⟩
    · cases e
  · cases e
section
variable {X : Cx}
theorem opN_eqL (hu : X.A.units + 64 < cLine) : OpN X (compareOp .Eq) nEqL := by
  refine ⟨_, op_eqD hu, fun x y S Q vx vy H Q' s rx ry n k => ?_⟩
  unfold nEqL at n
  split at n
  · rename_i b e
    obtain ⟨d, d', h1, h2, h3, h4, h5⟩ := eqU_ok s rx ry e
    exact ⟨d, d', h1, h2, h3, h4, by rw [h5]; exact k _ _ _ _ (.refl H) s (.bl b) n⟩
  · exact n.elim
theorem opN_neL (hu : X.A.units + 64 < cLine) : OpN X (compareOp .NotEq) nNeL := by
  refine ⟨_, op_neD hu, fun x y S Q vx vy H Q' s rx ry n k => ?_⟩
  unfold nNeL at n
  split at n
  · rename_i b e
    obtain ⟨d, d', h1, h2, h3, h4, h5⟩ := eqU_ok s rx ry e
    exact ⟨d, d', h1, h2, h3, h4, by rw [h5]; exact k _ _ _ _ (.refl H) s (.bl _) n⟩
  · exact n.elim
end
end N

set_option Elab.async false
set_option linter.all false
set_option maxRecDepth 100000
set_option maxHeartbeats 4000000
namespace N
variable [TabList]
open PySem PySem.Spec PyProof.Rows L2
/-! ### a method with a default that fills up -/
theorem fn_bodyD {P : Program} {w : World} {K : PySem.W.Frag} {mg : Str → Option Value} {base : Heap} {x qual : Str} {params : Arguments} {body : List Stmt} {scope : Scope} {dvs : List V} {f : Addr} {fd : FuncData} {N ps : List Str} {k : Nat} {m : NW → NS}
    (F : FunD K x qual params body scope dvs [] f fd) (S : FnScope N ps scope)
    (hb : ∀ (cdv : Value) (A : Around) (outer : List PySem.Env) (s : Shared) (H : Hp) (E : XK) (w' : NW), Room k (A.deeper (envOfC qual scope s.heap.objs.size f cdv)) → NX (cxOf (L2.CX P w) P w K mg base N qual scope f cdv A outer s H E) H w' →
      JSs (cxOf (L2.CX P w) P w K mg base N qual scope f cdv A outer s H E) H body (m w')) :
    FnOk P w K mg base (L2.CX P w) (k + 1) f fd ps (lSp K ps.length (spOf N.length m)) := by
  refine F.ok S (fun vs H Q E h => h.len) (fun cdv A outer s H vs Q E hr h => ?_)
  obtain ⟨ds, S0, Q', E', h1, h2, h3, h3t, h4, h5, h6⟩ := h
  have tk0 : Takes (cxOf (L2.CX P w) P w K mg base N qual scope f cdv A outer s H E) (fun cls d _ H' => E cls d H') := takes_of rfl rfl rfl rfl
  have tk : Takes (cxOf (L2.CX P w) P w K mg base N qual scope f cdv A outer s H E) (lW K H fun c d _ S' => E' c d S') :=
    tk0.imp fun cls d σ H' ⟨c, e, S', ec, A', q⟩ => by
      rw [ec]; exact h6 c d S' H' A'.x A'.s q
  refine ⟨_, hb cdv A outer s H E _ hr ⟨tk, passes_of rfl, rfl, h3t⟩, ?_⟩
  refine ⟨startN N.length ds, S0, _, ⟨.refl H, ?_, h3⟩, h4, ⟨fun e S' σ H' x A' q => h5 _ _ _ _ x A'.s .non q, fun d S' v H' x s r q => h5 _ _ _ _ x s r q, fun _ _ _ _ _ _ q => q, fun _ _ _ _ _ _ q => q⟩⟩
  rw [startN_eq]
  unfold L2.start
  rw [h2.length]
  exact ER.app (ER.some h2) (ER.none _)
structure FnDf (P : Program) (w : World) (K : PySem.W.Frag) (mg : Str → Option Value) (base : Heap) (k : Nat) (f : Addr) (n : Nat) (sp : NSp) (i : Int) : Prop where
  ex : ∃ fd ps ds, ps.length = n ∧ FnOk P w K mg base (L2.CX P w) k f fd ps (lSp K n sp) ∧ Binds K fd ps ds ∧ Vals [.int i] ds
  kp : PySem.W.keepIn K (.ref f) = true
theorem FnDf.mono {P : Program} {w : World} {K : PySem.W.Frag} {mg : Str → Option Value} {base : Heap} {j k : Nat} {f : Addr} {n : Nat} {sp : NSp} {i : Int} (F : FnDf P w K mg base j f n sp i) (h : j ≤ k) : FnDf P w K mg base k f n sp i := by
  obtain ⟨fd, ps, ds, h1, h2, h3, h4⟩ := F.ex
  exact ⟨⟨fd, ps, ds, h1, h2.mono h, h3, h4⟩, F.kp⟩
def tMethE (X : Cx) (m : Str) (E : L2.St → XK) (i : Int) (ta : TE) (t : TA) : TE := fun σ H Q => ta σ H fun x H1 => ∃ (p C dx : Addr) (fs : List (Str × V)) (f : Addr) (fd : FuncData) (ps : List Str) (ds : List Value) (sp : Sp) (k : Nat), x = .ref p ∧ H1 p = some (.ins C dx fs) ∧ fs.lookup m = none ∧
  Cls X.K C ∧ Meth X.K C m f ∧ FnOk X.prog X.w X.K X.mg X.base (L2.CX X.prog X.w) k f fd ps sp ∧ (Binds X.K fd ps ds ∧ Vals [.int i] ds) ∧ Room k X.A ∧ t σ H1 fun vs H2 => sp (x :: vs ++ [.int i]) H2 Q (E σ)
section
variable {X : Cx} {H0 : Hp} {w : NW} {a b c o : Expr} {ma mb mo : NE} {pos : Pos} {es : List Expr} {mr : NA} {k n : Nat} {f : Addr} {sp : NSp} {i : Int}
theorem pe_methE {m : Str} {apos : Pos} {E : L2.St → XK} {ta : TE} {t : TA} {pl : Sem Bool} (he : PE X o ta) (hx : ∀ σ, PassesAt (L2.CX X.prog X.w) X σ (E σ)) (ha : PA X (a :: es) t)
    (hst : starEach (a :: es) X.env = (false, eval a X.env) :: starEach es X.env := by rfl) (hpl : (backTo pos (starEach es X.env)).any (·.1) = false := by rfl)
    (ht : eval (.Call (.Attribute o m apos) (a :: es) [] pos) X.env = (do
      let ov ← eval o X.env
      standAt apos.atName
      let (f, first) ← holding [ov] (getMethod ov m pl)
      callWith pos f first (backTo pos (starEach (a :: es) X.env)) (backToKw pos (keywordEach [] X.env))) := by rfl) :
    PE X (.Call (.Attribute o m apos) (a :: es) [] pos) (tMethE X m E i ta t) := by
  refine ⟨fun pins s σ H Q I h => ?_⟩
  refine PySem.W.methodCall_KW (pl := pl) (thn (he.run pins s σ H _ I h) fun u s1 ⟨x, H1, I1, rx, p, C, dx, fs, f, fd, ps, ds, sp, k, ex, ea, l, cl, hm, F, hb, hr, q⟩ => ?_) ht
  subst ex
  obtain rfl : u = Value.ref p := rx
  refine getmeth_ok I1 ea cl hm l ?_
  refine PySem.W.callWith_K (first := [.ref p]) (h₀ := X.base) I.ok.mod.kin hm.kp (thn (ha.run pos pins s1 σ H1 _ I1 q) fun us s2 ⟨vs, H2, I2, r, q2⟩ => ⟨I2.kIn, ?_⟩) hst hpl
  exact run_fnSD (us := .ref p :: us) (vs := .ref p :: vs) F hr hb.1 hb.2 (hx σ) I2 (.cons rfl r) q2
structure MtKD (P : Program) (w : World) (K : PySem.W.Frag) (mg : Str → Option Value) (base : Heap) (m : Str) (mt : MT) (i : Int) (k : Nat) : Prop where
  ok : ∀ c n sp, mt c = some (n, sp) → ∃ f, Meth K (He.ga K c) m f ∧ FnDf P w K mg base k f n sp i
/-- a call that leaves the last parameter to its default -/
def mMethD (m : Str) (mt : MT) (i : Int) (w : NW) (mo : NE) (mr : NA) : NE := fun e S Q => mo e S fun x S1 => match x with
  | .ref p => (match S1 p with
    | some (.ins c fs) => fs.lookup m = none ∧ (match mt c with
      | some (n, sp) => mr e S1 fun ds S2 => ds.length + 2 = n ∧ sp (.ref p :: (ds ++ [.int i])) S2 Q fun c d S3 => w c d e S3
      | none => False)
    | _ => False)
  | _ => False
theorem VRs.app1 {K : PySem.W.Frag} {H : Hp} {i : Int} : ∀ {ds : List D} {vs : List V}, VRs K H ds vs → VRs K H (ds ++ [.int i]) (vs ++ [.int i])
  | _, _, .nil => .cons (.int i) .nil
  | _, _, .cons h t => .cons h (VRs.app1 t)
theorem je_methKD {m : Str} {mt : MT} {apos : Pos} {pl : Sem Bool} (cx : NX X H0 w) (hmt : MtKD X.prog X.w X.K X.mg X.base m mt i k) (hr : Room k X.A) (he : JE X H0 o mo) (ha : JA X H0 (a :: es) mr)
    (hst : starEach (a :: es) X.env = (false, eval a X.env) :: starEach es X.env := by rfl) (hpl : (backTo pos (starEach es X.env)).any (·.1) = false := by rfl)
    (ht : eval (.Call (.Attribute o m apos) (a :: es) [] pos) X.env = (do
      let ov ← eval o X.env
      standAt apos.atName
      let (f, first) ← holding [ov] (getMethod ov m pl)
      callWith pos f first (backTo pos (starEach (a :: es) X.env)) (backToKw pos (keywordEach [] X.env))) := by rfl) :
    JE X H0 (.Call (.Attribute o m apos) (a :: es) [] pos) (mMethD m mt i w mo mr) := by
  refine (pe_methE (pl := pl) (i := i) he (fun σ => passAt cx.tk σ) ha hst hpl ht).imq fun σ H Q h => ?_
  obtain ⟨e, S, Q', A, h, kk⟩ := h
  refine ⟨e, S, _, A, h, fun x S1 vx H1 x1 s1 rx n1 => ?_⟩
  split at n1
  · rename_i p
    cases rx
    split at n1
    · rename_i c fs e1
      obtain ⟨dx, ws, h1, r1, co⟩ := s1.ins e1
      obtain ⟨n1, n2⟩ := n1
      split at n2
      · rename_i n sp emt
        obtain ⟨f, hm, F⟩ := hmt.ok c n sp emt
        obtain ⟨fd, ps, dv, h3, h4, h5, h6⟩ := F.ex
        refine ⟨p, _, dx, ws, f, fd, ps, dv, _, k, rfl, h1, (KVR.look (f := m) r1).2 n1, co.cl, hm, h4, ⟨h5, h6⟩, hr, ?_⟩
        refine ⟨e, S1, _, A.next x1 s1, n2, fun ds S2 vs H2 x2 s2 rs q => ?_⟩
        exact sp_ok cx (A.next (x1.trans x2) s2) (x1.trans x2) (.cons (.ref p) (VRs.app1 rs)) (by rw [← q.1]; simp) q.2 kk
      · exact n2.elim
    · exact n1.elim
  · exact n1.elim
end
/-! ### deep things are compared: lists and tuples of lists -/
def pyAll (f : D → Option PyData) : List D → Option (List PyData)
  | [] => some []
  | d :: r => match f d, pyAll f r with
    | some a, some b => some (a :: b)
    | _, _ => none
def pyG (S : Sto) : Nat → D → Option PyData
  | 0, d => pyD d
  | n + 1, .ref a => (match S a with
    | some (.lst ds) => (pyAll (pyG S n) ds).map .list
    | _ => none)
  | n + 1, .tup ds => (pyAll (pyG S n) ds).map .tuple
  | _ + 1, d => pyD d
theorem pyAll_ok {K : PySem.W.Frag} {H : Hp} {f : D → Option PyData} (hf : ∀ d v p, VR K H d v → f d = some p → Dp K H v p) : ∀ {ds : List D} {vs : List V} {ps : List PyData}, VRs K H ds vs → pyAll f ds = some ps → DpAll K H vs ps
  | _, _, _, .nil, e => by simp only [pyAll, Option.some.injEq] at e; subst e; exact .nil
  | d :: r, _, _, .cons h t, e => by
    simp only [pyAll] at e
    split at e
    · rename_i a b e1 e2
      cases e
      exact .cons (hf _ _ _ h e1) (pyAll_ok hf t e2)
    · cases e
theorem pyG_ok {K : PySem.W.Frag} {S : Sto} {H : Hp} (s : SR K S H) : ∀ {n : Nat} {d : D} {v : V} {p : PyData}, VR K H d v → pyG S n d = some p → Dp K H v p := by
  intro n
  induction n with
  | zero =>
    intro d v p r e
    exact pyD_ok r e
  | succ n ih =>
    intro d v p r e
    cases d with
    | ref a =>
      simp only [pyG] at e
      cases r
      split at e
      · rename_i ds e1
        obtain ⟨vs, h1, r1⟩ := s.lst e1
        simp only [Option.map_eq_some_iff] at e
        obtain ⟨ps, e2, rfl⟩ := e
        exact .lst (SqL.of h1) (pyAll_ok (fun d v p r e => ih r e) r1 e2)
      · cases e
    | tup ds =>
      simp only [pyG, Option.map_eq_some_iff] at e
      obtain ⟨ps, e2, rfl⟩ := e
      cases r with
      | tup t r => exact .tup t.sq (pyAll_ok (fun d v p r e => ih r e) r e2)
    | _ => exact pyD_ok r e
def eqG (S : Sto) (x y : D) : Option Bool := match pyG S 3 x, pyG S 3 y with
  | some d, some e => if SeqAt.shaped d && SeqAt.shaped e then some (PyData.eqv d e) else none
  | _, _ => none
def nEqG : N2 := fun x y S Q => match eqG S x y with
  | some b => Q (.bl b) S
  | none => False
def nNeG : N2 := fun x y S Q => match eqG S x y with
  | some b => Q (.bl (!b)) S
  | none => False
theorem eqG_ok {K : PySem.W.Frag} {S : Sto} {H : Hp} {x y : D} {vx vy : V} {b : Bool} (s : SR K S H) (rx : VR K H x vx) (ry : VR K H y vy) (e : eqG S x y = some b) :
    ∃ d e, Dp K H vx d ∧ Dp K H vy e ∧ SeqAt.shaped d = true ∧ SeqAt.shaped e = true ∧ PyData.eqv d e = b := by
  unfold eqG at e
  split at e
  · rename_i d d' e1 e2
    split at e
    · rename_i h
      cases e
      rw [Bool.and_eq_true] at h
      exact ⟨d, d', pyG_ok s rx e1, pyG_ok s ry e2, h.1, h.2, rfl⟩
    · cases e
  · cases e
section
variable {X : Cx}
theorem opN_eqG (hu : X.A.units + 64 < cLine) : OpN X (compareOp .Eq) nEqG := by
  refine ⟨_, op_eqD hu, fun x y S Q vx vy H Q' s rx ry n k => ?_⟩
  unfold nEqG at n
  split at n
  · rename_i b e
    obtain ⟨d, d', h1, h2, h3, h4, h5⟩ := eqG_ok s rx ry e
    exact ⟨d, d', h1, h2, h3, h4, by rw [h5]; exact k _ _ _ _ (.refl H) s (.bl b) n⟩
  · exact n.elim
theorem opN_neG (hu : X.A.units + 64 < cLine) : OpN X (compareOp .NotEq) nNeG := by
  refine ⟨_, op_neD hu, fun x y S Q vx vy H Q' s rx ry n k => ?_⟩
  unfold nNeG at n
  split at n
  · rename_i b e
    obtain ⟨d, d', h1, h2, h3, h4, h5⟩ := eqG_ok s rx ry e
    exact ⟨d, d', h1, h2, h3, h4, by rw [h5]; exact k _ _ _ _ (.refl H) s (.bl _) n⟩
  · exact n.elim
end
/-! ### x or y as a value, by the truth of x -/
section
variable {X : Cx} {H0 : Hp} {a b : Expr} {ma mb : NE} {rest : List Expr} {pos : Pos}
def truD : D → Option Bool
  | .non => some false
  | .bl b => some b
  | .int i => some (i != 0)
  | _ => none
theorem truD_ok {K : PySem.W.Frag} {H : Hp} {d : D} {v : V} {k : Bool} (r : VR K H d v) (e : truD d = some k) : TruV K v H k := by
  cases d with
  | non => cases r; cases e; rfl
  | bl b => cases r; cases e; rfl
  | int i => cases r; cases e; rfl
  | _ => cases e
def mOrT (m n : NE) : NE := fun e S Q => m e S fun d S1 => match truD d with
  | some true => Q d S1
  | some false => n e S1 Q
  | none => False
theorem je_orT (ha : JE X H0 a ma) (hb : JE X H0 (.BoolOp .Or (b :: rest) pos) mb) : JE X H0 (.BoolOp .Or (a :: b :: rest) pos) (mOrT ma mb) := by
  refine (pe_orT ha hb).imq fun σ H Q h => ?_
  obtain ⟨e, S, Q', A, m, k⟩ := h
  refine ⟨e, S, _, A, m, fun d S1 v H1 x1 s1 r q => ?_⟩
  split at q
  · rename_i e1
    exact ⟨true, truD_ok r e1, iteT (k _ S1 _ H1 x1 s1 r q)⟩
  · rename_i e1
    exact ⟨false, truD_ok r e1, iteF ⟨e, S1, Q', A.next x1 s1, q, fun d S' v H' x2 s2 => k d S' v H' (x1.trans x2) s2⟩⟩
  · exact q.elim
end
end N

set_option Elab.async false
set_option linter.all false
set_option maxRecDepth 100000
set_option maxHeartbeats 4000000
namespace N
variable [TabList]
open PySem PySem.Spec PyProof.Rows L2
/-! ### a text or a list, so many times -/
section
variable {X : Cx}
omit [TabList] in
theorem op_mul_str : OpR X (binaryOp .Mult) (fun x y H Q => ∃ z i, x = .str z ∧ y = .int i ∧ (0 ≤ i ∧ i ≤ 1000 ∧ z.length ≤ 1000) ∧ Q (.str (Txt.mul z i)) H) := by
  intro pins s σ H x y v u Q I rx ry h
  obtain ⟨z, i, rfl, rfl, ⟨i0, i1, hz⟩, q⟩ := h
  obtain ⟨t, rfl⟩ := rx
  obtain ⟨t', rfl⟩ := ry
  refine SB.mul ⟨?_, fun n1 _ => ?_, fun n1 _ => ?_⟩ fun t' k => ⟨.str (Txt.mul z i), H, I.tok _, ⟨_, rfl⟩, q⟩
  · have a : decide (i < -(2 ^ 63 : Int)) = false := decide_eq_false (by omega)
    have b : decide (i ≥ (2 ^ 63 : Int)) = false := decide_eq_false (by omega)
    rw [a, b]; rfl
  · have h1 : (1000 : Int) ≤ (2 ^ 63 - 1) / i := by
      rw [Int.le_ediv_iff_mul_le (by omega)]
      omega
    omega
  · unfold Builtin.Str.tooLong
    have h1 : z.length * i.toNat ≤ 1000 * 1000 := Nat.mul_le_mul hz (by omega)
    have h2 : 1000 * 1000 ≤ sizeLine := by decide
    exact decide_eq_false (by omega)
def nMulS : N2 := fun x y S Q => match x, y with
  | .str z, .int i => (0 ≤ i ∧ i ≤ 1000 ∧ z.length ≤ 1000) ∧ Q (.str (Txt.mul z i)) S
  | _, _ => False
theorem opN_mulS : OpN X (binaryOp .Mult) nMulS := by
  refine ⟨_, op_mul_str, fun x y S Q vx vy H Q' s rx ry n k => ?_⟩
  unfold nMulS at n
  split at n
  · rename_i z i
    cases rx; cases ry
    exact ⟨z, i, rfl, rfl, n.1, k _ _ _ _ (.refl H) s (.str _) n.2⟩
  · exact n.elim
theorem VRs.rep {K : PySem.W.Frag} {H : Hp} {ds : List D} {vs : List V} (h : VRs K H ds vs) : ∀ n : Nat, VRs K H (List.replicate n ds).flatten (List.replicate n vs).flatten
  | 0 => .nil
  | n + 1 => by
    rw [List.replicate_succ, List.replicate_succ, List.flatten_cons, List.flatten_cons]
    exact h.append (VRs.rep h n)
def nMulL : N2 := fun x y S Q => match x, y with
  | .ref a, .int i => (match S a with
    | some (.lst xs) => (0 ≤ i ∧ i ≤ 1000 ∧ xs.length ≤ 1000) ∧ ∀ p, S p = none → Q (.ref p) (N.put S p (.lst (List.replicate i.toNat xs).flatten))
    | _ => False)
  | _, _ => False
theorem opN_mulL : OpN X (binaryOp .Mult) nMulL := by
  refine ⟨_, op_rep, fun x y S Q vx vy H Q' s rx ry n k => ?_⟩
  unfold nMulL at n
  split at n
  · rename_i a i
    cases rx; cases ry
    split at n
    · rename_i xs e1
      obtain ⟨vs, h1, r1⟩ := s.lst e1
      obtain ⟨⟨i0, i1, hz⟩, q⟩ := n
      have l1 := r1.length
      have h2 : 1000 * 1000 ≤ sizeLine := by decide
      have h3 : vs.length * i.toNat ≤ 1000 * 1000 := Nat.mul_le_mul (by omega) (by omega)
      refine ⟨a, i, vs, rfl, rfl, h1, by omega, by omega, by omega, fun p np => ?_⟩
      exact k _ _ _ _ (.new np) (lst_ok s np (r1.rep i.toNat)) (.ref p) (q p (s.fresh np))
    · exact n.elim
  · exact n.elim
end
end N

set_option Elab.async false
set_option linter.all false
set_option maxRecDepth 100000
set_option maxHeartbeats 4000000
namespace N
variable [TabList]
open PySem PySem.Spec PyProof.Rows L2
/-! ### zip over two of any kind: a list, a tuple, a text's signs -/
/-- one of the two that are zipped: what it reads, and its iterator -/
structure Sd (P : Program) (w : World) (K : PySem.W.Frag) (rd : Hp → List V → Prop) (j : Addr) (fs : List Addr) (tn : Nat → Heap → Prop) : Prop where
  same : ∀ {X : Cx} {pins : List (Addr × Obj)} {σ : L2.St} {H : Hp} {s : Shared} {xs ys : List V}, X.K = K → Inv X pins σ H s → rd H xs → rd H ys → xs = ys
  isobj : ∀ i h, tn i h → ∃ o, h.get? j = some o ∧ ∀ v, o.data ≠ .cell v
  stays : ∀ i h h', tn i h → (∀ o, h.get? j = some o → h'.get? j = some o) → tn i h'
  draw : ∀ {X : Cx} {pins : List (Addr × Obj)} {σ : L2.St} {H : Hp} {s : Shared} {xs : List V} (i : Nat), X.K = K → Inv X pins σ H s → rd H xs → tn i s.heap →
    ∃ (Pv : Nat → Value → Prop) (T : Nat → Heap → Prop), (∀ A : Around, A.handled = none → Draws P w A j fs xs.length Pv T) ∧ T i s.heap ∧ (∀ i h, T i h → tn i h) ∧ ∀ i v, Pv i v → ∃ x, xs[i]? = some x ∧ RelV x v
/-- a value that can be walked, with what is read -/
inductive Kd (K : PySem.W.Frag) (H : Hp) : V → (Hp → List V → Prop) → Prop
  | lst (a : Addr) (xs : List V) : SqL K H a xs → Kd K H (.ref a) fun G ys => SqL K G a ys
  | tup (a : Addr) (xs : List V) : SqT K H a xs → Kd K H (.ref a) fun G ys => SqT K G a ys
  | str (z : Str) : Kd K H (.str z) fun _ ys => ys = z.cps.toList.map fun c => V.str ⟨#[c]⟩
omit [TabList] in
theorem zw_at {xs : List V} {us : List Value} (r : Vals xs us) {i : Nat} {v : Value} (h : us.toArray[i]? = some v) : ∃ x, xs[i]? = some x ∧ RelV x v := by
  have h1 : us[i]? = some v := by simpa using h
  have hl : i < us.length := by
    rcases Nat.lt_or_ge i us.length with q | q
    · exact q
    · rw [List.getElem?_eq_none q] at h1; cases h1
  have hx : i < xs.length := by rw [r.length]; exact hl
  obtain ⟨u, hu, ru⟩ := r.get (List.getElem?_eq_getElem hx)
  rw [hu] at h1
  cases h1
  exact ⟨_, List.getElem?_eq_getElem hx, ru⟩
omit [TabList] in
theorem kd_begins {X : Cx} {pins : List (Addr × Obj)} {σ : L2.St} {H : Hp} {s : Shared} {x : V} {u : Value} {rd : Hp → List V → Prop} (I : Inv X pins σ H s) (k : Kd X.K H x rd) (r : RelV x u) :
    ∃ (o : Obj) (B : Heap → Prop) (f : List Addr) (tn : Addr → Nat → Heap → Prop), Begins u o B ∧ B s.heap ∧ (∀ c ∈ f, c < s.heap.objs.size) ∧ (∀ j h, h.get? j = some o → tn j 0 h) ∧ ∀ j, j ∉ f → Sd X.prog X.w X.K rd j (j :: f) (tn j) := by
  cases k with
  | lst a xs hq =>
    cases r
    obtain ⟨its, rv, p, hz⟩ := I.list hq
    refine ⟨_, _, [a], fun j i h => h.IsListIter j a i, begins_list a its.toArray, p.isList, fun c hc => ?_, fun j h e => ⟨_, e, rfl, rfl⟩, fun j hj => ⟨?_, ?_, ?_, ?_⟩⟩
    · have e : c = a := by simpa using hc
      rw [e]; exact p.lt
    · intro Y ps τ G t ys zs hK J h1 h2
      rw [← hK] at h1 h2
      exact J.list_inj h1 h2
    · rintro i h ⟨o, e, c, d⟩
      exact ⟨o, e, fun v z => by rw [d] at z; cases z⟩
    · exact fun i h h' st k => Heap.IsListIter.at st k
    · intro Y ps τ G t ys i hK J h1 st
      obtain ⟨us, rs, ps, _⟩ := J.list (by rw [hK]; exact h1)
      have ha : a ≠ j := fun e => hj (by simp [e])
      have el : ys.length = us.toArray.size := by rw [rs.length, List.size_toArray]
      refine ⟨fun i v => us.toArray[i]? = some v, fun i h => h.IsListIter j a i ∧ h.IsList a us.toArray, fun A hA => by rw [el]; exact Draws.list hA j a ha us.toArray, ⟨st, ps.isList⟩, fun i h q => q.1, fun i v q => zw_at rs q⟩
  | tup a xs hq =>
    cases r
    obtain ⟨its, rv, p, hz⟩ := I.tuple hq
    refine ⟨_, _, [a], fun j i h => h.IsTupleIter j a i, begins_tuple a its.toArray, (show s.heap.IsTuple a its.toArray from p), fun c hc => ?_, fun j h e => ⟨_, e, rfl, rfl⟩, fun j hj => ⟨?_, ?_, ?_, ?_⟩⟩
    · have e : c = a := by simpa using hc
      obtain ⟨o, ho, _⟩ := id p
      rw [e]; exact Heap.lt_size ho
    · intro Y ps τ G t ys zs hK J h1 h2
      rw [← hK] at h1 h2
      exact J.tuple_inj h1 h2
    · rintro i h ⟨o, e, c, d⟩
      exact ⟨o, e, fun v z => by rw [d] at z; cases z⟩
    · exact fun i h h' st k => Heap.IsTupleIter.at st k
    · intro Y ps τ G t ys i hK J h1 st
      obtain ⟨us, rs, ps, _⟩ := J.tuple (by rw [hK]; exact h1)
      have ha : a ≠ j := fun e => hj (by simp [e])
      have el : ys.length = us.toArray.size := by rw [rs.length, List.size_toArray]
      refine ⟨fun i v => us.toArray[i]? = some v, fun i h => h.IsTupleIter j a i ∧ h.IsTuple a us.toArray, fun A hA => by rw [el]; exact Draws.tuple hA j a ha us.toArray, ⟨st, (show t.heap.IsTuple a us.toArray from ps)⟩, fun i h q => q.1, fun i v q => zw_at rs q⟩
  | str z =>
    obtain ⟨tk, rfl⟩ := r
    refine ⟨_, _, [], fun j i h => h.IsStrIter j (strIterType z) z tk i, begins_text z tk, True.intro, (fun c hc => by cases hc), fun j h e => ⟨_, e, rfl, rfl⟩, fun j hj => ⟨?_, ?_, ?_, ?_⟩⟩
    · intro Y ps τ G t ys zs hK J h1 h2
      rw [h1, h2]
    · rintro i h ⟨o, e, c, d⟩
      exact ⟨o, e, fun v z => by rw [d] at z; cases z⟩
    · rintro i h h' ⟨o, e, r⟩ k
      exact ⟨o, k o e, r⟩
    · intro Y ps τ G t ys i hK J h1 st
      subst h1
      refine ⟨fun i v => ∃ c u, z.cps[i]? = some c ∧ v = .str ⟨#[c]⟩ u, fun i h => h.IsStrIter j (strIterType z) z tk i, fun A hA => by rw [List.length_map, Array.length_toList]; exact Draws.text hA j z tk, st, fun i h q => q, fun i v q => ?_⟩
      obtain ⟨c, t', e, rfl⟩ := q
      exact ⟨.str ⟨#[c]⟩, by rw [List.getElem?_map]; simp [e], ⟨t', rfl⟩⟩
/-- what two read, side by side, the items in new pairs -/
def Itw (r1 r2 : Hp → List V → Prop) : It :=
  ⟨fun i H => ∃ (xs ys : List V), r1 H xs ∧ r2 H ys ∧ i < xs.length ∧ i < ys.length,
    fun i H v H' => ∃ T x y, v = .ref T ∧ H T = none ∧ H' = upd H T (.tup [x, y]) ∧ (∀ xs, r1 H xs → xs[i]? = some x) ∧ ∀ ys, r2 H ys → ys[i]? = some y,
    fun i H => ∃ (xs ys : List V), r1 H xs ∧ r2 H ys ∧ i = min xs.length ys.length⟩
omit [TabList] in
theorem turn_zipW {P : Program} {w : World} {K : PySem.W.Frag} {elts : List Expr} {kk : Nat} {tpos : Pos} {r1 r2 : Hp → List V → Prop} {z TI TO j1 j2 : Addr} {f1 f2 : List Addr} {t1 t2 : Nat → Heap → Prop}
    (D : ZipSep2 z TI TO j1 j2 f1 f2) (S1 : Sd P w K r1 j1 f1 t1) (S2 : Sd P w K r2 j2 f2 t2) :
    Turn P w K (.Tuple elts kk tpos) (Itw r1 r2) [z, TI, TO, j1, j2] z (fun i h => IsZip h z TI TO .none ∧ IsTupOf2 h TI (.ref j1) (.ref j2) ∧ (∃ x y, IsTupOf2 h TO x y) ∧ t1 i h ∧ t2 i h) where
  mem := by simp
  obj := fun i h st c hc => by
    obtain ⟨hz, hTI, ⟨x, y, hTO⟩, s1, s2⟩ := st
    have cs : c = z ∨ c = TI ∨ c = TO ∨ c = j1 ∨ c = j2 := by simpa using hc
    rcases cs with q | q | q | q | q <;> subst q
    · exact ⟨_, hz, fun v q => nomatch q⟩
    · exact ⟨_, hTI, fun v q => nomatch q⟩
    · exact ⟨_, hTO, fun v q => nomatch q⟩
    · exact S1.isobj i h s1
    · exact S2.isobj i h s2
  keep := fun i h h' st k => by
    obtain ⟨hz, hTI, ⟨x, y, hTO⟩, s1, s2⟩ := st
    exact ⟨k z (by simp) _ hz, k TI (by simp) _ hTI, ⟨x, y, k TO (by simp) _ hTO⟩, S1.stays i h h' s1 (k j1 (by simp)), S2.stays i h h' s2 (k j2 (by simp))⟩
  item := by
    intro X hP hw hK hc i pins s σ H E I hf st hg
    subst hP hw hK
    obtain ⟨hz, hTI, ⟨x0, y0, hTO⟩, s1, s2⟩ := st
    obtain ⟨xs, ys, qx, qy, lx, ly⟩ := hg
    obtain ⟨P1, T1, D1, u1, b1, v1⟩ := S1.draw i rfl I qx s1
    obtain ⟨P2, T2, D2, u2, b2, v2⟩ := S2.draw i rfl I qy s2
    have hh : X.A.in1.handled = none := I.ok.hd hc
    have zlt : z < s.heap.objs.size := Heap.lt_size hz
    refine wpAny_pyNext_zipD2_item D (D1 _ hh) (D2 _ hh) hz hTI hTO u1 u2 lx ly fun x1 x2 h' tk p1 p2 z' TO' n1 n2 hT hsz hk => ?_
    obtain ⟨x, hx, rx⟩ := v1 i x1 p1
    obtain ⟨y, hy, ry⟩ := v2 i x2 p2
    refine ⟨_, rfl, wpAny_letOwnedTupleGo_zip (s := { s with heap := h', toks := tk }) z' fun h'' z'' sb => ?_⟩
    have up : ∀ b o, b ∉ [z, TI, TO, j1, j2] → s.heap.get? b = some o → h''.get? b = some o := fun b o hb e =>
      (sb.2 b fun q => hb (by simp [q])).trans (hk b o (fun q => hb (by simp [q])) (fun q => hb (by simp [q])) (fun q => hb (by simp [q])) (fun q => hb (by simp [q])) e)
    have hT2 : IsTupOf2 h'' s.heap.objs.size x1 x2 := (sb.2 _ (Nat.ne_of_gt zlt)).trans hT
    have I1 : Inv X pins σ (upd H s.heap.objs.size (.tup [x, y])) { s with heap := h'', toks := tk } :=
      I.turnedNew up hf (Nat.le_refl _) ⟨by show 2 ≤ sizeLine; decide, [x1, x2], .cons rx (.cons ry .nil), ⟨_, hT2, rfl, _, rfl⟩⟩
    refine ⟨.ref s.heap.objs.size, _, I1, rfl, ⟨_, x, y, rfl, I.hok.fresh (Nat.le_refl _), rfl, fun l hl => ?_, fun l hl => ?_⟩, ⟨z'', ?_, ⟨x1, x2, ?_⟩, ?_, ?_⟩, fun c hcm => ?_⟩
    · rw [S1.same rfl I hl qx]; exact hx
    · rw [S2.same rfl I hl qy]; exact hy
    · exact (sb.2 _ D.TIz).trans (hk _ _ D.TIz D.TITO D.TIi1 D.TIi2 hTI)
    · exact (sb.2 _ D.TOz).trans TO'
    · exact S1.stays _ _ _ (b1 _ _ n1) fun o q => (sb.2 _ D.zi1.symm).trans q
    · exact S2.stays _ _ _ (b2 _ _ n2) fun o q => (sb.2 _ D.zi2.symm).trans q
    · have lt : c < s.heap.objs.size := by
        have cs : c = z ∨ c = TI ∨ c = TO ∨ c = j1 ∨ c = j2 := by simpa using hcm
        rcases cs with q | q | q | q | q <;> subst q
        · exact zlt
        · exact Heap.lt_size hTI
        · exact Heap.lt_size hTO
        · obtain ⟨_, e, _⟩ := S1.isobj _ _ s1; exact Heap.lt_size e
        · obtain ⟨_, e, _⟩ := S2.isobj _ _ s2; exact Heap.lt_size e
      rw [upd_ne (Nat.ne_of_lt lt)]
      exact (hf c hcm).1
  done := by
    intro X hP hw hK hc i pins s σ H E I hf st hg
    subst hP hw hK
    obtain ⟨hz, hTI, ⟨x0, y0, hTO⟩, s1, s2⟩ := st
    obtain ⟨xs, ys, qx, qy, e⟩ := hg
    obtain ⟨P1, T1, D1, u1, b1, v1⟩ := S1.draw i rfl I qx s1
    obtain ⟨P2, T2, D2, u2, b2, v2⟩ := S2.draw i rfl I qy s2
    have hh : X.A.in1.handled = none := I.ok.hd hc
    refine wpAny_pyNext_zipD2_end D (D1 _ hh) (D2 _ hh) hz hTI hTO u1 u2 (by omega) (by omega) (by omega) fun h' tk hk => ⟨rfl, ?_⟩
    exact I.turnedL (ch := [z, TI, TO, j1, j2]) (fun b o hb q => hk b o (fun e => hb (by simp [e])) (fun e => hb (by simp [e])) (fun e => hb (by simp [e])) (fun e => hb (by simp [e])) q) hf
  self := fun A i s Q E st h => wpAny_pyIter_zip st.1 h
omit [TabList] in
theorem sep5 (n : Nat) {f1 f2 : List Addr} (h1 : ∀ c ∈ f1, c < n) (h2 : ∀ c ∈ f2, c < n) : ZipSep2 (n + 4) (n + 2) (n + 3) n (n + 1) (n :: f1) ((n + 1) :: f2) := by
  have a1 : ∀ c, n ≤ c → c ∉ f1 := fun c hc hm => absurd (h1 c hm) (Nat.not_lt.mpr hc)
  have a2 : ∀ c, n ≤ c → c ∉ f2 := fun c hc hm => absurd (h2 c hm) (Nat.not_lt.mpr hc)
  have nn : ∀ {a b : Nat}, (a : Nat) ≠ b → ((a : Addr) : Addr) ≠ b := fun h => h
  constructor
  all_goals first
    | exact List.mem_cons_self ..
    | (refine nn ?_; omega)
    | (rw [List.mem_cons]
       rintro (e | e)
       · revert e; exact nn (by omega)
       · first | exact a1 _ (by omega) e | exact a2 _ (by omega) e | exact a1 _ (Nat.le_add_right _ _) e | exact a2 _ (Nat.le_refl _) e | exact a2 _ (Nat.le_add_right _ _) e)
def iZipWV (K : PySem.W.Frag) (ta : TA) : TI := fun σ H R => ta σ H fun vs H1 => ∃ x y r1 r2, vs = [x, y] ∧ Kd K H1 x r1 ∧ Kd K H1 y r2 ∧ R (Itw r1 r2) H1
omit [TabList] in
theorem pi_zipW {X : Cx} {e e2 : Expr} {ta : TA} {p pos tpos : Pos} {elts : List Expr} {kk : Nat} (hg : Gl X "zip") (hm : X.mg "zip" = none) (ha : PA X [e, e2] ta)
    (hs : starEach [e, e2] X.env = (false, eval e X.env) :: starEach [e2] X.env := by rfl) (hpl : (backTo pos (starEach [e2] X.env)).any (·.1) = false := by rfl) :
    PI X (.Tuple elts kk tpos) (.Call (.Name "zip" p) [e, e2] [] pos) (iZipWV X.K ta) := by
  refine ⟨fun pins s σ H R I h => ?_⟩
  refine Call_ (ld_blt I hg hm PyProof.Rows.boot_zip (PyProof.Rows.callWith_type1 (thn (ha.run pos pins s σ H _ I h) fun us t ⟨vs, H1, I1, rr, x, y, r1, r2, ev, k1, k2, q⟩ => ?_) hs hpl))
  subst ev
  obtain ⟨u, v, rfl, ru, rv⟩ : ∃ u v, us = [u, v] ∧ RelV x u ∧ RelV y v := by
    cases rr with
    | cons a rr =>
      cases rr with
      | cons b rr =>
        cases rr
        exact ⟨_, _, rfl, a, b⟩
  obtain ⟨o1, B1, f1, t1, g1, c1, l1, z1, d1⟩ := kd_begins I1 k1 ru
  obtain ⟨o2, B2, f2, t2, g2, c2, l2, z2, d2⟩ := kd_begins I1 k2 rv
  refine zip_begins2 g1 g2 c1 c2 fun h' hz hTI hTO e1 e2 hsz hk => wpAny_pyIter_zip hz ?_
  have I2 : Inv X pins σ H1 { t with heap := h' } := I1.kept (t' := t.toks) hk
  refine ⟨t.heap.objs.size + 4, [t.heap.objs.size + 4, t.heap.objs.size + 2, t.heap.objs.size + 3, t.heap.objs.size, t.heap.objs.size + 1], _, _, H1, rfl, I2,
    turn_zipW (sep5 t.heap.objs.size l1 l2) (d1 _ fun m => absurd (l1 _ m) (Nat.lt_irrefl _)) (d2 _ fun m => absurd (l2 _ m) (Nat.not_lt.mpr (Nat.le_add_right _ _))), ⟨hz, hTI, ⟨_, _, hTO⟩, z1 _ _ e1, z2 _ _ e2⟩, fun c hcm => ?_, q⟩
  have cs : c = t.heap.objs.size + 4 ∨ c = t.heap.objs.size + 2 ∨ c = t.heap.objs.size + 3 ∨ c = t.heap.objs.size ∨ c = t.heap.objs.size + 1 := by simpa using hcm
  have le : t.heap.objs.size ≤ c := by
    rcases cs with q | q | q | q | q <;> subst q <;> first | exact Nat.le_refl _ | exact Nat.le_add_right _ _
  exact I1.fpOk le (I1.hok.fresh le)
/-- what is walked, read: at every later state that keeps it -/
theorem walk_kd {K : PySem.W.Frag} {d : D} {S : Sto} {H : Hp} {v : V} {Q : List D → Keep → Prop} (s : SR K S H) (r : VR K H d v) (m : nWalkA d S Q) : ∃ ds kp rd, Q ds kp ∧ kp S ∧ Kd K H v rd ∧ ∀ H' S', HExt H H' → SR K S' H' → kp S' → ∃ vs, rd H' vs ∧ VRs K H' ds vs := by
  unfold nWalkA at m
  split at m
  · cases r with
    | tup tr rr => exact ⟨_, _, _, m, True.intro, .tup _ _ tr.sq, fun H' S' x _ _ => ⟨_, (tr.ext x).sq, rr.ext x⟩⟩
  · cases r with
    | rol tr rr => exact ⟨_, _, _, m, True.intro, .lst _ _ tr.sq, fun H' S' x _ _ => ⟨_, (tr.ext x).sq, rr.ext x⟩⟩
  · rename_i z
    cases r
    refine ⟨_, _, _, m, True.intro, .str z, fun H' S' x _ _ => ⟨_, rfl, ?_⟩⟩
    unfold signsD
    induction z.cps.toList with
    | nil => exact .nil
    | cons c cs ih => exact .cons (.str _) ih
  · rename_i p
    cases r
    split at m
    · rename_i ds e
      obtain ⟨vs, g, rr⟩ := s.lst e
      refine ⟨_, _, _, m, e, .lst p vs (SqL.of g), fun H' S' x s' kk => ?_⟩
      obtain ⟨vs, g, rr⟩ := s'.lst kk
      exact ⟨vs, SqL.of g, rr⟩
    · exact m.elim
  · exact m.elim
def iZipW (m m' : NE) : NI := fun e S Q => m e S fun x S1 => m' e S1 fun y S2 => nWalkA x S2 fun ds kp => nWalkA y S2 fun es kp' => Q (zipD ds es) (fun S' => kp S' ∧ kp' S') S2
section
variable {X : Cx} {H0 : Hp} {w : NW} {a b : Expr} {ma mb : NE}
theorem ji_zipW {p rpos tpos : Pos} {elts : List Expr} {kk : Nat} (hm : X.mg "zip" = none) (ha : JE X H0 a ma) (hb : JE X H0 b mb) (hgl : Gl X "zip" := by rfl) (hs : starEach [a, b] X.env = (false, eval a X.env) :: starEach [b] X.env := by rfl) (hpl : (backTo rpos (starEach [b] X.env)).any (·.1) = false := by rfl) (hsb : starEach [b] X.env = (false, eval b X.env) :: starEach [] X.env := by rfl) :
    JI X H0 (.Tuple elts kk tpos) (.Call (.Name "zip" p) [a, b] [] rpos) (iZipW ma mb) := by
  refine (pi_zipW hgl hm (ja_cons ha (ja_cons hb ja_nil hsb) hs) hs hpl).imq fun σ H R ⟨e, S, Q', A, m, k⟩ => ?_
  refine ⟨e, S, _, A, two_args (K := X.K) m, fun ds S1 vs H1 x1 s1 r ⟨x, y, ed, m1⟩ => ?_⟩
  subst ed
  obtain ⟨v, u, rfl, rv, ru⟩ := vrs2 r
  obtain ⟨ds, kp, r1, q, kk, k1, R1⟩ := walk_kd s1 rv m1
  obtain ⟨es, kp', r2, q', kk', k2, R2⟩ := walk_kd s1 ru q
  refine ⟨v, u, r1, r2, rfl, k1, k2, k _ _ _ _ _ x1 s1 ⟨kk, kk'⟩ q' ⟨fun H S x s kk => ?_, fun i H S hi x s kk => ?_, fun i H S y H' d hd x s kk yl => ?_⟩⟩
  · obtain ⟨vs, h1, g1⟩ := R1 H S x s kk.1
    obtain ⟨us, h2, g2⟩ := R2 H S x s kk.2
    exact ⟨vs, us, h1, h2, by rw [zipD_length, g1.length, g2.length]⟩
  · obtain ⟨vs, h1, g1⟩ := R1 H S x s kk.1
    obtain ⟨us, h2, g2⟩ := R2 H S x s kk.2
    rw [zipD_length, g1.length, g2.length] at hi
    exact ⟨vs, us, h1, h2, by omega, by omega⟩
  · obtain ⟨vs, h1, g1⟩ := R1 H S x s kk.1
    obtain ⟨us, h2, g2⟩ := R2 H S x s kk.2
    obtain ⟨T, a', b', rfl, nT, rfl, y1, y2⟩ := yl
    obtain ⟨x', y', hx, hy, rfl⟩ := zipD_get hd
    obtain ⟨v, hv, rv⟩ := g1.get hx
    obtain ⟨u, hu, ru⟩ := g2.get hy
    have e1 := y1 vs h1
    have e2 := y2 us h2
    rw [hv] at e1; rw [hu] at e2
    cases e1; cases e2
    exact new_pair s nT rv ru
end
/-! ### sum of a tuple of numbers -/
def rSumT (K : PySem.W.Frag) : List V → Hp → VK → Prop := fun vs H Q => ∃ (a : Addr) (ks : List Int), vs = [V.ref a] ∧ SqT K H a (ks.map V.int) ∧ Q (.int ks.sum) H
section
variable {X : Cx}
omit [TabList] in
theorem cr_sumT (hc : X.calm = true) : CallR X (.builtin "sum") (rSumT X.K) := by
  intro pins s σ H vs us Q I rel h
  obtain ⟨a, ks, rfl, sq, q⟩ := h
  obtain ⟨its, rv, ht, _⟩ := I.tuple sq
  rw [Vals.ref1 rel]
  have hi := rv.ints
  obtain ⟨ys, ey⟩ := hi.allInts.items
  have nums : numsOf (intItems ys).toList = ks := by rw [← ey]; exact hi.numsOf
  rw [nums_intItems] at nums
  rw [ey] at ht
  refine PySem.W.ktm_sumG (I.ok.hd hc) ht fun h' tk t' kept => ?_
  rw [preSum_eq, List.take_of_length_le (by simp), nums]
  exact ⟨.int _, H, I.kept kept, ⟨_, rfl⟩, q⟩
/-- sum of a list, of a tuple -/
def nSum1 : NL := fun xs S Q => match xs with
  | [.tup r] => (match intsOf r with
    | some ks => Q (.int ks.sum) S
    | none => False)
  | xs => nSum xs S Q
theorem callN_sum1 (hc : X.calm = true) : CallN X (.builtin "sum") nSum1 := by
  obtain ⟨rl, h1, h2⟩ := callN_sum (X := X) hc
  refine ⟨_, (cr_sumT hc).or h1, fun xs S Q vs H Q' s r m k => ?_⟩
  unfold nSum1 at m
  split at m
  · rename_i es
    obtain ⟨v, rfl, rv⟩ := vrs1 r
    split at m
    · rename_i ks e2
      have e3 := intsOf_eq e2
      subst e3
      cases rv with
      | tup tr rr =>
        have e4 := vrs_ints rr
        subst e4
        exact .inl ⟨_, ks, rfl, tr.sq, k _ _ _ _ (.refl H) s (.int _) m⟩
    · exact m.elim
  · exact .inr (h2 _ _ _ _ _ _ s r m k)
end
omit [TabList] in
theorem u_nSum1T (r : List D) (S : Sto) (Q : NQ) : nSum1 [.tup r] S Q = (match intsOf r with
    | some ks => Q (.int ks.sum) S
    | none => False) := id rfl
omit [TabList] in
theorem u_nSum1L (a : Addr) (S : Sto) (Q : NQ) : nSum1 [.ref a] S Q = nSum [.ref a] S Q := id rfl
omit [TabList] in
theorem u_iZipW (m m' : NE) (e : Env) (S : Sto) (Q : List D → Keep → Sto → Prop) : iZipW m m' e S Q = (m e S fun x S1 => m' e S1 fun y S2 => nWalkA x S2 fun ds kp => nWalkA y S2 fun es kp' => Q (zipD ds es) (fun S' => kp S' ∧ kp' S') S2) := id rfl
end N

set_option linter.all false
set_option maxRecDepth 100000
set_option maxHeartbeats 4000000
namespace N
open PySem L2
/-! ### for the plain law: words about stores -/
theorem ofString_inj {a b : String} : (Str.ofString a = Str.ofString b) = (a = b) := by
  refine propext ⟨fun h => ?_, fun h => by rw [h]⟩
  rw [Str.ofString_eq_toList, Str.ofString_eq_toList] at h
  have h1 : (a.toList.map Char.toNat).toArray = (b.toList.map Char.toNat).toArray := by injection h
  have h2 : a.toList.map Char.toNat = b.toList.map Char.toNat := by injection h1
  have inj : ∀ x y : Char, x.toNat = y.toNat → x = y := fun x y e => Char.toNat_inj.mp e
  have h3 : a.toList = b.toList := by
    have : ∀ (l m : List Char), l.map Char.toNat = m.map Char.toNat → l = m := by
      intro l
      induction l with
      | nil => intro m e; cases m with | nil => rfl | cons _ _ => cases e
      | cons x l ih =>
        intro m e
        cases m with
        | nil => cases e
        | cons y m =>
          simp only [List.map_cons, List.cons.injEq] at e
          rw [inj _ _ e.1, ih m e.2]
    exact this _ _ h2
  exact String.toList_inj.mp h3
theorem ofString_beq {a b : String} : (Str.ofString a == Str.ofString b) = (a == b) := by
  by_cases h : a = b
  · subst h; simp
  · have : ¬ Str.ofString a = Str.ofString b := by rw [ofString_inj]; exact h
    rw [beq_eq_false_iff_ne.mpr h, beq_eq_false_iff_ne.mpr this]
theorem put_if {S : Sto} {a b : Addr} {o : Ob} : put S a o b = if b = a then some o else S b := rfl
/-- all but what stands at A is as it was -/
def Upd (A : List Addr) (S S' : Sto) : Prop := ∀ a o, a ∉ A → S a = some o → S' a = some o
theorem Upd.refl {A : List Addr} {S : Sto} : Upd A S S := fun _ _ _ h => h
theorem Upd.trans {A : List Addr} {S S1 S2 : Sto} (h : Upd A S S1) (k : Upd A S1 S2) : Upd A S S2 := fun a o n e => k a o n (h a o n e)
theorem Upd.mono {A B : List Addr} {S S' : Sto} (h : Upd A S S') (k : ∀ a ∈ A, a ∈ B) : Upd B S S' := fun a o n e => h a o (fun z => n (k a z)) e
theorem Upd.new {A : List Addr} {S : Sto} {p : Addr} {o : Ob} (h : S p = none) : Upd A S (put S p o) := fun a u _ e => by
  rw [put_ne fun z => by rw [z, h] at e; cases e]; exact e
theorem Upd.at {A : List Addr} {S : Sto} {p : Addr} {o : Ob} (h : p ∈ A) : Upd A S (put S p o) := fun a u n e => by
  rw [put_ne fun z => n (by rw [z]; exact h)]; exact e
/-- nothing but new things -/
abbrev Keeps (S S' : Sto) : Prop := Upd [] S S'
theorem Keeps.up {A : List Addr} {S S' : Sto} (h : Keeps S S') : Upd A S S' := h.mono fun _ z => by cases z
theorem Upd.get {A : List Addr} {S S' : Sto} {a : Addr} {o : Ob} (h : Upd A S S') (e : S a = some o) (n : a ∉ A) : S' a = some o := h a o n e
theorem Upd.none {S S' : Sto} {a : Addr} (h : Keeps S S') (e : S' a = none) : S a = none := by
  cases q : S a with
  | none => rfl
  | some o => rw [h a o (fun z => by cases z) q] at e; cases e

theorem isi_of {CL : List Str} {d c : D} {t u : Tg} {S : Sto} {Q : NQ} {r : Bool} (h1 : tgOf S d = some t) (h2 : clOf c = some u) (h3 : (T1 CL).contains t = true) (h4 : (T2 CL).contains u = true) (h5 : isT t u = r) : nIsi CL [d, c] S Q = Q (.bl r) S := by
  unfold nIsi
  simp only [h1, h2, h3, h4, h5, true_and]
theorem isi_non_int {CL : List Str}  (S : Sto) (Q : NQ) : nIsi CL [.non, .ty "int"] S Q = Q (.bl false) S := isi_of (t := .ty "NoneType") rfl rfl (by simp [T1]) (by simp [T2]) rfl
theorem isi_non_bool {CL : List Str}  (S : Sto) (Q : NQ) : nIsi CL [.non, .ty "bool"] S Q = Q (.bl false) S := isi_of (t := .ty "NoneType") rfl rfl (by simp [T1]) (by simp [T2]) rfl
theorem isi_non_str {CL : List Str}  (S : Sto) (Q : NQ) : nIsi CL [.non, .ty "str"] S Q = Q (.bl false) S := isi_of (t := .ty "NoneType") rfl rfl (by simp [T1]) (by simp [T2]) rfl
theorem isi_non_tuple {CL : List Str}  (S : Sto) (Q : NQ) : nIsi CL [.non, .ty "tuple"] S Q = Q (.bl false) S := isi_of (t := .ty "NoneType") rfl rfl (by simp [T1]) (by simp [T2]) rfl
theorem isi_bl_int {CL : List Str} (b : Bool) (S : Sto) (Q : NQ) : nIsi CL [.bl b, .ty "int"] S Q = Q (.bl true) S := isi_of (t := .ty "bool") rfl rfl (by simp [T1]) (by simp [T2]) rfl
theorem isi_bl_bool {CL : List Str} (b : Bool) (S : Sto) (Q : NQ) : nIsi CL [.bl b, .ty "bool"] S Q = Q (.bl true) S := isi_of (t := .ty "bool") rfl rfl (by simp [T1]) (by simp [T2]) rfl
theorem isi_bl_str {CL : List Str} (b : Bool) (S : Sto) (Q : NQ) : nIsi CL [.bl b, .ty "str"] S Q = Q (.bl false) S := isi_of (t := .ty "bool") rfl rfl (by simp [T1]) (by simp [T2]) rfl
theorem isi_bl_tuple {CL : List Str} (b : Bool) (S : Sto) (Q : NQ) : nIsi CL [.bl b, .ty "tuple"] S Q = Q (.bl false) S := isi_of (t := .ty "bool") rfl rfl (by simp [T1]) (by simp [T2]) rfl
theorem isi_int_int {CL : List Str} (i : Int) (S : Sto) (Q : NQ) : nIsi CL [.int i, .ty "int"] S Q = Q (.bl true) S := isi_of (t := .ty "int") rfl rfl (by simp [T1]) (by simp [T2]) rfl
theorem isi_int_bool {CL : List Str} (i : Int) (S : Sto) (Q : NQ) : nIsi CL [.int i, .ty "bool"] S Q = Q (.bl false) S := isi_of (t := .ty "int") rfl rfl (by simp [T1]) (by simp [T2]) rfl
theorem isi_int_str {CL : List Str} (i : Int) (S : Sto) (Q : NQ) : nIsi CL [.int i, .ty "str"] S Q = Q (.bl false) S := isi_of (t := .ty "int") rfl rfl (by simp [T1]) (by simp [T2]) rfl
theorem isi_int_tuple {CL : List Str} (i : Int) (S : Sto) (Q : NQ) : nIsi CL [.int i, .ty "tuple"] S Q = Q (.bl false) S := isi_of (t := .ty "int") rfl rfl (by simp [T1]) (by simp [T2]) rfl
theorem isi_str_int {CL : List Str} (x : Str) (S : Sto) (Q : NQ) : nIsi CL [.str x, .ty "int"] S Q = Q (.bl false) S := isi_of (t := .ty "str") rfl rfl (by simp [T1]) (by simp [T2]) rfl
theorem isi_str_bool {CL : List Str} (x : Str) (S : Sto) (Q : NQ) : nIsi CL [.str x, .ty "bool"] S Q = Q (.bl false) S := isi_of (t := .ty "str") rfl rfl (by simp [T1]) (by simp [T2]) rfl
theorem isi_str_str {CL : List Str} (x : Str) (S : Sto) (Q : NQ) : nIsi CL [.str x, .ty "str"] S Q = Q (.bl true) S := isi_of (t := .ty "str") rfl rfl (by simp [T1]) (by simp [T2]) rfl
theorem isi_str_tuple {CL : List Str} (x : Str) (S : Sto) (Q : NQ) : nIsi CL [.str x, .ty "tuple"] S Q = Q (.bl false) S := isi_of (t := .ty "str") rfl rfl (by simp [T1]) (by simp [T2]) rfl
theorem isi_tup_int {CL : List Str} (ds : List D) (S : Sto) (Q : NQ) : nIsi CL [.tup ds, .ty "int"] S Q = Q (.bl false) S := isi_of (t := .ty "tuple") rfl rfl (by simp [T1]) (by simp [T2]) rfl
theorem isi_tup_bool {CL : List Str} (ds : List D) (S : Sto) (Q : NQ) : nIsi CL [.tup ds, .ty "bool"] S Q = Q (.bl false) S := isi_of (t := .ty "tuple") rfl rfl (by simp [T1]) (by simp [T2]) rfl
theorem isi_tup_str {CL : List Str} (ds : List D) (S : Sto) (Q : NQ) : nIsi CL [.tup ds, .ty "str"] S Q = Q (.bl false) S := isi_of (t := .ty "tuple") rfl rfl (by simp [T1]) (by simp [T2]) rfl
theorem isi_tup_tuple {CL : List Str} (ds : List D) (S : Sto) (Q : NQ) : nIsi CL [.tup ds, .ty "tuple"] S Q = Q (.bl true) S := isi_of (t := .ty "tuple") rfl rfl (by simp [T1]) (by simp [T2]) rfl
theorem isi_rol_int {CL : List Str} (ds : List D) (S : Sto) (Q : NQ) : nIsi CL [.rol ds, .ty "int"] S Q = Q (.bl false) S := isi_of (t := .ty "list") rfl rfl (by simp [T1]) (by simp [T2]) rfl
theorem isi_rol_bool {CL : List Str} (ds : List D) (S : Sto) (Q : NQ) : nIsi CL [.rol ds, .ty "bool"] S Q = Q (.bl false) S := isi_of (t := .ty "list") rfl rfl (by simp [T1]) (by simp [T2]) rfl
theorem isi_rol_str {CL : List Str} (ds : List D) (S : Sto) (Q : NQ) : nIsi CL [.rol ds, .ty "str"] S Q = Q (.bl false) S := isi_of (t := .ty "list") rfl rfl (by simp [T1]) (by simp [T2]) rfl
theorem isi_rol_tuple {CL : List Str} (ds : List D) (S : Sto) (Q : NQ) : nIsi CL [.rol ds, .ty "tuple"] S Q = Q (.bl false) S := isi_of (t := .ty "list") rfl rfl (by simp [T1]) (by simp [T2]) rfl
theorem isi_lst_int {CL : List Str} {a : Addr} (ds : List D) {S : Sto} (Q : NQ) (h : S a = some (.lst ds)) : nIsi CL [.ref a, .ty "int"] S Q = Q (.bl false) S := isi_of (t := .ty "list") (by simp only [tgOf, h]) rfl (by simp [T1]) (by simp [T2]) rfl
theorem isi_lst_bool {CL : List Str} {a : Addr} (ds : List D) {S : Sto} (Q : NQ) (h : S a = some (.lst ds)) : nIsi CL [.ref a, .ty "bool"] S Q = Q (.bl false) S := isi_of (t := .ty "list") (by simp only [tgOf, h]) rfl (by simp [T1]) (by simp [T2]) rfl
theorem isi_lst_str {CL : List Str} {a : Addr} (ds : List D) {S : Sto} (Q : NQ) (h : S a = some (.lst ds)) : nIsi CL [.ref a, .ty "str"] S Q = Q (.bl false) S := isi_of (t := .ty "list") (by simp only [tgOf, h]) rfl (by simp [T1]) (by simp [T2]) rfl
theorem isi_lst_tuple {CL : List Str} {a : Addr} (ds : List D) {S : Sto} (Q : NQ) (h : S a = some (.lst ds)) : nIsi CL [.ref a, .ty "tuple"] S Q = Q (.bl false) S := isi_of (t := .ty "list") (by simp only [tgOf, h]) rfl (by simp [T1]) (by simp [T2]) rfl
theorem isi_dic_int {CL : List Str} {a : Addr} (ds : List (Key × D)) {S : Sto} (Q : NQ) (h : S a = some (.dic ds)) : nIsi CL [.ref a, .ty "int"] S Q = Q (.bl false) S := isi_of (t := .ty "dict") (by simp only [tgOf, h]) rfl (by simp [T1]) (by simp [T2]) rfl
theorem isi_dic_bool {CL : List Str} {a : Addr} (ds : List (Key × D)) {S : Sto} (Q : NQ) (h : S a = some (.dic ds)) : nIsi CL [.ref a, .ty "bool"] S Q = Q (.bl false) S := isi_of (t := .ty "dict") (by simp only [tgOf, h]) rfl (by simp [T1]) (by simp [T2]) rfl
theorem isi_dic_str {CL : List Str} {a : Addr} (ds : List (Key × D)) {S : Sto} (Q : NQ) (h : S a = some (.dic ds)) : nIsi CL [.ref a, .ty "str"] S Q = Q (.bl false) S := isi_of (t := .ty "dict") (by simp only [tgOf, h]) rfl (by simp [T1]) (by simp [T2]) rfl
theorem isi_dic_tuple {CL : List Str} {a : Addr} (ds : List (Key × D)) {S : Sto} (Q : NQ) (h : S a = some (.dic ds)) : nIsi CL [.ref a, .ty "tuple"] S Q = Q (.bl false) S := isi_of (t := .ty "dict") (by simp only [tgOf, h]) rfl (by simp [T1]) (by simp [T2]) rfl
theorem isi_exc {CL : List Str} {a : Addr} {c x : Str} {S : Sto} (Q : NQ) (h : S a = some (.exc c none)) (h3 : (T1 CL).contains (.cls c) = true) (h4 : (T2 CL).contains (.cls x) = true) : nIsi CL [.ref a, .cls x] S Q = Q (.bl (isT (.cls c) (.cls x))) S := isi_of (t := .cls c) (by simp only [tgOf, h]) rfl h3 h4 rfl
theorem isi_excV {CL : List Str} {a : Addr} {c : Str} {S : Sto} (Q : NQ) (h : S a = some (.exc c none)) (h3 : (T1 CL).contains (.cls c) = true) : nIsi CL [.ref a, .ty "ValueError"] S Q = Q (.bl true) S := isi_of (t := .cls c) (by simp only [tgOf, h]) rfl h3 (by simp [T2]) rfl
theorem isi_nonC {CL : List Str} {x : Str} {S : Sto} (Q : NQ) (h4 : (T2 CL).contains (.cls x) = true) : nIsi CL [.non, .cls x] S Q = Q (.bl false) S := isi_of (t := .ty "NoneType") rfl rfl (by simp [T1]) h4 rfl
theorem isi_nonV {CL : List Str} {S : Sto} (Q : NQ) : nIsi CL [.non, .ty "ValueError"] S Q = Q (.bl false) S := isi_of (t := .ty "NoneType") rfl rfl (by simp [T1]) (by simp [T2]) rfl
theorem atI_nat' {α : Type} {xs : List α} {i : Int} (h : 0 ≤ i) : atI xs i = xs[i.toNat]? := by
  unfold atI ixN
  rw [if_pos h]
  by_cases h2 : i < xs.length
  · rw [if_pos h2]; rfl
  · rw [if_neg h2, List.getElem?_eq_none (by omega)]; rfl
theorem atI_0 {α : Type} (a : α) (r : List α) : atI (a :: r) 0 = some a := by rw [atI_nat' (by decide)]; rfl
theorem atI_1 {α : Type} (a b : α) (r : List α) : atI (a :: b :: r) 1 = some b := by rw [atI_nat' (by decide)]; rfl
theorem atI_2 {α : Type} (a b c : α) (r : List α) : atI (a :: b :: c :: r) 2 = some c := by rw [atI_nat' (by decide)]; rfl
theorem atI_3 {α : Type} (a b c d : α) (r : List α) : atI (a :: b :: c :: d :: r) 3 = some d := by rw [atI_nat' (by decide)]; rfl
theorem atI_4 {α : Type} (a b c d e : α) (r : List α) : atI (a :: b :: c :: d :: e :: r) 4 = some e := by rw [atI_nat' (by decide)]; rfl
theorem cut_13 (a b c : D) (r : List D) : cutD (a :: b :: c :: r) (some 1) (some 3) = [b, c] := by
  unfold cutD
  have h1 : HT.sIx (a :: b :: c :: r).length 0 (some 1) = 1 := (HT.sIx_nat _ _ 1).trans (Nat.min_eq_left (by simp only [List.length_cons]; omega))
  have h2 : HT.sIx (a :: b :: c :: r).length (a :: b :: c :: r).length (some 3) = 3 := (HT.sIx_nat _ _ 3).trans (Nat.min_eq_left (by simp only [List.length_cons]; omega))
  rw [h1, h2]; rfl
theorem cut_4 (a b c d : D) (r : List D) : cutD (a :: b :: c :: d :: r) (some 4) none = r := by
  unfold cutD
  have h1 : HT.sIx (a :: b :: c :: d :: r).length 0 (some 4) = 4 := (HT.sIx_nat _ _ 4).trans (Nat.min_eq_left (by simp only [List.length_cons]; omega))
  rw [h1, HT.sIx_none]
  simp
theorem cut_3 (a b c : D) (r : List D) : cutD (a :: b :: c :: r) (some 3) none = r := by
  unfold cutD
  have h1 : HT.sIx (a :: b :: c :: r).length 0 (some 3) = 3 := (HT.sIx_nat _ _ 3).trans (Nat.min_eq_left (by simp only [List.length_cons]; omega))
  rw [h1, HT.sIx_none]
  simp
theorem len_lit (n : Nat) : ((OfNat.ofNat n : Nat) : Int) = (OfNat.ofNat n : Int) := rfl
end N

set_option linter.all false
set_option maxRecDepth 100000
namespace N
open PySem L2
/-! simp must not look into what comes after a call: the tag makes it fixed -/
structure TgQ (Q : NQ) (E : Str → Option Addr → Sto → Prop) : Type where
def runF (sp : NSp) (ds : List D) (S : Sto) (Q : NQ) (E : Str → Option Addr → Sto → Prop) (_ : TgQ Q E) : Prop := sp ds S Q E
structure TgZ (g : NG) (b : NS) (Z : NEnds) : Type where
def runL (g : NG) (b : NS) (Z : NEnds) (kp : Keep) (ds : List D) (e : Env) (S : Sto) (_ : TgZ g b Z) : Prop := loopL g b Z kp ds e S
structure TgW (c : NT) (b : NS) (Z : NEnds) : Type where
def runW (c : NT) (b : NS) (Z : NEnds) (e : Env) (S : Sto) (_ : TgW c b Z) : Prop := ∃ n, whileN c b Z n e S
theorem u_mOp (n : N2) (ma mb : NE) (e : Env) (S : Sto) (Q : NQ) : mOp n ma mb e S Q = (ma e S fun x S1 => mb e S1 fun y S2 => n x y S2 Q) := id rfl
theorem u_mTst (m : NE) (e : Env) (S : Sto) (Q : Bool → Sto → Prop) : mTst m e S Q = (m e S fun d S' => match d with
  | .bl k => Q k S'
  | _ => False) := id rfl
theorem u_mVar (i : Nat) (e : Env) (S : Sto) (Q : NQ) : mVar i e S Q = (match nth e i with
  | some d => Q d S
  | none => False) := id rfl
theorem u_mC (d : D) (u0_ : Env) (S : Sto) (Q : NQ) : mC d u0_ S Q = (Q d S) := id rfl
theorem u_mAnd (t u : NT) (e : Env) (S : Sto) (Q : Bool → Sto → Prop) : mAnd t u e S Q = (t e S fun c S1 => match c with
  | true => u e S1 Q
  | false => Q false S1) := id rfl
theorem u_mOr (t u : NT) (e : Env) (S : Sto) (Q : Bool → Sto → Prop) : mOr t u e S Q = (t e S fun c S1 => match c with
  | true => Q true S1
  | false => u e S1 Q) := id rfl
theorem u_mNot (t : NT) (e : Env) (S : Sto) (Q : Bool → Sto → Prop) : mNot t e S Q = (t e S fun c S1 => Q (!c) S1) := id rfl
theorem u_mAndV (m n : NE) (e : Env) (S : Sto) (Q : NQ) : mAndV m n e S Q = (m e S fun d S1 => match d with
  | .bl true => n e S1 Q
  | .bl false => Q (.bl false) S1
  | _ => False) := id rfl
theorem u_mOrV (m n : NE) (e : Env) (S : Sto) (Q : NQ) : mOrV m n e S Q = (m e S fun d S1 => match d with
  | .bl true => Q (.bl true) S1
  | .bl false => n e S1 Q
  | _ => False) := id rfl
theorem u_mNotV (m : NE) (e : Env) (S : Sto) (Q : NQ) : mNotV m e S Q = (m e S fun d S1 => match d with
  | .bl k => Q (.bl (!k)) S1
  | _ => False) := id rfl
theorem u_mIf (t : NT) (m n : NE) (e : Env) (S : Sto) (Q : NQ) : mIf t m n e S Q = (t e S fun c S1 => match c with
  | true => m e S1 Q
  | false => n e S1 Q) := id rfl
theorem u_mChain (n n' : N2) (ma mb mc : NE) (e : Env) (S : Sto) (Q : NQ) : mChain n n' ma mb mc e S Q = (ma e S fun x S1 => mb e S1 fun y S2 => n x y S2 fun z S3 => match z with
  | .bl true => mc e S3 fun u S4 => n' y u S4 Q
  | .bl false => Q (.bl false) S3
  | _ => False) := id rfl
theorem u_mNil (u0_ : Env) (S : Sto) (Q : List D → Sto → Prop) : mNil  u0_ S Q = (Q [] S) := id rfl
theorem u_mCons (m : NE) (r : NA) (e : Env) (S : Sto) (Q : List D → Sto → Prop) : mCons m r e S Q = (m e S fun x S1 => r e S1 fun xs S2 => Q (x :: xs) S2) := id rfl
theorem u_mTup (r : NA) (e : Env) (S : Sto) (Q : NQ) : mTup r e S Q = (r e S fun ds S1 => ds.length ≤ sizeLine ∧ Q (.tup ds) S1) := id rfl
theorem u_mLst (r : NA) (e : Env) (S : Sto) (Q : NQ) : mLst r e S Q = (r e S fun ds S1 => ds.length ≤ sizeLine ∧ ∀ p, S1 p = none → Q (.ref p) (put S1 p (.lst ds))) := id rfl
theorem u_mDic0 (u0_ : Env) (S : Sto) (Q : NQ) : mDic0  u0_ S Q = (∀ p, S p = none → Q (.ref p) (put S p (.dic []))) := id rfl
theorem u_nAdd (x : D) (y : D) (S : Sto) (Q : NQ) : nAdd  x y S Q = (match x, y with
  | .int i, .int j => Q (.int (i + j)) S
  | .str a, .str b => a.length + b.length ≤ sizeLine ∧ Q (.str (a ++ b)) S
  | .tup a, .tup b => a.length + b.length ≤ sizeLine ∧ Q (.tup (a ++ b)) S
  | .ref a, .ref b => (match S a, S b with
    | some (.lst xs), some (.lst ys) => xs.length + ys.length ≤ sizeLine ∧ ∀ p, S p = none → Q (.ref p) (put S p (.lst (xs ++ ys)))
    | _, _ => False)
  | _, _ => False) := id rfl
theorem u_nInt (C : Int → Int → Prop) (g : Int → Int → D) (x : D) (y : D) (S : Sto) (Q : NQ) : nInt C g x y S Q = (match x, y with
  | .int i, .int j => C i j ∧ Q (g i j) S
  | _, _ => False) := id rfl
theorem u_nInt0 (g : Int → Int → D) (x : D) (y : D) (S : Sto) (Q : NQ) : nInt0 g x y S Q = (match x, y with
  | .int i, .int j => Q (g i j) S
  | _, _ => False) := id rfl
theorem u_nIsN (x : D) (y : D) (S : Sto) (Q : NQ) : nIsN  x y S Q = (match y with
  | .non => Q (.bl (isNonD x)) S
  | _ => False) := id rfl
theorem u_nNotN (x : D) (y : D) (S : Sto) (Q : NQ) : nNotN  x y S Q = (match y with
  | .non => Q (.bl (!isNonD x)) S
  | _ => False) := id rfl
theorem u_nEq (x : D) (y : D) (S : Sto) (Q : NQ) : nEq  x y S Q = (match eqT S x y with
  | some b => Q (.bl b) S
  | none => False) := id rfl
theorem u_nNe (x : D) (y : D) (S : Sto) (Q : NQ) : nNe  x y S Q = (match eqT S x y with
  | some b => Q (.bl (!b)) S
  | none => False) := id rfl
theorem u_nIn (x : D) (y : D) (S : Sto) (Q : NQ) : nIn  x y S Q = (match seqOf S y with
  | some ds => flatD x = true ∧ ds.all flatD = true ∧ Q (.bl (ds.any fun d => eqF d x)) S
  | none => match dicOf S y with
    | some kvs => (match keyD x with
      | some k => Q (.bl (dget kvs k).isSome) S
      | none => False)
    | none => match x, y with
      | .str c, .str z => c.cps.size = 1 ∧ Q (.bl (decide (c.cps.getD 0 0 ∈ z.cps.toList))) S
      | _, _ => False) := id rfl
theorem u_nNin (x : D) (y : D) (S : Sto) (Q : NQ) : nNin  x y S Q = (nIn x y S fun d S' => match d with
  | .bl b => Q (.bl (!b)) S'
  | _ => False) := id rfl
theorem u_nIx (x : D) (y : D) (S : Sto) (Q : NQ) : nIx  x y S Q = (match seqOf S x, y with
  | some ds, .int i => (match L2.atI ds i with
    | some d => Q d S
    | none => False)
  | _, _ => match dicOf S x, keyD y with
    | some kvs, some k => (match dget kvs k with
      | some d => Q d S
      | none => False)
    | _, _ => match x, y with
      | .str z, .int i => z.length ≤ sizeLine ∧ (match L2.atI z.cps.toList i with
        | some c => Q (.str ⟨#[c]⟩) S
        | none => False)
      | _, _ => False) := id rfl
theorem u_mNoPart (u0_ : Env) (S : Sto) (Q : Option Int → Sto → Prop) : mNoPart  u0_ S Q = (Q none S) := id rfl
theorem u_mPart (m : NE) (e : Env) (S : Sto) (Q : Option Int → Sto → Prop) : mPart m e S Q = (m e S fun d S1 => match d with
  | .int i => Q (some i) S1
  | _ => False) := id rfl
theorem u_nSl (x : D) (lo : Option Int) (hi : Option Int) (S : Sto) (Q : NQ) : nSl  x lo hi S Q = (match x with
  | .tup ds => Q (.tup (cutD ds lo hi)) S
  | .str z => z.length ≤ sizeLine ∧ Q (.str (cutS z lo hi)) S
  | .rol ds => ∀ p, S p = none → Q (.ref p) (put S p (.lst (cutD ds lo hi)))
  | .ref a => (match S a with
    | some (.lst ds) => ∀ p, S p = none → Q (.ref p) (put S p (.lst (cutD ds lo hi)))
    | _ => False)
  | _ => False) := id rfl
theorem u_mSl (m : NE) (l h : NO) (e : Env) (S : Sto) (Q : NQ) : mSl m l h e S Q = (m e S fun x S1 => l e S1 fun lo S2 => h e S2 fun hi S3 => nSl x lo hi S3 Q) := id rfl
theorem u_nRev (x : D) (S : Sto) (Q : NQ) : nRev  x S Q = (match x with
  | .ref a => (match S a with
    | some (.lst ds) => ∀ p, S p = none → Q (.ref p) (put S p (.lst ds.reverse))
    | _ => False)
  | _ => False) := id rfl
theorem u_mUn (n : D → Sto → NQ → Prop) (m : NE) (e : Env) (S : Sto) (Q : NQ) : mUn n m e S Q = (m e S fun x S1 => n x S1 Q) := id rfl
theorem u_nNeg (x : D) (S : Sto) (Q : NQ) : nNeg  x S Q = (match x with
  | .int i => Q (.int (-i)) S
  | _ => False) := id rfl
theorem u_nFld (f : Str) (x : D) (S : Sto) (Q : NQ) : nFld f x S Q = (match x with
  | .ref a => (match S a with
    | some (.ins _ fs) => (match fs.lookup f with
      | some v => Q v S
      | none => False)
    | _ => False)
  | _ => False) := id rfl
theorem u_sFldN (f : Str) (mv mo : NE) (Z0 : NEnds) (e : Env) (S : Sto) : sFldN f mv mo Z0 e S = (mv e S fun y S1 => mo e S1 fun x S2 => match x with
  | .ref a => (match S2 a with
    | some (.ins c fs) => fs.length < 1000 ∧ Z0.nx e (put S2 a (.ins c (putD f y fs)))
    | _ => False)
  | _ => False) := id rfl
theorem u_mCallB (n : NL) (mr : NA) (e : Env) (S : Sto) (Q : NQ) : mCallB n mr e S Q = (mr e S fun ds S1 => n ds S1 Q) := id rfl
theorem u_nLen (xs : List D) (S : Sto) (Q : NQ) : nLen  xs S Q = (match xs with
  | [d] => (match lenD S d with
    | some n => Q (.int n) S
    | none => False)
  | _ => False) := id rfl
theorem u_nMax2 (xs : List D) (S : Sto) (Q : NQ) : nMax2  xs S Q = (match xs with
  | [.int i, .int j] => Q (.int (if j > i then j else i)) S
  | _ => False) := id rfl
theorem u_nMin2 (xs : List D) (S : Sto) (Q : NQ) : nMin2  xs S Q = (match xs with
  | [.int i, .int j] => Q (.int (if j < i then j else i)) S
  | _ => False) := id rfl
theorem u_nAbs (xs : List D) (S : Sto) (Q : NQ) : nAbs  xs S Q = (match xs with
  | [.int i] => Q (.int (if i < 0 then -i else i)) S
  | _ => False) := id rfl
theorem u_nInt1 (xs : List D) (S : Sto) (Q : NQ) : nInt1  xs S Q = (match xs with
  | [.int i] => Q (.int i) S
  | [.bl b] => Q (.int (if b then 1 else 0)) S
  | [.str z] => ∃ n, PySem.intText? z = some n ∧ z.length ≤ 640 ∧ Q (.int n) S
  | _ => False) := id rfl
theorem u_nStr1 (xs : List D) (S : Sto) (Q : NQ) : nStr1  xs S Q = (match xs with
  | [.int i] => i.natAbs < 2 ^ 1900 ∧ Q (.str (toString i)) S
  | _ => False) := id rfl
theorem u_nList1 (xs : List D) (S : Sto) (Q : NQ) : nList1  xs S Q = (match xs with
  | [d] => (match seqOf S d with
    | some ds => ∀ p, S p = none → Q (.ref p) (put S p (.lst ds))
    | none => False)
  | _ => False) := id rfl
theorem u_nTuple1 (xs : List D) (S : Sto) (Q : NQ) : nTuple1  xs S Q = (match xs with
  | [d] => (match seqOf S d with
    | some ds => Q (.tup ds) S
    | none => False)
  | _ => False) := id rfl
theorem u_nIsi (CL : List Str) (xs : List D) (S : Sto) (Q : NQ) : nIsi CL xs S Q = (match xs with
  | [x, c] => (match tgOf S x with
    | some t => (match clOf c with
      | some u => (T1 CL).contains t = true ∧ (T2 CL).contains u = true ∧ Q (.bl (isT t u)) S
      | none => match c with
        | .tup cs => (match clsOf cs with
          | some us => (T1 CL).contains t = true ∧ us.all ((T2 CL).contains ·) = true ∧ Q (.bl (us.any (isT t))) S
          | none => False)
        | _ => False)
    | none => False)
  | _ => False) := id rfl
theorem u_mCall (n : Nat) (sp : NSp) (w : NW) (mr : NA) (e : Env) (S : Sto) (Q : NQ) : mCall n sp w mr e S Q = (mr e S fun ds S1 => ds.length = n ∧ runF sp ds S1 Q (fun c d S2 => w c d e S2) .mk) := id rfl
theorem u_mMeth (m : Str) (mt : MT) (w : NW) (mo : NE) (mr : NA) (e : Env) (S : Sto) (Q : NQ) : mMeth m mt w mo mr e S Q = (mo e S fun x S1 => match x with
  | .ref p => (match S1 p with
    | some (.ins c fs) => fs.lookup m = none ∧ (match mt c with
      | some (n, sp) => mr e S1 fun ds S2 => ds.length + 1 = n ∧ runF sp (.ref p :: ds) S2 Q (fun c d S3 => w c d e S3) .mk
      | none => False)
    | _ => False)
  | _ => False) := id rfl
theorem u_mMake (c : Str) (n : Nat) (sp : NSp) (w : NW) (mr : NA) (e : Env) (S : Sto) (Q : NQ) : mMake c n sp w mr e S Q = (mr e S fun ds S1 => ds.length + 1 = n ∧ ∀ x, S1 x = none → runF sp (.ref x :: ds) (put S1 x (.ins c [])) (fun v S2 => isNonD v = true ∧ Q (.ref x) S2) (fun c d S2 => w c d e S2) .mk) := id rfl
theorem u_spOf (N : Nat) (body : NW → NS) (ds : List D) (S : Sto) (Q : NQ) (E : Str → Option Addr → Sto → Prop) : spOf N body ds S Q E = (body (fun c d _ S' => E c d S') { nx := fun _ S' => Q .non S', rt := Q } (startN N ds) S) := id rfl
theorem u_sNext (Z0 : NEnds) (e : Env) (S : Sto) : sNext  Z0 e S = (Z0.nx e S) := id rfl
theorem u_sSeq (t u : NS) (Z0 : NEnds) (e : Env) (S : Sto) : sSeq t u Z0 e S = (t { Z0 with nx := u Z0 } e S) := id rfl
theorem u_sBreak (Z0 : NEnds) (e : Env) (S : Sto) : sBreak  Z0 e S = (Z0.bk e S) := id rfl
theorem u_sCont (Z0 : NEnds) (e : Env) (S : Sto) : sCont  Z0 e S = (Z0.ct e S) := id rfl
theorem u_sDrop (m : NE) (Z0 : NEnds) (e : Env) (S : Sto) : sDrop m Z0 e S = (m e S fun _ S1 => Z0.nx e S1) := id rfl
theorem u_sRet (m : NE) (Z0 : NEnds) (e : Env) (S : Sto) : sRet m Z0 e S = (m e S Z0.rt) := id rfl
theorem u_sIf (c : NT) (t u : NS) (Z0 : NEnds) (e : Env) (S : Sto) : sIf c t u Z0 e S = (c e S fun b S1 => match b with
  | true => t Z0 e S1
  | false => u Z0 e S1) := id rfl
theorem u_gNm (i : Nat) (d : D) (e : Env) (S : Sto) (Q : Env → Sto → Prop) : gNm i d e S Q = (Q (e.set i (some d)) S) := id rfl
theorem u_gsNil (ds : List D) (e : Env) (S : Sto) (Q : Env → Sto → Prop) : gsNil  ds e S Q = (match ds with
  | [] => Q e S
  | _ => False) := id rfl
theorem u_gsCons (t : NG) (u : NGs) (ds : List D) (e : Env) (S : Sto) (Q : Env → Sto → Prop) : gsCons t u ds e S Q = (match ds with
  | d :: r => t d e S fun e1 S1 => u r e1 S1 Q
  | [] => False) := id rfl
theorem u_gTp (n : Nat) (t : NGs) (d : D) (e : Env) (S : Sto) (Q : Env → Sto → Prop) : gTp n t d e S Q = (match d with
  | .tup ds => ds.length = n ∧ t ds e S Q
  | _ => False) := id rfl
theorem u_sAsg (m : NE) (g : NG) (Z0 : NEnds) (e : Env) (S : Sto) : sAsg m g Z0 e S = (m e S fun d S1 => g d e S1 Z0.nx) := id rfl
theorem u_sSet (i : Nat) (m : NE) (Z0 : NEnds) (e : Env) (S : Sto) : sSet i m Z0 e S = (m e S fun d S1 => Z0.nx (e.set i (some d)) S1) := id rfl
theorem u_nSet (o : D) (i : D) (v : D) (S : Sto) (Q : (Sto → Prop)) : nSet  o i v S Q = (match o with
  | .ref p => (match S p with
    | some (.lst ds) => (match i with
      | .int j => (match ixN ds.length j with
        | some k => Q (put S p (.lst (ds.set k v)))
        | none => False)
      | _ => False)
    | some (.dic kvs) => (match keyD i with
      | some k => kvs.length < sizeLine ∧ Q (put S p (.dic (dput kvs k v)))
      | none => False)
    | _ => False)
  | _ => False) := id rfl
theorem u_gIx (mo mi : NE) (d : D) (e : Env) (S : Sto) (Q : Env → Sto → Prop) : gIx mo mi d e S Q = (mo e S fun x S1 => mi e S1 fun i S2 => nSet x i d S2 fun S3 => Q e S3) := id rfl
theorem u_sAug (i : Nat) (m : NE) (n : N2) (Z0 : NEnds) (e : Env) (S : Sto) : sAug i m n Z0 e S = (match nth e i with
  | some x => m e S fun y S1 => n x y S1 fun z S2 => Z0.nx (e.set i (some z)) S2
  | none => False) := id rfl
theorem u_nAdd' (x : D) (y : D) (S : Sto) (Q : NQ) : nAdd'  x y S Q = (match x, y with
  | .int i, .int j => Q (.int (i + j)) S
  | .str a, .str b => a.length + b.length ≤ sizeLine ∧ Q (.str (a ++ b)) S
  | .ref a, .ref b => (match S a, S b with
    | some (.lst xs), some (.lst ys) => xs.length + ys.length ≤ sizeLine ∧ Q (.ref a) (put S a (.lst (xs ++ ys)))
    | _, _ => False)
  | _, _ => False) := id rfl
theorem u_nGet (x : D) (y : D) (S : Sto) (Q : NQ) : nGet  x y S Q = (match x with
  | .ref p => (match S p with
    | some (.lst ds) => (match y with
      | .int i => 0 ≤ i ∧ (match ds[i.toNat]? with
        | some d => Q d S
        | none => False)
      | _ => False)
    | some (.dic kvs) => (match keyD y with
      | some k => (match dget kvs k with
        | some d => Q d S
        | none => False)
      | none => False)
    | _ => False)
  | _ => False) := id rfl
theorem u_sAugS (mo mi : NE) (m : NE) (n : N2) (Z0 : NEnds) (e : Env) (S : Sto) : sAugS mo mi m n Z0 e S = (mo e S fun x S1 => mi e S1 fun i S2 => nGet x i S2 fun y S3 => m e S3 fun z S4 => n y z S4 fun r S5 => nSet x i r S5 fun S6 => Z0.nx e S6) := id rfl
theorem u_nWalk (x : D) (S : Sto) (Q : (List D → Keep → Prop)) : nWalk  x S Q = (match x with
  | .tup ds => Q ds fun _ => True
  | .rol ds => Q ds fun _ => True
  | .ref p => (match S p with
    | some (.lst ds) => Q ds fun S' => S' p = some (.lst ds)
    | _ => False)
  | _ => False) := id rfl
theorem u_sFor (m : NE) (g : NG) (b : NS) (Z0 : NEnds) (e : Env) (S : Sto) : sFor m g b Z0 e S = (m e S fun x S1 => nWalk x S1 fun ds kp => runL g b Z0 kp ds e S1 .mk) := id rfl
theorem u_sForR1 (m : NE) (g : NG) (b : NS) (Z : NEnds) (e : Env) (S : Sto) : sForR1 m g b Z e S = (m e S fun x S1 => match x with
  | .int j => RngOk j ∧ runL g b Z (fun _ => True) (rangeD 0 j.toNat) e S1 .mk
  | _ => False) := id rfl
theorem u_sForR2 (m m' : NE) (g : NG) (b : NS) (Z : NEnds) (e : Env) (S : Sto) : sForR2 m m' g b Z e S = (m e S fun x S1 => m' e S1 fun y S2 => match x, y with
  | .int i, .int j => (RngOk i ∧ RngOk j) ∧ runL g b Z (fun _ => True) (rangeD i (j - i).toNat) e S2 .mk
  | _, _ => False) := id rfl
theorem u_sWhile (c : NT) (b : NS) (Z0 : NEnds) (e : Env) (S : Sto) : sWhile c b Z0 e S = (runW c b Z0 e S .mk) := id rfl
theorem u_sRaise (c : Str) (w : NW) (u0_ : NEnds) (e : Env) (S : Sto) : sRaise c w u0_ e S = (w c none e S) := id rfl
theorem u_sTryO (CL : List Str) (x : Str) (mb : NW → NS) (ms : NS) (w : NW) (Z0 : NEnds) (e : Env) (S : Sto) : sTryO CL x mb ms w Z0 e S = (mb (fun c d e1 S1 => match catchOf CL c x with
  | some true => ms Z0 e1 S1
  | some false => w c d e1 S1
  | none => False) Z0 e S) := id rfl
theorem u_sTryK (CL : List Str) (x : Str) (i j : Nat) (mb : NW → NS) (w : NW) (Z0 : NEnds) (e : Env) (S : Sto) : sTryK CL x i j mb w Z0 e S = (mb (fun c d e1 S1 => match catchOf CL c x with
  | some true => i < e1.length ∧ ∀ a, S1 a = none → Z0.nx ((e1.set j (some (.ref a))).set i none) (put S1 a (.exc c d))
  | some false => w c d e1 S1
  | none => False) Z0 e S) := id rfl
theorem u_nTupIndex (ys : List Str) (y : D) (S : Sto) (Q : NQ) : nTupIndex ys y S Q = (match y with
  | .str z => (match ys.findIdx? (fun x => decide (x = z)) with
    | some j => Q (.int (j : Nat)) S
    | none => False)
  | _ => False) := id rfl
theorem u_mTupIndex (ys : List Str) (m : NE) (e : Env) (S : Sto) (Q : NQ) : mTupIndex ys m e S Q = (m e S fun d S1 => nTupIndex ys d S1 Q) := id rfl
theorem u_nIndex (x : D) (y : D) (S : Sto) (Q : NQ) : nIndex  x y S Q = (match x with
  | .ref p => (match S p with
    | some (.lst ds) => flatD y = true ∧ ds.all flatD = true ∧ (match ds.findIdx? (fun d => eqF d y) with
      | some j => Q (.int (j : Nat)) S
      | none => False)
    | _ => False)
  | _ => False) := id rfl
theorem u_mLm (n : D → List D → Sto → NQ → Prop) (mo : NE) (mr : NA) (e : Env) (S : Sto) (Q : NQ) : mLm n mo mr e S Q = (mo e S fun x S1 => (∃ p ds, x = .ref p ∧ S1 p = some (.lst ds)) ∧ mr e S1 fun ds S2 => n x ds S2 Q) := id rfl
theorem u_nAppend (x : D) (ys : List D) (S : Sto) (Q : NQ) : nAppend  x ys S Q = (match x, ys with
  | .ref p, [y] => (match S p with
    | some (.lst ds) => ds.length < sizeLine ∧ Q .non (put S p (.lst (ds ++ [y])))
    | _ => False)
  | _, _ => False) := id rfl
theorem u_nIndexL (x : D) (ys : List D) (S : Sto) (Q : NQ) : nIndexL  x ys S Q = (match ys with
  | [y] => nIndex x y S Q
  | _ => False) := id rfl
theorem u_mDisp (ps : List (Key × NE)) (e : Env) (S : Sto) (Q : NQ) : mDisp ps e S Q = (∀ p, S p = none → mPairs ps e (put S p (.dic [])) fun kvs S2 => S2 p = some (.dic []) ∧ kvs.length ≤ 15 ∧ Q (.ref p) (put S2 p (.dic (mergeD [] kvs)))) := id rfl
theorem u_sFldAugN (f : Str) (mo mv : NE) (n : N2) (Z : NEnds) (e : Env) (S : Sto) : sFldAugN f mo mv n Z e S = (mo e S fun x S1 => match x with
  | .ref p => (match S1 p with
    | some (.ins c fs) => (match fs.lookup f with
      | some v => mv e S1 fun y S2 => n v y S2 fun z S3 => (match S3 p with
        | some (.ins c' fs') => c' = c ∧ fs'.length < 1000 ∧ Z.nx e (put S3 p (.ins c (putD f z fs')))
        | _ => False)
      | none => False)
    | _ => False)
  | _ => False) := id rfl
theorem u_nSub (x y : D) (S : Sto) (Q : NQ) : nSub x y S Q = nInt0 (fun i j => .int (i - j)) x y S Q := id rfl
theorem u_nMul (x y : D) (S : Sto) (Q : NQ) : nMul x y S Q = nInt MulOk (fun i j => .int (i * j)) x y S Q := id rfl
theorem u_nDiv (x y : D) (S : Sto) (Q : NQ) : nDiv x y S Q = nInt DivOk (fun i j => .int (i / j)) x y S Q := id rfl
theorem u_nMod (x y : D) (S : Sto) (Q : NQ) : nMod x y S Q = nInt (fun _ j => 0 < j) (fun i j => .int (i % j)) x y S Q := id rfl
theorem u_nPow (x y : D) (S : Sto) (Q : NQ) : nPow x y S Q = nInt PowOk (fun i j => .int (i ^ j.toNat)) x y S Q := id rfl
theorem u_nLt (x y : D) (S : Sto) (Q : NQ) : nLt x y S Q = nInt0 (fun i j => .bl (decide (i < j))) x y S Q := id rfl
theorem u_nLe (x y : D) (S : Sto) (Q : NQ) : nLe x y S Q = nInt0 (fun i j => .bl (decide (i ≤ j))) x y S Q := id rfl
theorem u_nGt (x y : D) (S : Sto) (Q : NQ) : nGt x y S Q = nInt0 (fun i j => .bl (decide (j < i))) x y S Q := id rfl
theorem u_nGe (x y : D) (S : Sto) (Q : NQ) : nGe x y S Q = nInt0 (fun i j => .bl (decide (j ≤ i))) x y S Q := id rfl
end N

set_option linter.all false
set_option maxRecDepth 100000
set_option maxHeartbeats 4000000
namespace N
open PySem L2
/-! ### the state of a law that draws numbers -/
@[irreducible] def stD (cells : List D) (b : Addr) (n : Int) : List (Key × D) := [(.inr "cells", .rol cells), (.inr "left", .ref b), (.inr "at", .int n)]
theorem stD_cells {cells : List D} {b : Addr} {n : Int} : dget (stD cells b n) (.inr "cells") = some (.rol cells) := by unfold stD; rfl
theorem stD_left {cells : List D} {b : Addr} {n : Int} : dget (stD cells b n) (.inr "left") = some (.ref b) := by unfold stD; rfl
theorem stD_at {cells : List D} {b : Addr} {n : Int} : dget (stD cells b n) (.inr "at") = some (.int n) := by unfold stD; rfl
theorem stD_put {cells : List D} {b : Addr} {n m : Int} : dput (stD cells b n) (.inr "at") (.int m) = stD cells b m := by unfold stD; rfl
theorem stD_len {cells : List D} {b : Addr} {n : Int} : ((stD cells b n).length < sizeLine) = True := by unfold stD; simp; decide
theorem stD_mk {cells : List D} {b : Addr} {n : Int} : mergeD [] [(.inr "cells", .rol cells), (.inr "left", .ref b), (.inr "at", .int n)] = stD cells b n := by unfold stD; rfl
structure LSt (a b : Addr) (ns : List Int) (S : Sto) : Prop where
  ab : a ≠ b
  ex : ∃ (n : Int) (ls : List Int), S a = some (.dic (stD (ns.map D.int) b n)) ∧ S b = some (.lst (ls.map D.int)) ∧ ls.length = ns.length
theorem LSt.up {a b : Addr} {ns : List Int} {S S' : Sto} {A : List Addr} (h : LSt a b ns S) (u : Upd A S S') (na : a ∉ A) (nb : b ∉ A) : LSt a b ns S' := by
  obtain ⟨ab, n, ls, h1, h2, h3⟩ := h
  exact ⟨ab, n, ls, u a _ na h1, u b _ nb h2, h3⟩
theorem pyDs_ints (ns : List Int) : pyDs (ns.map D.int) = some (ns.map PyData.int) := by
  induction ns with
  | nil => rfl
  | cons n r ih => simp only [List.map_cons, pyDs, pyD, ih]
theorem shaped_ints (ns : List Int) : SeqAt.shaped (.list (ns.map PyData.int)) = true := by
  have h1 : ∀ ns : List Int, PyData.canLayAll0 (ns.map PyData.int) = true := by
    intro ns; induction ns with
    | nil => rfl
    | cons n r ih => simp [PyData.canLayAll0, PyData.canLay0, ih]
  have h2 : ∀ ns : List Int, PyData.depthAll (ns.map PyData.int) ≤ 1 := by
    intro ns; induction ns with
    | nil => decide
    | cons n r ih => simp only [List.map_cons, PyData.depthAll, PyData.depth]; omega
  have h3 := h2 ns
  unfold SeqAt.shaped
  simp [PyData.canLay0, h1, PyData.depth]; omega
theorem eqT_rol_nil {S : Sto} {ns : List Int} {p : Addr} (h : S p = some (.lst [])) : eqT S (.rol (ns.map D.int)) (.ref p) = some (decide (ns = [])) := by
  unfold eqT
  simp only [pyT, pyD, h, pyDs_ints, pyDs, Option.map_some]
  cases ns with
  | nil => rfl
  | cons n r => rw [shaped_ints]; rfl
theorem idx_some {ns : List Int} {i : Int} (h0 : 0 ≤ i) (h1 : i < ns.length) : ∃ v, atI (ns.map D.int) i = some (.int v) ∧ ∀ w, ∃ ls, (ns.map D.int).set i.toNat (.int w) = List.map D.int ls ∧ ls.length = ns.length := by
  refine ⟨ns[i.toNat]'(by omega), ?_, fun w => ⟨ns.set i.toNat w, by rw [List.map_set], by simp⟩⟩
  rw [atI_nat' h0, List.getElem?_map, List.getElem?_eq_getElem (by omega)]
  rfl
theorem ixN_in {n : Nat} {i : Int} (h0 : 0 ≤ i) (h1 : i < n) : ixN n i = some i.toNat := by
  unfold ixN
  rw [if_pos h0, if_pos h1]
theorem mod_lt {i j : Int} (h : 0 < j) : 0 ≤ i % j ∧ i % j < j := ⟨Int.emod_nonneg _ (by omega), Int.emod_lt_of_pos _ h⟩
theorem mul_ok_l {i j : Int} (h0 : 0 ≤ i) (h1 : i < 2 ^ 64) : MulOk i j := .inl (by omega)
theorem mul_ok_r {i j : Int} (h0 : 0 ≤ j) (h1 : j < 2 ^ 64) : MulOk i j := .inr (.inl (by omega))
theorem eqT_ii {S : Sto} {i j : Int} : eqT S (.int i) (.int j) = some (decide (i = j)) := rfl
theorem eqT_ss {S : Sto} {i j : Str} : eqT S (.str i) (.str j) = some (decide (i = j)) := rfl
theorem eqT_bb {S : Sto} {i j : Bool} : eqT S (.bl i) (.bl j) = some (decide (i = j)) := rfl
theorem eqT_nn {S : Sto} : eqT S .non .non = some true := rfl
theorem eqT_ni {S : Sto} {i : Int} : eqT S .non (.int i) = some false := rfl
theorem eqT_in {S : Sto} {i : Int} : eqT S (.int i) .non = some false := rfl
theorem eqT_nb {S : Sto} {i : Bool} : eqT S .non (.bl i) = some false := rfl
theorem eqT_bn {S : Sto} {i : Bool} : eqT S (.bl i) .non = some false := rfl
theorem eqT_ns {S : Sto} {i : Str} : eqT S .non (.str i) = some false := rfl
theorem eqT_sn {S : Sto} {i : Str} : eqT S (.str i) .non = some false := rfl
theorem eqT_is {S : Sto} {i : Int} {s : Str} : eqT S (.int i) (.str s) = some false := rfl
theorem eqT_si {S : Sto} {i : Int} {s : Str} : eqT S (.str s) (.int i) = some false := rfl
theorem sl_0 : (0 ≤ sizeLine) = True := eq_true (by decide)
theorem sm_0 : (0 < sizeLine) = True := eq_true (by decide)
theorem sl_1 : (1 ≤ sizeLine) = True := eq_true (by decide)
theorem sm_1 : (1 < sizeLine) = True := eq_true (by decide)
theorem sl_2 : (2 ≤ sizeLine) = True := eq_true (by decide)
theorem sm_2 : (2 < sizeLine) = True := eq_true (by decide)
theorem sl_3 : (3 ≤ sizeLine) = True := eq_true (by decide)
theorem sm_3 : (3 < sizeLine) = True := eq_true (by decide)
theorem sl_4 : (4 ≤ sizeLine) = True := eq_true (by decide)
theorem sm_4 : (4 < sizeLine) = True := eq_true (by decide)
theorem sl_5 : (5 ≤ sizeLine) = True := eq_true (by decide)
theorem sm_5 : (5 < sizeLine) = True := eq_true (by decide)
theorem sl_6 : (6 ≤ sizeLine) = True := eq_true (by decide)
theorem sm_6 : (6 < sizeLine) = True := eq_true (by decide)
theorem sl_7 : (7 ≤ sizeLine) = True := eq_true (by decide)
theorem sm_7 : (7 < sizeLine) = True := eq_true (by decide)
theorem sl_8 : (8 ≤ sizeLine) = True := eq_true (by decide)
theorem sm_8 : (8 < sizeLine) = True := eq_true (by decide)
theorem sl_9 : (9 ≤ sizeLine) = True := eq_true (by decide)
theorem sm_9 : (9 < sizeLine) = True := eq_true (by decide)
theorem sl_10 : (10 ≤ sizeLine) = True := eq_true (by decide)
theorem sm_10 : (10 < sizeLine) = True := eq_true (by decide)
theorem sl_11 : (11 ≤ sizeLine) = True := eq_true (by decide)
theorem sm_11 : (11 < sizeLine) = True := eq_true (by decide)
theorem sl_12 : (12 ≤ sizeLine) = True := eq_true (by decide)
theorem sm_12 : (12 < sizeLine) = True := eq_true (by decide)
theorem div_ok {i j : Int} (h0 : 0 < j) (h1 : j < 2 ^ 64) : DivOk i j := ⟨h0, Nat.lt_of_lt_of_le (by omega : j.natAbs < 2 ^ 64) (Nat.pow_le_pow_right (by decide) (by decide))⟩
theorem u_whileN (c : NT) (b : NS) (D : NEnds) (n : Nat) (e : Env) (S : Sto) : whileN c b D (n + 1) e S = (c e S fun k S1 => match k with
  | true => b { nx := whileN c b D n, ct := whileN c b D n, bk := D.nx, rt := D.rt } e S1
  | false => D.nx e S1) := id rfl
theorem eqT_t2 {S : Sto} {i j : Int} : eqT S (.tup [.int i, .int j]) (.tup [.int i, .int j]) = some true := by
  unfold eqT
  simp only [pyT, pyD, pyDs, Option.map_some]
  have h : SeqAt.shaped (.tuple [.int i, .int j]) = true := rfl
  rw [h]
  simp [PyData.eqv, PyData.eqvAll]
theorem share_lt {g d k : Int} (h1 : 1 ≤ g) (h2 : 1 ≤ d) (h3 : 0 ≤ k) : g * k / (d + k) < g := by
  refine Int.ediv_lt_of_lt_mul (by omega) ?_
  rw [Int.mul_add]
  have := Int.mul_le_mul h1 h2 (by decide) (by omega)
  omega
theorem share_nn {g d k : Int} (h1 : 0 ≤ g) (h2 : 0 ≤ d) (h3 : 0 ≤ k) : 0 ≤ g * k / (d + k) := Int.ediv_nonneg (Int.mul_nonneg h1 h3) (by omega)
theorem runL_inv {g : NG} {b : NS} {Z : NEnds} {kp : Keep} {T : TgZ g b Z} (Inv : Env → Sto → Prop) (hk : ∀ e S, Inv e S → kp S) (hz : ∀ e S, Inv e S → Z.nx e S) : ∀ {ds : List D} {e : Env} {S : Sto}, Inv e S → (∀ x ∈ ds, ∀ e S (C : Env → Sto → Prop), Inv e S → (∀ e' S', Inv e' S' → C e' S') → g x e S fun e1 S1 => b { nx := C, ct := C, bk := Z.nx, rt := Z.rt } e1 S1) → runL g b Z kp ds e S T
  | [], e, S, h0, _ => hz e S h0
  | x :: ds, e, S, h0, hs => hs x (by simp) e S _ h0 fun e' S' h' => ⟨hk e' S' h', runL_inv (T := .mk) Inv hk hz h' fun y hy => hs y (by simp [hy])⟩
theorem LSt.fresh {a b p : Addr} {ns : List Int} {S : Sto} (h : LSt a b ns S) (hp : S p = none) : p ≠ a ∧ p ≠ b := by
  obtain ⟨_, n, ls, q1, q2, _⟩ := h
  exact ⟨(fun z => by rw [z, q1] at hp; cases hp), (fun z => by rw [z, q2] at hp; cases hp)⟩
theorem str_ok (s : String) : PyData.strOk (Str.ofString s) = true := by
  rw [Str.ofString_eq_toList]
  unfold PyData.strOk
  simp
  intro c _
  have := c.valid
  unfold UInt32.isValidChar Nat.isValidChar at this
  have e : c.toNat = c.val.toNat := rfl
  omega
theorem eqT_tup {S : Sto} {ds : List D} {ps : List PyData} (h : pyDs ds = some ps) (c : PyData.canLayAll0 ps = true) (d : PyData.depthAll ps ≤ 60) : eqT S (.tup ds) (.tup ds) = some true := by
  have c' : PyData.canLay0 (.tuple ps) = true := by simp only [PyData.canLay0]; exact c
  have h2 : SeqAt.shaped (.tuple ps) = true := by
    unfold SeqAt.shaped
    rw [c']
    simp [PyData.depth]
    omega
  unfold eqT
  simp only [pyT, pyD, h, Option.map_some, h2, SeqAt.eqv_refl _ c', Bool.and_self, if_true]
theorem u_runL0 (g : NG) (b : NS) (Z : NEnds) (kp : Keep) (e : Env) (S : Sto) (T : TgZ g b Z) : runL g b Z kp [] e S T = Z.nx e S := id rfl
theorem u_runL1 (g : NG) (b : NS) (Z : NEnds) (kp : Keep) (x : D) (xs : List D) (e : Env) (S : Sto) (T : TgZ g b Z) : runL g b Z kp (x :: xs) e S T = g x e S fun e1 S1 => b { nx := fun e2 S2 => kp S2 ∧ runL g b Z kp xs e2 S2 .mk, ct := fun e2 S2 => kp S2 ∧ runL g b Z kp xs e2 S2 .mk, bk := Z.nx, rt := Z.rt } e1 S1 := id rfl
/-- one turn: what comes behind it is told by I alone -/
theorem runL_cons {g : NG} {b : NS} {Z : NEnds} {kp : Keep} {x : D} {xs : List D} {e : Env} {S : Sto} {T : TgZ g b Z} (I : Env → Sto → Prop) (hI : ∀ e2 S2, I e2 S2 → kp S2 ∧ runL g b Z kp xs e2 S2 .mk) (hs : ∀ C : Env → Sto → Prop, (∀ e2 S2, I e2 S2 → C e2 S2) → g x e S fun e1 S1 => b { nx := C, ct := C, bk := Z.nx, rt := Z.rt } e1 S1) : runL g b Z kp (x :: xs) e S T := hs _ hI
theorem u_runF (sp : NSp) (ds : List D) (S : Sto) (Q : NQ) (E : Str → Option Addr → Sto → Prop) (T : TgQ Q E) : runF sp ds S Q E T = sp ds S Q E := id rfl
/-- a loop by what is left -/
theorem runL_invL {g : NG} {b : NS} {Z : NEnds} {kp : Keep} {T : TgZ g b Z} (Inv : List D → Env → Sto → Prop) (hk : ∀ xs e S, Inv xs e S → kp S) (hz : ∀ e S, Inv [] e S → Z.nx e S) (hs : ∀ x xs e S (C : Env → Sto → Prop), Inv (x :: xs) e S → (∀ e' S', Inv xs e' S' → C e' S') → g x e S fun e1 S1 => b { nx := C, ct := C, bk := Z.nx, rt := Z.rt } e1 S1) : ∀ {ds : List D} {e : Env} {S : Sto}, Inv ds e S → runL g b Z kp ds e S T
  | [], e, S, h0 => hz e S h0
  | x :: ds, e, S, h0 => hs x ds e S _ h0 fun e' S' h' => ⟨hk ds e' S' h', runL_invL (T := .mk) Inv hk hz hs h'⟩
/-! ### comprehensions, walks -/
structure TgC (g : NG) (tt : NT) (te : NE) (Q : Sto → Prop) : Type where
def runC (g : NG) (tt : NT) (te : NE) (kp : Keep) (p : Addr) (e : Env) (ds : List D) (S : Sto) (Q : Sto → Prop) (_ : TgC g tt te Q) : Prop := lcL g tt te kp p e ds S Q
theorem u_mLc (mi : NI) (g : NG) (tt : NT) (te : NE) (vs : List Nat) (e : Env) (S : Sto) (Q : NQ) : mLc mi g tt te vs e S Q = (mi e S fun ds kp S1 => ∀ p, S1 p = none → kp (put S1 p (.lst [])) ∧ runC g tt te kp p (nwipe e vs) ds (put S1 p (.lst [])) (fun S2 => Q (.ref p) S2) .mk) := id rfl
theorem u_nwipe0 (e : Env) : nwipe e [] = e := id rfl
theorem u_nwipe1 (e : Env) (v : Nat) (vs : List Nat) : nwipe e (v :: vs) = (nwipe e vs).set v none := id rfl
theorem u_mYes (e : Env) (S : Sto) (Q : Bool → Sto → Prop) : mYes e S Q = Q true S := id rfl
theorem u_iWalk (m : NE) (e : Env) (S : Sto) (Q : List D → Keep → Sto → Prop) : iWalk m e S Q = (m e S fun x S1 => nWalkA x S1 fun ds kp => Q ds kp S1) := id rfl
theorem u_nWalkA (x : D) (S : Sto) (Q : List D → Keep → Prop) : nWalkA x S Q = (match x with
  | .tup ds => Q ds fun _ => True
  | .rol ds => Q ds fun _ => True
  | .str z => Q (signsD z) fun _ => True
  | .ref p => (match S p with
    | some (.lst ds) => Q ds fun S' => S' p = some (.lst ds)
    | _ => False)
  | _ => False) := id rfl
theorem u_iRg1 (m : NE) (e : Env) (S : Sto) (Q : List D → Keep → Sto → Prop) : iRg1 m e S Q = (m e S fun x S1 => match x with
  | .int j => RngOk j ∧ Q (rangeD 0 j.toNat) (fun _ => True) S1
  | _ => False) := id rfl
theorem u_iRg2 (m m' : NE) (e : Env) (S : Sto) (Q : List D → Keep → Sto → Prop) : iRg2 m m' e S Q = (m e S fun x S1 => m' e S1 fun y S2 => match x, y with
  | .int i, .int j => (RngOk i ∧ RngOk j) ∧ Q (rangeD i (j - i).toNat) (fun _ => True) S2
  | _, _ => False) := id rfl
theorem u_nLstAt (x : D) (S : Sto) (Q : List D → Keep → Prop) : nLstAt x S Q = (match x with
  | .rol ds => Q ds fun _ => True
  | .ref p => (match S p with
    | some (.lst ds) => Q ds fun S' => S' p = some (.lst ds)
    | _ => False)
  | _ => False) := id rfl
theorem u_iEnumN (m : NE) (e : Env) (S : Sto) (Q : List D → Keep → Sto → Prop) : iEnumN m e S Q = (m e S fun x S1 => nLstAt x S1 fun ds kp => Q (enumD ds 0) kp S1) := id rfl
theorem u_iZipN (m m' : NE) (e : Env) (S : Sto) (Q : List D → Keep → Sto → Prop) : iZipN m m' e S Q = (m e S fun x S1 => m' e S1 fun y S2 => nLstAt x S2 fun ds kp => nLstAt y S2 fun es kp' => Q (zipD ds es) (fun S' => kp S' ∧ kp' S') S2) := id rfl
theorem u_sForI (mi : NI) (g : NG) (b : NS) (Z : NEnds) (e : Env) (S : Sto) : sForI mi g b Z e S = (mi e S fun ds kp S1 => runL g b Z kp ds e S1 .mk) := id rfl
theorem u_nSum (d : D) (S : Sto) (Q : NQ) : nSum [d] S Q = (match lstOf S d with
    | some ds => (match intsOf ds with
      | some ns => Q (.int ns.sum) S
      | none => False)
    | none => False) := id rfl
theorem u_nAll (d : D) (S : Sto) (Q : NQ) : nAll [d] S Q = (match lstOf S d with
    | some ds => (match blsOf ds with
      | some ns => Q (.bl (ns.all id)) S
      | none => False)
    | none => False) := id rfl
theorem u_nMaxL (d : D) (S : Sto) (Q : NQ) : nMaxL [d] S Q = (match lstOf S d with
    | some ds => (match intsOf ds with
      | some ns => 0 < ns.length ∧ ∀ m, m ∈ ns → (∀ y, y ∈ ns → y ≤ m) → Q (.int m) S
      | none => False)
    | none => False) := id rfl
theorem u_nIsC (IC : List Str) (a : Addr) (d : Str) (S : Sto) (Q : NQ) : nIsC IC [.ref a, .cls d] S Q = (match S a with
    | some (.ins c _) => IC.contains c = true ∧ IC.contains d = true ∧ Q (.bl (isC c d)) S
    | _ => False) := id rfl
theorem put_put {S : Sto} {p : Addr} {a b : Ob} : put (put S p a) p b = put S p b := by
  funext x
  unfold put
  by_cases h : x = p
  · rw [if_pos h, if_pos h]
  · rw [if_neg h, if_neg h, if_neg h]
/-- a comprehension whose items change nothing -/
theorem lc_pure (f : D → Option D) {g : NG} {tt : NT} {te : NE} {kp : Keep} {p : Addr} {e : Env} {S1 : Sto} {Q : Sto → Prop} (hk : ∀ l, kp (put S1 p (.lst l))) : ∀ {ds acc : List D}, acc.length + ds.length ≤ sizeLine →
    (∀ x ∈ ds, ∀ l (Y : D → Sto → Prop) (N : Sto → Prop), (match f x with | some y => Y y (put S1 p (.lst l)) | none => N (put S1 p (.lst l))) → g x e (put S1 p (.lst l)) fun e2 S2 => tt e2 S2 fun b S3 => match b with | true => te e2 S3 Y | false => N S3) →
    Q (put S1 p (.lst (acc ++ ds.filterMap f))) → lcL g tt te kp p e ds (put S1 p (.lst acc)) Q
  | [], acc, _, _, q => by
    rw [List.filterMap_nil, List.append_nil] at q
    exact q
  | x :: xs, acc, hl, h, q => by
    simp only [List.length_cons] at hl
    refine h x (by simp) acc _ _ ?_
    cases hf : f x with
    | none =>
      refine ⟨hk _, lc_pure f hk (by omega) (fun z hz => h z (by simp [hz])) ?_⟩
      rw [List.filterMap_cons_none hf] at q
      exact q
    | some y =>
      dsimp only
      rw [put_same]
      refine ⟨by omega, ?_, ?_⟩
      · rw [put_put]; exact hk _
      · rw [put_put]
        refine lc_pure f hk (by simp only [List.length_append, List.length_cons, List.length_nil]; omega) (fun z hz => h z (by simp [hz])) ?_
        rw [List.filterMap_cons_some hf] at q
        rw [List.append_assoc]
        exact q
theorem runC_pure (f : D → Option D) {g : NG} {tt : NT} {te : NE} {kp : Keep} {p : Addr} {e : Env} {S1 : Sto} {Q : Sto → Prop} {T : TgC g tt te Q} {ds : List D} (hk : ∀ l, kp (put S1 p (.lst l))) (hl : ds.length ≤ sizeLine)
    (h : ∀ x ∈ ds, ∀ l (Y : D → Sto → Prop) (N : Sto → Prop), (match f x with | some y => Y y (put S1 p (.lst l)) | none => N (put S1 p (.lst l))) → g x e (put S1 p (.lst l)) fun e2 S2 => tt e2 S2 fun b S3 => match b with | true => te e2 S3 Y | false => N S3)
    (q : Q (put S1 p (.lst (ds.filterMap f)))) : runC g tt te kp p e ds (put S1 p (.lst [])) Q T := lc_pure f hk (by simpa using hl) h (by simpa using q)
theorem u_nRevP (x y : D) (S : Sto) (Q : NQ) : nRevP (.tup [x, y]) S Q = Q (.tup [y, x]) S := id rfl
theorem u_nMax1L (a : Addr) (S : Sto) (Q : NQ) : nMax1 [.ref a] S Q = nMaxL [.ref a] S Q := id rfl
theorem u_nMax1T (i : Int) (r : List D) (S : Sto) (Q : NQ) : nMax1 [.tup (.int i :: r)] S Q = (match intsOf r with
    | some ns => ns.length ≤ 100 ∧ Q (.int (ns.foldl max i)) S
    | none => False) := id rfl
theorem u_nMinT (i : Int) (r : List D) (S : Sto) (Q : NQ) : nMinT [.tup (.int i :: r)] S Q = (match intsOf r with
    | some ns => ns.length ≤ 100 ∧ Q (.int (ns.foldl min i)) S
    | none => False) := id rfl
theorem u_sPar (i j : Nat) (ma mb : NE) (Z : NEnds) (e : Env) (S : Sto) : sPar i j ma mb Z e S = (ma e S fun x S1 => mb e S1 fun y S2 => Z.nx ((e.set i (some x)).set j (some y)) S2) := id rfl
theorem Upd.fresh' {A : List Addr} {S S' : Sto} {p : Addr} (u : Upd A S S') (hp : S' p = Option.none) (np : p ∉ A) : S p = Option.none := by
  cases e : S p with
  | none => rfl
  | some o => rw [u p o np e] at hp; cases hp
theorem Upd.putF {A : List Addr} {S S' : Sto} {p : Addr} {o : Ob} (u : Upd A S S') (hp : S p = Option.none) : Upd A S (put S' p o) := fun b ob hb e => by
  have : b ≠ p := fun z => by rw [z, hp] at e; cases e
  rw [put_ne this]; exact u b ob hb e
end N

set_option Elab.async false
set_option linter.all false
set_option maxRecDepth 100000
namespace N
open PySem PySem.Spec PyProof.Rows L2
/-! ### the lambdas and texts, unfolded -/
structure TgA (act : NSp) (Q : NQ) (E : Str → Option Addr → Sto → Prop) : Type where
def runA (spT : NSp → NSp) (act : NSp) (S : Sto) (Q : NQ) (E : Str → Option Addr → Sto → Prop) (_ : TgA act Q E) : Prop := spT act [] S Q E
theorem u_mLam (spT : NSp → NSp) (w : NW) (mb : NW → NE) (e : Env) (S : Sto) (Q : NQ) : mLam spT w mb e S Q = runA spT (fun _ S' Q' E' => mb (fun c d _ S2 => E' c d S2) e S' Q') S Q (fun c d S' => w c d e S') .mk := id rfl
theorem u_mAct (i : Nat) (f : Addr) (act : NSp) (w : NW) (e : Env) (S : Sto) (Q : NQ) : mAct i f act w e S Q = (e[i]? = some (some (.ref f)) ∧ runF act [] S Q (fun c d S' => w c d e S') .mk) := id rfl
theorem u_spAct (N : Nat) (mT : Addr → NSp → NW → NS) (act : NSp) (ds : List D) (S : Sto) (Q : NQ) (E : Str → Option Addr → Sto → Prop) : spAct N mT act ds S Q E = (∀ f, S f = none → mT f act (fun c d _ S' => E c d S') { nx := fun _ S' => Q .non S', rt := Q } (startN N [.ref f]) S) := id rfl
theorem u_runA (spT : NSp → NSp) (act : NSp) (S : Sto) (Q : NQ) (E : Str → Option Addr → Sto → Prop) (T : TgA act Q E) : runA spT act S Q E T = spT act [] S Q E := id rfl
theorem u_mM1 (n : D → D → Sto → NQ → Prop) (mo me : NE) (e : Env) (S : Sto) (Q : NQ) : mM1 n mo me e S Q = (mo e S fun x S1 => match x with
  | .str a => me e S1 fun y S2 => n (.str a) y S2 Q
  | _ => False) := id rfl
theorem u_nJoin (a : Str) (y : D) (S : Sto) (Q : NQ) : nJoin (.str a) y S Q = (match seqOf S y with
  | some ds => (match strsOf ds with
    | some ss => (ss.map (·.length)).sum + ss.length * a.length ≤ 16777216 ∧ Q (.str (Txt.join a ss)) S
    | none => False)
  | none => False) := id rfl
theorem u_nSplit (a b : Str) (S : Sto) (Q : NQ) : nSplit (.str a) (.str b) S Q = ((b.length == 0) = false ∧ a.length + 2 ≤ sizeLine ∧ ∀ p, S p = none → Q (.ref p) (put S p (.lst ((Txt.split a b).map D.str)))) := id rfl
theorem u_nPart (a b : Str) (S : Sto) (Q : NQ) : nPart (.str a) (.str b) S Q = ((b.length == 0) = false ∧ a.length ≤ sizeLine ∧ Q (.tup [.str (Txt.partition a b).1, .str (Txt.partition a b).2.1, .str (Txt.partition a b).2.2]) S) := id rfl
theorem u_mTabGet (kvs : List (Str × Int)) (me mf : NE) (e : Env) (S : Sto) (Q : NQ) : mTabGet kvs me mf e S Q = (me e S fun x S1 => mf e S1 fun y S2 => match x with
  | .str z => (match kvs.lookup z with
    | some i => Q (.int i) S2
    | none => Q y S2)
  | _ => False) := id rfl
theorem u_sRaiseX (c f : Str) (m : NE) (w : NW) (Z : NEnds) (e : Env) (S : Sto) : sRaiseX c f m w Z e S = (m e S fun y S1 => ∀ d, S1 d = none → w c (some d) e (put S1 d (.xd [(f, y)]))) := id rfl
theorem u_iKeysN (m : NE) (e : Env) (S : Sto) (Q : List D → Keep → Sto → Prop) : iKeysN m e S Q = (m e S fun x S1 => match lokOf S1 x with
  | some kvs => Q (kvs.map fun kv => kD kv.1) (fun _ => True) S1
  | none => False) := id rfl
theorem u_iValsN (m : NE) (e : Env) (S : Sto) (Q : List D → Keep → Sto → Prop) : iValsN m e S Q = (m e S fun x S1 => match lokOf S1 x with
  | some kvs => Q (kvs.map fun kv => kv.2) (fun _ => True) S1
  | none => False) := id rfl
theorem u_iItemsN (m : NE) (e : Env) (S : Sto) (Q : List D → Keep → Sto → Prop) : iItemsN m e S Q = (m e S fun x S1 => match lokOf S1 x with
  | some kvs => Q (kvs.map fun kv => .tup [kD kv.1, kv.2]) (fun _ => True) S1
  | none => False) := id rfl
theorem u_nListD (d : D) (S : Sto) (Q : NQ) : nListD [d] S Q = (match dicOf S d with
  | some kvs => ∀ p, S p = none → Q (.ref p) (put S p (.lst (kvs.map fun kv => kD kv.1)))
  | none => nList1 [d] S Q) := id rfl
theorem u_mListVals (me : NE) (e : Env) (S : Sto) (Q : NQ) : mListVals me e S Q = (me e S fun x S1 => match dicOf S1 x with
  | some kvs => ∀ p, S1 p = none → Q (.ref p) (put S1 p (.lst (kvs.map fun kv => kv.2)))
  | none => False) := id rfl
theorem u_nExtend (p b : Addr) (S : Sto) (Q : NQ) : nExtend (.ref p) [.ref b] S Q = (match S p, S b with
  | some (.lst ds), some (.lst es) => ds.length + es.length ≤ sizeLine ∧ Q .non (put S p (.lst (ds ++ es)))
  | _, _ => False) := id rfl
theorem u_mMethD (m : Str) (mt : MT) (i : Int) (w : NW) (mo : NE) (mr : NA) (e : Env) (S : Sto) (Q : NQ) : mMethD m mt i w mo mr e S Q = (mo e S fun x S1 => match x with
  | .ref p => (match S1 p with
    | some (.ins c fs) => fs.lookup m = none ∧ (match mt c with
      | some (n, sp) => mr e S1 fun ds S2 => ds.length + 2 = n ∧ runF sp (.ref p :: (ds ++ [.int i])) S2 Q (fun c d S3 => w c d e S3) .mk
      | none => False)
    | _ => False)
  | _ => False) := id rfl
theorem u_nEqG (x y : D) (S : Sto) (Q : NQ) : nEqG x y S Q = (match eqG S x y with
  | some b => Q (.bl b) S
  | none => False) := id rfl
theorem u_nNeG (x y : D) (S : Sto) (Q : NQ) : nNeG x y S Q = (match eqG S x y with
  | some b => Q (.bl (!b)) S
  | none => False) := id rfl
theorem u_nEqL (x y : D) (S : Sto) (Q : NQ) : nEqL x y S Q = (match eqU S x y with
  | some b => Q (.bl b) S
  | none => False) := id rfl
theorem u_nNeL (x y : D) (S : Sto) (Q : NQ) : nNeL x y S Q = (match eqU S x y with
  | some b => Q (.bl (!b)) S
  | none => False) := id rfl
theorem u_nEqX (x y : D) (S : Sto) (Q : NQ) : nEqX x y S Q = (match dic1 S x, dic1 S y with
  | some ks, some ls => (match eqDic ks ls with
    | some b => Q (.bl b) S
    | none => False)
  | _, _ => nEq x y S Q) := id rfl
theorem u_nNeX (x y : D) (S : Sto) (Q : NQ) : nNeX x y S Q = (match dic1 S x, dic1 S y with
  | some ks, some ls => (match eqDic ks ls with
    | some b => Q (.bl (!b)) S
    | none => False)
  | _, _ => nNe x y S Q) := id rfl
/-- the expression is told while the dict at p is locked: by hand -/
theorem u_mLock (m : NE) (e : Env) (S : Sto) (Q : NQ) : mLock m e S Q = ∃ p kvs, S p = some (.dic kvs) ∧ m e (put S p (.lok kvs)) fun d S' => Q d (put S' p (.dic kvs)) := id rfl
theorem lock_e {m : NE} {e : Env} {S : Sto} {Q : NQ} {p : Addr} {kvs : List (Key × D)} (h : S p = some (.dic kvs)) (q : m e (put S p (.lok kvs)) fun d S' => Q d (put S' p (.dic kvs))) : mLock m e S Q := ⟨p, kvs, h, q⟩
theorem lock_s {t : NS} {Z : NEnds} {e : Env} {S : Sto} {p : Addr} {kvs : List (Key × D)} (h : S p = some (.dic kvs)) (q : t { nx := fun e' S' => Z.nx e' (put S' p (.dic kvs)), rt := fun d S' => Z.rt d (put S' p (.dic kvs)), bk := fun e' S' => Z.bk e' (put S' p (.dic kvs)), ct := fun e' S' => Z.ct e' (put S' p (.dic kvs)) } e (put S p (.lok kvs))) : sLock t Z e S := ⟨p, kvs, h, q⟩
/-- locked and unlocked again: all stays -/
theorem lock_back {S : Sto} {p : Addr} {kvs : List (Key × D)} (h : S p = some (.dic kvs)) : put (put S p (.lok kvs)) p (.dic kvs) = S := by
  funext a
  by_cases e : a = p
  · rw [e, put_same, h]
  · rw [put_ne e, put_ne e]
theorem lock_upd {A : List Addr} {S S' : Sto} {p : Addr} {kvs : List (Key × D)} (h : S p = some (.dic kvs)) (u : Upd A (put S p (.lok kvs)) S') : Upd A S (put S' p (.dic kvs)) := fun a o n e => by
  by_cases ea : a = p
  · rw [ea] at e ⊢
    rw [h] at e
    rw [put_same]; exact e
  · rw [put_ne ea]
    exact u a o n (by rw [put_ne ea]; exact e)
theorem u_mOrT (m n : NE) (e : Env) (S : Sto) (Q : NQ) : mOrT m n e S Q = (m e S fun d S1 => match truD d with
  | some true => Q d S1
  | some false => n e S1 Q
  | none => False) := id rfl
theorem u_nMulS (x y : D) (S : Sto) (Q : NQ) : nMulS x y S Q = (match x, y with
  | .str z, .int i => (0 ≤ i ∧ i ≤ 1000 ∧ z.length ≤ 1000) ∧ Q (.str (Txt.mul z i)) S
  | _, _ => False) := id rfl
theorem u_nMulL (x y : D) (S : Sto) (Q : NQ) : nMulL x y S Q = (match x, y with
  | .ref a, .int i => (match S a with
    | some (.lst xs) => (0 ≤ i ∧ i ≤ 1000 ∧ xs.length ≤ 1000) ∧ ∀ p, S p = none → Q (.ref p) (put S p (.lst (List.replicate i.toNat xs).flatten))
    | _ => False)
  | _, _ => False) := id rfl
end N

set_option linter.all false
set_option maxRecDepth 100000
namespace K25
open PySem N
def CL : List Str := ["BadMaker", "BadWare", "BadCount", "TooMuch", "NoText", "NoName", "TooLittle", "NoParting"]
def IC : List Str := []
def c_SIZES : List (Str × Int) := [("product", 6), ("stretch", 8), ("sum", 8)]
def c_WARES : List Str := ["salt", "cloth"]
/-- Maker_called(self) : 0=self -/
def m_Maker_called (w : NW) : NS :=
    (sRet (mC (.str "product")))
@[irreducible] def sp_Maker_called : NSp := spOf 1 m_Maker_called
/-- Stretch_called(self) : 0=self -/
def m_Stretch_called (w : NW) : NS :=
    (sRet (mC (.str "stretch")))
@[irreducible] def sp_Stretch_called : NSp := spOf 1 m_Stretch_called
/-- Sum_called(self) : 0=self -/
def m_Sum_called (w : NW) : NS :=
    (sRet (mC (.str "sum")))
@[irreducible] def sp_Sum_called : NSp := spOf 1 m_Sum_called
def mt_Maker_called : MT := fun c => if c = "Product" then some (1, sp_Maker_called) else if c = "Stretch" then some (1, sp_Stretch_called) else if c = "Sum" then some (1, sp_Sum_called) else none
/-- Maker_plain(self) : 0=self -/
def m_Maker_plain (w : NW) : NS :=
    (sRet (mOp nAdd (mTup (mCons (mMeth "called" mt_Maker_called w (mVar 0) mNil) (mCons (mOp nIx (mUn (nFld "stock") (mVar 0)) (mC (.int 0))) (mCons (mOp nIx (mUn (nFld "stock") (mVar 0)) (mC (.int 1))) (mCons (mUn (nFld "due") (mVar 0)) mNil))))) (mUn (nFld "more") (mVar 0))))
@[irreducible] def sp_Maker_plain : NSp := spOf 1 m_Maker_plain
/-- Market_maker(self, name) : 0=self 1=name -/
def m_Market_maker (w : NW) : NS :=
    (sSeq (sIf (mOr (mNot (mTst (mCallB (nIsi CL) (mCons (mVar 1) (mCons (mC (.ty "str")) mNil))))) (mTst (mOp nNin (mVar 1) (mUn (nFld "stalls") (mVar 0)))))
    (sRaise "NoName" w)
    sNext)
    (sRet (mOp nIx (mUn (nFld "stalls") (mVar 0)) (mVar 1))))
@[irreducible] def sp_Market_maker : NSp := spOf 2 m_Market_maker
/-- _law_mixed(_law_cell, _law_k) : 0=_law_cell 1=_law_k -/
def m__law_mixed (w : NW) : NS :=
    (sRet (mOp nMod (mOp nMul (mOp nMod (mOp nAdd (mOp nAdd (mOp nMul (mVar 0) (mOp nAdd (mC (.int 48271)) (mOp nMul (mOp nMul (mC (.int 2)) (mVar 1)) (mVar 1)))) (mOp nMul (mC (.int 69621)) (mVar 1))) (mC (.int 11))) (mC (.int 2147483647))) (mC (.int 69621))) (mC (.int 2147483629))))
@[irreducible] def sp__law_mixed : NSp := spOf 2 m__law_mixed
/-- _law_next(_law_state) : 0=_law_state 1=_law_k 2=_law_at 3=_law_number -/
def m__law_next (w : NW) : NS :=
    (sSeq (sAsg (mOp nAdd (mOp nIx (mVar 0) (mC (.str "at"))) (mC (.int 1))) (gIx (mVar 0) (mC (.str "at"))))
    (sSeq (sSet 1 (mOp nIx (mVar 0) (mC (.str "at"))))
    (sSeq (sIf (mTst (mOp nEq (mOp nIx (mVar 0) (mC (.str "cells"))) (mLst mNil)))
    (sRet (mCall 2 sp__law_mixed w (mCons (mOp nMul (mC (.int 7919)) (mVar 1)) (mCons (mOp nMod (mVar 1) (mC (.int 1000))) mNil))))
    sNext)
    (sSeq (sSet 2 (mOp nMod (mVar 1) (mCallB nLen (mCons (mOp nIx (mVar 0) (mC (.str "cells"))) mNil))))
    (sSeq (sIf (mAnd (mTst (mOp nEq (mOp nMod (mOp nIx (mOp nIx (mVar 0) (mC (.str "cells"))) (mC (.int 0))) (mC (.int 2))) (mC (.int 1)))) (mTst (mOp nNin (mOp nIx (mOp nIx (mVar 0) (mC (.str "left"))) (mVar 2)) (mTup (mCons (mC (.int 0)) (mCons (mUn nNeg (mC (.int 1))) mNil))))))
    (sSeq (sSet 3 (mOp nMod (mOp nIx (mOp nIx (mVar 0) (mC (.str "left"))) (mVar 2)) (mC (.int 2147483647))))
    (sSeq (sAsg (mOp nDiv (mOp nIx (mOp nIx (mVar 0) (mC (.str "left"))) (mVar 2)) (mC (.int 2147483647))) (gIx (mOp nIx (mVar 0) (mC (.str "left"))) (mVar 2)))
    (sRet (mVar 3))))
    sNext)
    (sRet (mCall 2 sp__law_mixed w (mCons (mOp nAdd (mOp nIx (mOp nIx (mVar 0) (mC (.str "cells"))) (mVar 2)) (mOp nMul (mC (.int 7919)) (mVar 1))) (mCons (mOp nMod (mVar 1) (mC (.int 1000))) mNil)))))))))
@[irreducible] def sp__law_next : NSp := spOf 4 m__law_next
/-- _law_great(_law_state, _law_most) : 0=_law_state 1=_law_most 2=_law_number 3=_law_wide 4=_law_some -/
def m__law_great (w : NW) : NS :=
    (sSeq (sSet 2 (mCall 1 sp__law_next w (mCons (mVar 0) mNil)))
    (sSeq (sSet 3 (mOp nAdd (mOp nMul (mVar 2) (mC (.int 2147483629))) (mCall 1 sp__law_next w (mCons (mVar 0) mNil))))
    (sSeq (sSet 4 (mLst (mCons (mOp nMod (mVar 3) (mOp nAdd (mVar 1) (mC (.int 1)))) (mCons (mOp nMod (mVar 3) (mC (.int 50))) (mCons (mOp nMod (mVar 3) (mC (.int 10000))) (mCons (mOp nSub (mVar 1) (mOp nMod (mVar 3) (mC (.int 50)))) (mCons (mOp nAdd (mOp nPow (mC (.int 10)) (mC (.int 6))) (mOp nMod (mVar 3) (mOp nPow (mC (.int 10)) (mC (.int 6))))) (mCons (mOp nMod (mVar 3) (mC (.int 1000))) mNil))))))))
    (sRet (mCallB nMin2 (mCons (mVar 1) (mCons (mCallB nMax2 (mCons (mC (.int 0)) (mCons (mOp nIx (mVar 4) (mOp nMod (mVar 2) (mC (.int 6)))) mNil))) mNil)))))))
@[irreducible] def sp__law_great : NSp := spOf 5 m__law_great
/-- _law_due_of(_law_state) : 0=_law_state 1=_law_some -/
def m__law_due_of (w : NW) : NS :=
    (sSeq (sSet 1 (mLst (mCons (mTup (mCons (mC (.int 0)) (mCons (mC (.int 1)) mNil))) (mCons (mTup (mCons (mC (.int 3)) (mCons (mC (.int 1000)) mNil))) (mCons (mTup (mCons (mC (.int 1)) (mCons (mC (.int 10)) mNil))) (mCons (mTup (mCons (mC (.int 0)) (mCons (mC (.int 10000)) mNil))) (mCons (mTup (mCons (mC (.int 1)) (mCons (mC (.int 10000)) mNil))) (mCons (mTup (mCons (mC (.int 1000)) (mCons (mC (.int 10000)) mNil))) (mCons (mTup (mCons (mC (.int 7)) (mCons (mC (.int 100)) mNil))) (mCons (mTup (mCons (mC (.int 30)) (mCons (mC (.int 10000)) mNil))) mNil))))))))))
    (sRet (mOp nIx (mVar 1) (mOp nMod (mCall 1 sp__law_next w (mCons (mVar 0) mNil)) (mC (.int 8))))))
@[irreducible] def sp__law_due_of : NSp := spOf 2 m__law_due_of
/-- _law_plain(_law_state, _law_most) : 0=_law_state 1=_law_most 2=_law_kind 3=_law_due 4=_law_salt 5=_law_cloth 6=_law_first 7=_law_second -/
def m__law_plain (w : NW) : NS :=
    (sSeq (sSet 2 (mOp nMod (mCall 1 sp__law_next w (mCons (mVar 0) mNil)) (mC (.int 3))))
    (sSeq (sSet 3 (mCall 1 sp__law_due_of w (mCons (mVar 0) mNil)))
    (sSeq (sSet 4 (mCall 2 sp__law_great w (mCons (mVar 0) (mCons (mVar 1) mNil))))
    (sSeq (sSet 5 (mCall 2 sp__law_great w (mCons (mVar 0) (mCons (mVar 1) mNil))))
    (sSeq (sIf (mTst (mOp nEq (mVar 2) (mC (.int 0))))
    (sRet (mTup (mCons (mC (.str "product")) (mCons (mCallB nMax2 (mCons (mC (.int 1)) (mCons (mVar 4) mNil))) (mCons (mCallB nMax2 (mCons (mC (.int 1)) (mCons (mVar 5) mNil))) (mCons (mVar 3) mNil))))))
    sNext)
    (sSeq (sIf (mTst (mOp nEq (mVar 2) (mC (.int 1))))
    (sSeq (sSet 6 (mCallB nMax2 (mCons (mOp nSub (mC (.int 1)) (mCallB nMin2 (mCons (mC (.int 1)) (mCons (mVar 4) mNil)))) (mCons (mCall 2 sp__law_great w (mCons (mVar 0) (mCons (mOp nPow (mC (.int 10)) (mC (.int 12))) mNil))) mNil))))
    (sSeq (sSet 7 (mCallB nMax2 (mCons (mOp nSub (mC (.int 1)) (mCallB nMin2 (mCons (mC (.int 1)) (mCons (mVar 5) mNil)))) (mCons (mCall 2 sp__law_great w (mCons (mVar 0) (mCons (mOp nPow (mC (.int 10)) (mC (.int 12))) mNil))) mNil))))
    (sRet (mTup (mCons (mC (.str "stretch")) (mCons (mVar 4) (mCons (mVar 5) (mCons (mVar 3) (mCons (mTup (mCons (mVar 6) (mCons (mVar 7) mNil))) mNil)))))))))
    sNext)
    (sRet (mTup (mCons (mC (.str "sum")) (mCons (mVar 4) (mCons (mVar 5) (mCons (mVar 3) (mCons (mTup (mCons (mOp nAdd (mC (.int 1)) (mCall 2 sp__law_great w (mCons (mVar 0) (mCons (mC (.int 999999)) mNil)))) (mCons (mOp nAdd (mC (.int 1)) (mCall 2 sp__law_great w (mCons (mVar 0) (mCons (mC (.int 999999)) mNil)))) mNil))) mNil)))))))))))))
@[irreducible] def sp__law_plain : NSp := spOf 8 m__law_plain
/-- _law_row(_law_name, _law_plain_here) : 0=_law_name 1=_law_plain_here 2=_law_words 3=_law_pair -/
def m__law_row (w : NW) : NS :=
    (sSeq (sSet 2 (mLst (mCons (mC (.str "maker")) (mCons (mVar 0) (mCons (mOp nIx (mVar 1) (mC (.int 0))) (mCons (mCallB nStr1 (mCons (mOp nIx (mVar 1) (mC (.int 1))) mNil)) (mCons (mCallB nStr1 (mCons (mOp nIx (mVar 1) (mC (.int 2))) mNil)) (mCons (mOp nAdd (mOp nAdd (mCallB nStr1 (mCons (mOp nIx (mOp nIx (mVar 1) (mC (.int 3))) (mC (.int 0))) mNil)) (mC (.str "/"))) (mCallB nStr1 (mCons (mOp nIx (mOp nIx (mVar 1) (mC (.int 3))) (mC (.int 1))) mNil))) mNil))))))))
    (sSeq (sFor (mSl (mVar 1) (mPart (mC (.int 4))) mNoPart) (gNm 3)
    (sSet 2 (mOp nAdd (mVar 2) (mLst (mCons (mCallB nStr1 (mCons (mOp nIx (mVar 3) (mC (.int 0))) mNil)) (mCons (mCallB nStr1 (mCons (mOp nIx (mVar 3) (mC (.int 1))) mNil)) mNil))))))
    (sRet (mM1 nJoin (mC (.str " ")) (mVar 2)))))
@[irreducible] def sp__law_row : NSp := spOf 4 m__law_row
/-- _law_market(_law_state, _law_most, _law_many) : 0=_law_state 1=_law_most 2=_law_many 3=_law_makers 4=_law_first 5=_law_k 6=_law_name 7=_law_purses 8=_law_rows -/
def m__law_market (w : NW) : NS :=
    (sSeq (sSet 3 mDic0)
    (sSeq (sSet 4 (mCall 1 sp__law_next w (mCons (mVar 0) mNil)))
    (sSeq (sForR1 (mOp nAdd (mC (.int 1)) (mOp nMod (mCall 1 sp__law_next w (mCons (mVar 0) mNil)) (mVar 2))) (gNm 5)
    (sSeq (sSet 6 (mOp nAdd (mOp nIx (mC (.str "mnopqr")) (mOp nMod (mOp nAdd (mVar 4) (mOp nMul (mC (.int 5)) (mVar 5))) (mC (.int 6)))) (mSl (mC (.str "aei")) mNoPart (mPart (mOp nMod (mOp nDiv (mVar 4) (mC (.int 6))) (mC (.int 4)))))))
    (sAsg (mCall 2 sp__law_plain w (mCons (mVar 0) (mCons (mVar 1) mNil))) (gIx (mVar 3) (mVar 6)))))
    (sSeq (sSet 7 mDic0)
    (sSeq (sForR1 (mOp nAdd (mC (.int 1)) (mOp nMod (mCall 1 sp__law_next w (mCons (mVar 0) mNil)) (mC (.int 3)))) (gNm 5)
    (sAsg (mTup (mCons (mCall 2 sp__law_great w (mCons (mVar 0) (mCons (mOp nPow (mC (.int 10)) (mC (.int 12))) mNil))) (mCons (mCall 2 sp__law_great w (mCons (mVar 0) (mCons (mOp nPow (mC (.int 10)) (mC (.int 12))) mNil))) mNil))) (gIx (mVar 7) (mOp nIx (mC (.str "uvw")) (mOp nMod (mOp nAdd (mOp nDiv (mVar 4) (mC (.int 24))) (mOp nMul (mC (.int 2)) (mVar 5))) (mC (.int 3)))))))
    (sSeq (sLock (sSet 8 (mLc (iKeysN (mVar 3)) (gNm 6) mYes (mCall 2 sp__law_row nw0 (mCons (mVar 6) (mCons (mOp nIx (mVar 3) (mVar 6)) mNil))) [6])))
    (sSeq (sSet 8 (mOp nAdd (mVar 8) (mLock (mLc (iKeysN (mVar 7)) (gNm 6) mYes (mM1 nJoin (mC (.str " ")) (mLst (mCons (mC (.str "hand")) (mCons (mVar 6) (mCons (mCallB nStr1 (mCons (mOp nIx (mOp nIx (mVar 7) (mVar 6)) (mC (.int 0))) mNil)) (mCons (mCallB nStr1 (mCons (mOp nIx (mOp nIx (mVar 7) (mVar 6)) (mC (.int 1))) mNil)) mNil)))))) [6]))))
    (sRet (mTup (mCons (mM1 nJoin (mC (.str "\n")) (mVar 8)) (mCons (mVar 3) (mCons (mVar 7) mNil))))))))))))
@[irreducible] def sp__law_market : NSp := spOf 9 m__law_market
/-- best_with(row, behind, left) : 0=row 1=behind 2=left 3=best 4=lots 5=rest 6=whole -/
def m_best_with (w : NW) : NS :=
    (sSeq (sSet 3 (mC .non))
    (sSeq (sForR1 (mOp nAdd (mVar 2) (mC (.int 1))) (gNm 4)
    (sSeq (sSet 5 (mOp nIx (mVar 1) (mOp nSub (mVar 2) (mVar 4))))
    (sIf (mAnd (mTst (mOp nNotN (mOp nIx (mVar 0) (mVar 4)) (mC .non))) (mTst (mOp nNotN (mVar 5) (mC .non))))
    (sSeq (sSet 6 (mOp nAdd (mOp nIx (mVar 0) (mVar 4)) (mOp nIx (mVar 5) (mC (.int 0)))))
    (sIf (mOr (mTst (mOp nIsN (mVar 3) (mC .non))) (mTst (mOp nGt (mVar 6) (mOp nIx (mVar 3) (mC (.int 0))))))
    (sSet 3 (mTup (mCons (mVar 6) (mCons (mOp nAdd (mTup (mCons (mVar 4) mNil)) (mOp nIx (mVar 5) (mC (.int 1)))) mNil))))
    sNext))
    sNext)))
    (sRet (mVar 3))))
@[irreducible] def sp_best_with : NSp := spOf 7 m_best_with
/-- best_from(rows, many) : 0=rows 1=many 2=found 3=row 4=left -/
def m_best_from (w : NW) : NS :=
    (sSeq (sSet 2 (mOp nAdd (mLst (mCons (mTup (mCons (mC (.int 0)) (mCons (mTup mNil) mNil))) mNil)) (mOp nMulL (mLst (mCons (mC .non) mNil)) (mVar 1))))
    (sSeq (sFor (mUn nRev (mVar 0)) (gNm 3)
    (sSet 2 (mLc (iRg1 (mOp nAdd (mVar 1) (mC (.int 1)))) (gNm 4) mYes (mCall 3 sp_best_with nw0 (mCons (mVar 3) (mCons (mVar 2) (mCons (mVar 4) mNil)))) [4])))
    (sRet (mVar 2))))
@[irreducible] def sp_best_from : NSp := spOf 5 m_best_from
/-- is_number(thing) : 0=thing -/
def m_is_number (w : NW) : NS :=
    (sRet (mAndV (mCallB (nIsi CL) (mCons (mVar 0) (mCons (mC (.ty "int")) mNil))) (mAndV (mNotV (mCallB (nIsi CL) (mCons (mVar 0) (mCons (mC (.ty "bool")) mNil)))) (mOp nGe (mVar 0) (mC (.int 0))))))
@[irreducible] def sp_is_number : NSp := spOf 1 m_is_number
/-- is_whole(thing) : 0=thing -/
def m_is_whole (w : NW) : NS :=
    (sRet (mAndV (mCallB (nIsi CL) (mCons (mVar 0) (mCons (mC (.ty "int")) mNil))) (mNotV (mCallB (nIsi CL) (mCons (mVar 0) (mCons (mC (.ty "bool")) mNil))))))
@[irreducible] def sp_is_whole : NSp := spOf 1 m_is_whole
/-- need_count(count) : 0=count -/
def m_need_count (w : NW) : NS :=
    (sIf (mOr (mNot (mTst (mCall 1 sp_is_whole w (mCons (mVar 0) mNil)))) (mTst (mOp nLt (mVar 0) (mC (.int 1)))))
    (sRaise "BadCount" w)
    sNext)
@[irreducible] def sp_need_count : NSp := spOf 1 m_need_count
/-- need_ware(ware) : 0=ware -/
def m_need_ware (w : NW) : NS :=
    (sSeq (sIf (mOr (mNot (mTst (mCallB (nIsi CL) (mCons (mVar 0) (mCons (mC (.ty "str")) mNil))))) (mTst (mOp nNin (mVar 0) (mC (.tup (c_WARES.map D.str))))))
    (sRaise "BadWare" w)
    sNext)
    (sRet (mTupIndex c_WARES (mVar 0))))
@[irreducible] def sp_need_ware : NSp := spOf 1 m_need_ware
/-- Market_names(self) : 0=self -/
def m_Market_names (w : NW) : NS :=
    (sRet (mCallB nListD (mCons (mUn (nFld "stalls") (mVar 0)) mNil)))
@[irreducible] def sp_Market_names : NSp := spOf 1 m_Market_names
/-- Maker_is_dealt(self, side, count) : 0=self 1=side 2=count -/
def m_Maker_is_dealt (w : NW) : NS :=
    (sRet (mOp nLe (mOp nAdd (mOp nIx (mUn (nFld "stock") (mVar 0)) (mVar 1)) (mVar 2)) (mC (.int 1000000000000))))
@[irreducible] def sp_Maker_is_dealt : NSp := spOf 3 m_Maker_is_dealt
/-- Maker_haves(self) : 0=self -/
def m_Maker_haves (w : NW) : NS :=
    (sRet (mTup (mCons (mOp nIx (mUn (nFld "stock") (mVar 0)) (mC (.int 0))) (mCons (mOp nIx (mUn (nFld "stock") (mVar 0)) (mC (.int 1))) mNil))))
@[irreducible] def sp_Maker_haves : NSp := spOf 1 m_Maker_haves
/-- product_coming(maker, grains, side, count) : 0=maker 1=grains 2=side 3=count 4=counted -/
def m_product_coming (w : NW) : NS :=
    (sSeq (sSet 4 (mOp nMul (mVar 3) (mUn (nFld "rest") (mVar 0))))
    (sRet (mOp nDiv (mOp nMul (mOp nIx (mVar 1) (mOp nSub (mC (.int 1)) (mVar 2))) (mVar 4)) (mOp nAdd (mOp nMul (mOp nIx (mVar 1) (mVar 2)) (mUn (nFld "parts") (mVar 0))) (mVar 4)))))
@[irreducible] def sp_product_coming : NSp := spOf 5 m_product_coming
def mt_Maker_haves : MT := fun c => if c = "Product" then some (1, sp_Maker_haves) else if c = "Stretch" then some (1, sp_Maker_haves) else if c = "Sum" then some (1, sp_Maker_haves) else none
/-- Product_coming(self, side, count) : 0=self 1=side 2=count -/
def m_Product_coming (w : NW) : NS :=
    (sRet (mCall 4 sp_product_coming w (mCons (mVar 0) (mCons (mMeth "haves" mt_Maker_haves w (mVar 0) mNil) (mCons (mVar 1) (mCons (mVar 2) mNil))))))
@[irreducible] def sp_Product_coming : NSp := spOf 3 m_Product_coming
/-- Stretch_propped(self) : 0=self 1=props -/
def m_Stretch_propped (w : NW) : NS :=
    (sSeq (sSet 1 (mOp nIx (mUn (nFld "more") (mVar 0)) (mC (.int 0))))
    (sRet (mTup (mCons (mOp nAdd (mOp nIx (mUn (nFld "stock") (mVar 0)) (mC (.int 0))) (mOp nIx (mVar 1) (mC (.int 0)))) (mCons (mOp nAdd (mOp nIx (mUn (nFld "stock") (mVar 0)) (mC (.int 1))) (mOp nIx (mVar 1) (mC (.int 1)))) mNil)))))
@[irreducible] def sp_Stretch_propped : NSp := spOf 2 m_Stretch_propped
def mt_Maker_propped : MT := fun c => if c = "Stretch" then some (1, sp_Stretch_propped) else none
/-- Stretch_coming(self, side, count) : 0=self 1=side 2=count -/
def m_Stretch_coming (w : NW) : NS :=
    (sRet (mCall 4 sp_product_coming w (mCons (mVar 0) (mCons (mMeth "propped" mt_Maker_propped w (mVar 0) mNil) (mCons (mVar 1) (mCons (mVar 2) mNil))))))
@[irreducible] def sp_Stretch_coming : NSp := spOf 3 m_Stretch_coming
/-- Sum_coming(self, side, count) : 0=self 1=side 2=count 3=rate -/
def m_Sum_coming (w : NW) : NS :=
    (sSeq (sSet 3 (mOp nIx (mUn (nFld "more") (mVar 0)) (mC (.int 0))))
    (sRet (mOp nDiv (mOp nMul (mOp nMul (mVar 2) (mUn (nFld "rest") (mVar 0))) (mOp nIx (mVar 3) (mOp nSub (mC (.int 1)) (mVar 1)))) (mOp nMul (mUn (nFld "parts") (mVar 0)) (mOp nIx (mVar 3) (mVar 1))))))
@[irreducible] def sp_Sum_coming : NSp := spOf 4 m_Sum_coming
def mt_Maker_coming : MT := fun c => if c = "Product" then some (3, sp_Product_coming) else if c = "Stretch" then some (3, sp_Stretch_coming) else if c = "Sum" then some (3, sp_Sum_coming) else none
def mt_Maker_is_dealt : MT := fun c => if c = "Product" then some (3, sp_Maker_is_dealt) else if c = "Stretch" then some (3, sp_Maker_is_dealt) else if c = "Sum" then some (3, sp_Maker_is_dealt) else none
/-- Maker_told(self, ware, count) : 0=self 1=ware 2=count 3=side -/
def m_Maker_told (w : NW) : NS :=
    (sSeq (sSet 3 (mCall 1 sp_need_ware w (mCons (mVar 1) mNil)))
    (sSeq (sDrop (mCall 1 sp_need_count w (mCons (mVar 2) mNil)))
    (sSeq (sIf (mNot (mTst (mMeth "is_dealt" mt_Maker_is_dealt w (mVar 0) (mCons (mVar 3) (mCons (mVar 2) mNil)))))
    (sRaise "TooMuch" w)
    sNext)
    (sRet (mCallB nMin2 (mCons (mMeth "coming" mt_Maker_coming w (mVar 0) (mCons (mVar 3) (mCons (mVar 2) mNil))) (mCons (mOp nIx (mUn (nFld "stock") (mVar 0)) (mOp nSub (mC (.int 1)) (mVar 3))) mNil)))))))
@[irreducible] def sp_Maker_told : NSp := spOf 4 m_Maker_told
def mt_Maker_told : MT := fun c => if c = "Product" then some (3, sp_Maker_told) else if c = "Stretch" then some (3, sp_Maker_told) else if c = "Sum" then some (3, sp_Maker_told) else none
/-- come_of(maker, ware, count) : 0=maker 1=ware 2=count 3=found -/
def m_come_of (w : NW) : NS :=
    (sSeq (sIf (mTst (mOp nEq (mVar 2) (mC (.int 0))))
    (sRet (mC (.int 0)))
    sNext)
    (sSeq (sSet 3 (mC .non))
    (sSeq (sTryO CL "TooMuch" (fun w => (sSet 3 (mMeth "told" mt_Maker_told w (mVar 0) (mCons (mVar 1) (mCons (mVar 2) mNil)))))
    (sSet 3 (mC .non)) w)
    (sRet (mVar 3)))))
@[irreducible] def sp_come_of : NSp := spOf 4 m_come_of
def mt_Market_maker : MT := fun c => if c = "Market" then some (2, sp_Market_maker) else none
def mt_Market_names : MT := fun c => if c = "Market" then some (1, sp_Market_names) else none
/-- rows_of(market, ware, size, many) : 0=market 1=ware 2=size 3=many 4=found 5=name 6=maker 7=lots -/
def m_rows_of (w : NW) : NS :=
    (sSeq (sSet 4 (mLst mNil))
    (sSeq (sFor (mMeth "names" mt_Market_names w (mVar 0) mNil) (gNm 5)
    (sSeq (sSet 6 (mMeth "maker" mt_Market_maker w (mVar 0) (mCons (mVar 5) mNil)))
    (sDrop (mLm nAppend (mVar 4) (mCons (mLc (iRg1 (mOp nAdd (mVar 3) (mC (.int 1)))) (gNm 7) mYes (mCall 3 sp_come_of nw0 (mCons (mVar 6) (mCons (mVar 1) (mCons (mOp nMul (mVar 2) (mVar 7)) mNil)))) [7]) mNil)))))
    (sRet (mVar 4))))
@[irreducible] def sp_rows_of : NSp := spOf 8 m_rows_of
/-- best(market, ware, size, many) : 0=market 1=ware 2=size 3=many 4=found -/
def m_best (w : NW) : NS :=
    (sSeq (sDrop (mCall 1 sp_need_ware w (mCons (mVar 1) mNil)))
    (sSeq (sDrop (mCall 1 sp_need_count w (mCons (mVar 2) mNil)))
    (sSeq (sIf (mOr (mNot (mTst (mCall 1 sp_is_number w (mCons (mVar 3) mNil)))) (mNot (mTst (mChain nLe nLe (mC (.int 1)) (mVar 3) (mC (.int 30))))))
    (sRaise "BadCount" w)
    sNext)
    (sSeq (sSet 4 (mOp nIx (mCall 2 sp_best_from w (mCons (mCall 4 sp_rows_of w (mCons (mVar 0) (mCons (mVar 1) (mCons (mVar 2) (mCons (mVar 3) mNil))))) (mCons (mVar 3) mNil))) (mVar 3)))
    (sSeq (sIf (mTst (mOp nIsN (mVar 4) (mC .non)))
    (sRaise "NoParting" w)
    sNext)
    (sRet (mOp nIx (mVar 4) (mC (.int 1)))))))))
@[irreducible] def sp_best : NSp := spOf 5 m_best
/-- _law_best(_law_market_here, _law_ware, _law_size, _law_many) : 0=_law_market_here 1=_law_ware 2=_law_size 3=_law_many 4=_law_found 5=_law_caught 6=e -/
def m__law_best (w : NW) : NS :=
    (sSeq (sSet 4 (mC .non))
    (sSeq (sSet 5 (mC .non))
    (sSeq (sTryK CL "MartError" 6 5 (fun w => (sSet 4 (mCall 4 sp_best w (mCons (mVar 0) (mCons (mVar 1) (mCons (mVar 2) (mCons (mVar 3) mNil))))))) w)
    (sRet (mTup (mCons (mVar 4) (mCons (mVar 5) mNil)))))))
@[irreducible] def sp__law_best : NSp := spOf 7 m__law_best
/-- _law_comes(_law_plain_here, _law_side, _law_count) : 0=_law_plain_here 1=_law_side 2=_law_count 3=_law_have 4=_law_fellow 5=_law_top 6=_law_bottom 7=_law_counted 8=_law_found 9=_law_props 10=_law_mine -/
def m__law_comes (w : NW) : NS :=
    (sSeq (sSet 3 (mOp nIx (mVar 0) (mOp nAdd (mC (.int 1)) (mVar 1))))
    (sSeq (sSet 4 (mOp nIx (mVar 0) (mOp nSub (mC (.int 2)) (mVar 1))))
    (sSeq (sAsg (mOp nIx (mVar 0) (mC (.int 3))) (gTp 2 (gsCons (gNm 5) (gsCons (gNm 6) gsNil))))
    (sSeq (sSet 7 (mOp nMul (mVar 2) (mOp nSub (mVar 6) (mVar 5))))
    (sSeq (sIf (mTst (mOp nEq (mOp nIx (mVar 0) (mC (.int 0))) (mC (.str "sum"))))
    (sSet 8 (mOp nDiv (mOp nMul (mVar 7) (mOp nIx (mOp nIx (mVar 0) (mC (.int 4))) (mOp nSub (mC (.int 1)) (mVar 1)))) (mOp nMul (mVar 6) (mOp nIx (mOp nIx (mVar 0) (mC (.int 4))) (mVar 1)))))
    (sSeq (sSet 9 (mIf (mTst (mOp nEq (mOp nIx (mVar 0) (mC (.int 0))) (mC (.str "stretch")))) (mOp nIx (mVar 0) (mC (.int 4))) (mTup (mCons (mC (.int 0)) (mCons (mC (.int 0)) mNil)))))
    (sSeq (sSet 10 (mOp nMul (mOp nAdd (mVar 3) (mOp nIx (mVar 9) (mVar 1))) (mVar 6)))
    (sSet 8 (mOp nDiv (mOp nMul (mOp nAdd (mVar 4) (mOp nIx (mVar 9) (mOp nSub (mC (.int 1)) (mVar 1)))) (mVar 7)) (mOp nAdd (mVar 10) (mVar 7)))))))
    (sSeq (sIf (mTst (mOp nGt (mOp nAdd (mVar 3) (mVar 2)) (mOp nPow (mC (.int 10)) (mC (.int 12)))))
    (sRet (mC .non))
    sNext)
    (sRet (mCallB nMin2 (mCons (mVar 8) (mCons (mVar 4) mNil))))))))))
@[irreducible] def sp__law_comes : NSp := spOf 11 m__law_comes
/-- _law_come(_law_plains, _law_side, _law_size, _law_parting) : 0=_law_plains 1=_law_side 2=_law_size 3=_law_parting 4=_law_found 5=_law_plain_here 6=_law_lots 7=_law_more -/
def m__law_come (w : NW) : NS :=
    (sSeq (sSet 4 (mC (.int 0)))
    (sSeq (sForI (iZipW (mVar 0) (mVar 3)) (gTp 2 (gsCons (gNm 5) (gsCons (gNm 6) gsNil)))
    (sIf (mTst (mOp nGt (mVar 6) (mC (.int 0))))
    (sSeq (sSet 7 (mCall 3 sp__law_comes w (mCons (mVar 5) (mCons (mVar 1) (mCons (mOp nMul (mVar 2) (mVar 6)) mNil)))))
    (sSeq (sIf (mTst (mOp nIsN (mVar 7) (mC .non)))
    (sRet (mC .non))
    sNext)
    (sSet 4 (mOp nAdd (mVar 4) (mVar 7)))))
    sNext))
    (sRet (mVar 4))))
@[irreducible] def sp__law_come : NSp := spOf 8 m__law_come
/-- _law_others(_law_state, _law_parting, _law_many) : 0=_law_state 1=_law_parting 2=_law_many 3=_law_found 4=_law_k 5=_law_alone 6=_law_j 7=_law_moved 8=_law_drawn 9=_law_lot_of 10=_law_place -/
def m__law_others (w : NW) : NS :=
    (sSeq (sSet 3 (mLst mNil))
    (sSeq (sForR1 (mCallB nLen (mCons (mVar 1) mNil)) (gNm 4)
    (sSeq (sSet 5 (mOp nMulL (mLst (mCons (mC (.int 0)) mNil)) (mCallB nLen (mCons (mVar 1) mNil))))
    (sSeq (sAsg (mVar 2) (gIx (mVar 5) (mVar 4)))
    (sSeq (sDrop (mLm nAppend (mVar 3) (mCons (mCallB nTuple1 (mCons (mVar 5) mNil)) mNil)))
    (sForR1 (mCallB nLen (mCons (mVar 1) mNil)) (gNm 6)
    (sIf (mAnd (mTst (mOp nGt (mOp nIx (mVar 1) (mVar 4)) (mC (.int 0)))) (mTst (mOp nNe (mVar 6) (mVar 4))))
    (sSeq (sSet 7 (mCallB nListD (mCons (mVar 1) mNil)))
    (sSeq (sAsg (mOp nSub (mOp nIx (mVar 7) (mVar 4)) (mC (.int 1))) (gIx (mVar 7) (mVar 4)))
    (sSeq (sAsg (mOp nAdd (mOp nIx (mVar 7) (mVar 6)) (mC (.int 1))) (gIx (mVar 7) (mVar 6)))
    (sDrop (mLm nAppend (mVar 3) (mCons (mCallB nTuple1 (mCons (mVar 7) mNil)) mNil))))))
    sNext))))))
    (sSeq (sForR1 (mC (.int 4)) (gNm 4)
    (sSeq (sSet 8 (mOp nMulL (mLst (mCons (mC (.int 0)) mNil)) (mCallB nLen (mCons (mVar 1) mNil))))
    (sSeq (sForR1 (mVar 2) (gNm 9)
    (sSeq (sSet 10 (mOp nMod (mCall 1 sp__law_next w (mCons (mVar 0) mNil)) (mCallB nLen (mCons (mVar 1) mNil))))
    (sAsg (mOp nAdd (mOp nIx (mVar 8) (mVar 10)) (mC (.int 1))) (gIx (mVar 8) (mVar 10)))))
    (sDrop (mLm nAppend (mVar 3) (mCons (mCallB nTuple1 (mCons (mVar 8) mNil)) mNil))))))
    (sRet (mVar 3)))))
@[irreducible] def sp__law_others : NSp := spOf 11 m__law_others
/-- gets(market, ware, size, parting) : 0=market 1=ware 2=size 3=parting 4=names 5=lots 6=found 7=name -/
def m_gets (w : NW) : NS :=
    (sSeq (sDrop (mCall 1 sp_need_ware w (mCons (mVar 1) mNil)))
    (sSeq (sDrop (mCall 1 sp_need_count w (mCons (mVar 2) mNil)))
    (sSeq (sSet 4 (mMeth "names" mt_Market_names w (mVar 0) mNil))
    (sSeq (sIf (mOr (mNot (mTst (mCallB (nIsi CL) (mCons (mVar 3) (mCons (mC (.ty "tuple")) mNil))))) (mOr (mTst (mOp nNe (mCallB nLen (mCons (mVar 3) mNil)) (mCallB nLen (mCons (mVar 4) mNil)))) (mNot (mTst (mCallB nAll (mCons (mLc (iWalk (mVar 3)) (gNm 5) mYes (mCall 1 sp_is_number nw0 (mCons (mVar 5) mNil)) [5]) mNil))))))
    (sRaise "NoParting" w)
    sNext)
    (sSeq (sSet 6 (mLc (iZipW (mVar 4) (mVar 3)) (gTp 2 (gsCons (gNm 7) (gsCons (gNm 5) gsNil))) mYes (mCall 3 sp_come_of nw0 (mCons (mMeth "maker" mt_Market_maker nw0 (mVar 0) (mCons (mVar 7) mNil)) (mCons (mVar 1) (mCons (mOp nMul (mVar 2) (mVar 5)) mNil)))) [7, 5]))
    (sSeq (sIf (mTst (mOp nIn (mC .non) (mVar 6)))
    (sRaise "NoParting" w)
    sNext)
    (sRet (mCallB nSum (mCons (mVar 6) mNil)))))))))
@[irreducible] def sp_gets : NSp := spOf 8 m_gets
/-- _law_one_good(_law_state, _law_market_here, _law_plains, _law_side, _law_size, _law_many) : 0=_law_state 1=_law_market_here 2=_law_plains 3=_law_side 4=_law_size 5=_law_many 6=_law_found 7=_law_caught 8=_law_begun 9=_law_tried 10=_law_other 11=_law_one 12=_law_most 13=_law_more 14=_law_further 15=_law_refused -/
def m__law_one_good (w : NW) : NS :=
    (sSeq (sAsg (mCall 4 sp__law_best w (mCons (mVar 1) (mCons (mOp nIx (mC (.tup (c_WARES.map D.str))) (mVar 3)) (mCons (mVar 4) (mCons (mVar 5) mNil))))) (gTp 2 (gsCons (gNm 6) (gsCons (gNm 7) gsNil))))
    (sSeq (sIf (mTst (mOp nNotN (mVar 7) (mC .non)))
    (sSeq (sSet 8 (mCallB nTuple1 (mCons (mOp nAdd (mLst (mCons (mVar 5) mNil)) (mOp nMulL (mLst (mCons (mC (.int 0)) mNil)) (mOp nSub (mCallB nLen (mCons (mVar 2) mNil)) (mC (.int 1))))) mNil)))
    (sSeq (sSet 9 (mLc (iWalk (mCall 3 sp__law_others w (mCons (mVar 0) (mCons (mVar 8) (mCons (mVar 5) mNil))))) (gNm 10) mYes (mCall 4 sp__law_come nw0 (mCons (mVar 2) (mCons (mVar 3) (mCons (mVar 4) (mCons (mVar 10) mNil))))) [10]))
    (sRet (mAndV (mCallB (nIsi CL) (mCons (mVar 7) (mCons (mC (.cls "NoParting")) mNil))) (mOp nEq (mLc (iWalk (mVar 9)) (gNm 11) (mTst (mOp nNotN (mVar 11) (mC .non))) (mVar 11) [11]) (mLst mNil))))))
    sNext)
    (sSeq (sIf (mOr (mNot (mTst (mCallB (nIsi CL) (mCons (mVar 6) (mCons (mC (.ty "tuple")) mNil))))) (mOr (mTst (mOp nNe (mCallB nLen (mCons (mVar 6) mNil)) (mCallB nLen (mCons (mVar 2) mNil)))) (mOr (mTst (mOp nNe (mCallB nSum1 (mCons (mVar 6) mNil)) (mVar 5))) (mTst (mOp nLt (mCallB nMinT (mCons (mVar 6) mNil)) (mC (.int 0)))))))
    (sRet (mC (.bl false)))
    sNext)
    (sSeq (sSet 12 (mCall 4 sp__law_come w (mCons (mVar 2) (mCons (mVar 3) (mCons (mVar 4) (mCons (mVar 6) mNil))))))
    (sSeq (sIf (mOr (mTst (mOp nIsN (mVar 12) (mC .non))) (mTst (mOp nNe (mCall 4 sp_gets w (mCons (mVar 1) (mCons (mOp nIx (mC (.tup (c_WARES.map D.str))) (mVar 3)) (mCons (mVar 4) (mCons (mVar 6) mNil))))) (mVar 12))))
    (sRet (mC (.bl false)))
    sNext)
    (sSeq (sFor (mCall 3 sp__law_others w (mCons (mVar 0) (mCons (mVar 6) (mCons (mVar 5) mNil)))) (gNm 10)
    (sSeq (sSet 13 (mCall 4 sp__law_come w (mCons (mVar 2) (mCons (mVar 3) (mCons (mVar 4) (mCons (mVar 10) mNil))))))
    (sIf (mAnd (mTst (mOp nNotN (mVar 13) (mC .non))) (mTst (mOp nGt (mVar 13) (mVar 12))))
    (sRet (mC (.bl false)))
    sNext)))
    (sSeq (sAsg (mCall 4 sp__law_best w (mCons (mVar 1) (mCons (mOp nIx (mC (.tup (c_WARES.map D.str))) (mVar 3)) (mCons (mVar 4) (mCons (mCallB nMin2 (mCons (mC (.int 30)) (mCons (mOp nAdd (mVar 5) (mC (.int 1))) mNil))) mNil))))) (gTp 2 (gsCons (gNm 14) (gsCons (gNm 15) gsNil))))
    (sRet (mOrV (mOp nNotN (mVar 15) (mC .non)) (mOp nGe (mCall 4 sp__law_come w (mCons (mVar 2) (mCons (mVar 3) (mCons (mVar 4) (mCons (mVar 14) mNil))))) (mVar 12)))))))))))
@[irreducible] def sp__law_one_good : NSp := spOf 16 m__law_one_good
/-- Market___init__(self) : 0=self -/
def m_Market___init__ (w : NW) : NS :=
    (sSeq (sFldN "stalls" mDic0 (mVar 0))
    (sFldN "pockets" mDic0 (mVar 0)))
@[irreducible] def sp_Market___init__ : NSp := spOf 1 m_Market___init__
/-- is_name(word) : 0=word 1=sign -/
def m_is_name (w : NW) : NS :=
    (sRet (mAndV (mChain nLe nLe (mC (.int 1)) (mCallB nLen (mCons (mVar 0) mNil)) (mC (.int 8))) (mCallB nAll (mCons (mLc (iWalk (mVar 0)) (gNm 1) mYes (mOp nIn (mVar 1) (mC (.str "abcdefghijklmnopqrstuvwxyz"))) [1]) mNil))))
@[irreducible] def sp_is_name : NSp := spOf 2 m_is_name
/-- number_in(word) : 0=word 1=sign -/
def m_number_in (w : NW) : NS :=
    (sSeq (sIf (mOr (mNot (mTst (mChain nLe nLe (mC (.int 1)) (mCallB nLen (mCons (mVar 0) mNil)) (mC (.int 13))))) (mNot (mTst (mCallB nAll (mCons (mLc (iWalk (mVar 0)) (gNm 1) mYes (mOp nIn (mVar 1) (mC (.str "0123456789"))) [1]) mNil)))))
    (sRet (mC .non))
    sNext)
    (sSeq (sIf (mAnd (mTst (mOp nEq (mOp nIx (mVar 0) (mC (.int 0))) (mC (.str "0")))) (mTst (mOp nNe (mVar 0) (mC (.str "0")))))
    (sRet (mC .non))
    sNext)
    (sRet (mCallB nInt1 (mCons (mVar 0) mNil)))))
@[irreducible] def sp_number_in : NSp := spOf 2 m_number_in
/-- put_hand(market, words) : 0=market 1=words 2=purse -/
def m_put_hand (w : NW) : NS :=
    (sSeq (sIf (mOr (mTst (mOp nNe (mCallB nLen (mCons (mVar 1) mNil)) (mC (.int 4)))) (mOr (mTst (mOp nEq (mCallB nLen (mCons (mUn (nFld "pockets") (mVar 0)) mNil)) (mC (.int 6)))) (mTst (mOp nEqX (mUn (nFld "stalls") (mVar 0)) mDic0))))
    (sRet (mC (.bl false)))
    sNext)
    (sSeq (sSet 2 (mTup (mCons (mCall 1 sp_number_in w (mCons (mOp nIx (mVar 1) (mC (.int 2))) mNil)) (mCons (mCall 1 sp_number_in w (mCons (mOp nIx (mVar 1) (mC (.int 3))) mNil)) mNil))))
    (sSeq (sIf (mOr (mTst (mOp nIn (mC .non) (mVar 2))) (mTst (mOp nGt (mCallB nMax1 (mCons (mVar 2) mNil)) (mC (.int 1000000000000)))))
    (sRet (mC (.bl false)))
    sNext)
    (sSeq (sAsg (mVar 2) (gIx (mUn (nFld "pockets") (mVar 0)) (mOp nIx (mVar 1) (mC (.int 1)))))
    (sRet (mC (.bl true)))))))
@[irreducible] def sp_put_hand : NSp := spOf 3 m_put_hand
/-- Maker___init__(self, plain) : 0=self 1=plain -/
def m_Maker___init__ (w : NW) : NS :=
    (sSeq (sFldN "stock" (mLst (mCons (mOp nIx (mVar 1) (mC (.int 1))) (mCons (mOp nIx (mVar 1) (mC (.int 2))) mNil))) (mVar 0))
    (sSeq (sFldN "due" (mOp nIx (mVar 1) (mC (.int 3))) (mVar 0))
    (sSeq (sFldN "more" (mSl (mVar 1) (mPart (mC (.int 4))) mNoPart) (mVar 0))
    (sSeq (sFldN "rest" (mOp nSub (mOp nIx (mOp nIx (mVar 1) (mC (.int 3))) (mC (.int 1))) (mOp nIx (mOp nIx (mVar 1) (mC (.int 3))) (mC (.int 0)))) (mVar 0))
    (sFldN "parts" (mOp nIx (mOp nIx (mVar 1) (mC (.int 3))) (mC (.int 1))) (mVar 0))))))
@[irreducible] def sp_Maker___init__ : NSp := spOf 2 m_Maker___init__
/-- is_among(thing, least, most) : 0=thing 1=least 2=most -/
def m_is_among (w : NW) : NS :=
    (sRet (mAndV (mCall 1 sp_is_whole w (mCons (mVar 0) mNil)) (mChain nLe nLe (mVar 1) (mVar 0) (mVar 2))))
@[irreducible] def sp_is_among : NSp := spOf 3 m_is_among
/-- is_pair(thing, least, most) : 0=thing 1=least 2=most -/
def m_is_pair (w : NW) : NS :=
    (sSeq (sIf (mOr (mNot (mTst (mCallB (nIsi CL) (mCons (mVar 0) (mCons (mC (.ty "tuple")) mNil))))) (mTst (mOp nNe (mCallB nLen (mCons (mVar 0) mNil)) (mC (.int 2)))))
    (sRet (mC (.bl false)))
    sNext)
    (sRet (mAndV (mCall 3 sp_is_among w (mCons (mOp nIx (mVar 0) (mC (.int 0))) (mCons (mVar 1) (mCons (mVar 2) mNil)))) (mCall 3 sp_is_among w (mCons (mOp nIx (mVar 0) (mC (.int 1))) (mCons (mVar 1) (mCons (mVar 2) mNil)))))))
@[irreducible] def sp_is_pair : NSp := spOf 3 m_is_pair
/-- is_due(thing) : 0=thing -/
def m_is_due (w : NW) : NS :=
    (sRet (mAndV (mCall 3 sp_is_pair w (mCons (mVar 0) (mCons (mC (.int 0)) (mCons (mC (.int 10000)) mNil)))) (mAndV (mOp nGe (mOp nIx (mVar 0) (mC (.int 1))) (mC (.int 1))) (mOp nLe (mOp nMul (mC (.int 10)) (mOp nIx (mVar 0) (mC (.int 0)))) (mOp nIx (mVar 0) (mC (.int 1)))))))
@[irreducible] def sp_is_due : NSp := spOf 1 m_is_due
/-- is_plain(thing) : 0=thing -/
def m_is_plain (w : NW) : NS :=
    (sSeq (sIf (mOr (mNot (mTst (mCallB (nIsi CL) (mCons (mVar 0) (mCons (mC (.ty "tuple")) mNil))))) (mOr (mNot (mTst (mChain nLe nLe (mC (.int 4)) (mCallB nLen (mCons (mVar 0) mNil)) (mC (.int 5))))) (mNot (mTst (mCallB (nIsi CL) (mCons (mOp nIx (mVar 0) (mC (.int 0))) (mCons (mC (.ty "str")) mNil)))))))
    (sRet (mC (.bl false)))
    sNext)
    (sSeq (sIf (mOr (mNot (mTst (mCall 3 sp_is_pair w (mCons (mSl (mVar 0) (mPart (mC (.int 1))) (mPart (mC (.int 3)))) (mCons (mC (.int 0)) (mCons (mC (.int 1000000000000)) mNil)))))) (mNot (mTst (mCall 1 sp_is_due w (mCons (mOp nIx (mVar 0) (mC (.int 3))) mNil)))))
    (sRet (mC (.bl false)))
    sNext)
    (sSeq (sIf (mTst (mOp nEq (mOp nIx (mVar 0) (mC (.int 0))) (mC (.str "product"))))
    (sRet (mAndV (mOp nEq (mCallB nLen (mCons (mVar 0) mNil)) (mC (.int 4))) (mAndV (mOp nGe (mOp nIx (mVar 0) (mC (.int 1))) (mC (.int 1))) (mOp nGe (mOp nIx (mVar 0) (mC (.int 2))) (mC (.int 1))))))
    sNext)
    (sSeq (sIf (mTst (mOp nNe (mCallB nLen (mCons (mVar 0) mNil)) (mC (.int 5))))
    (sRet (mC (.bl false)))
    sNext)
    (sSeq (sIf (mTst (mOp nEq (mOp nIx (mVar 0) (mC (.int 0))) (mC (.str "sum"))))
    (sRet (mCall 3 sp_is_pair w (mCons (mOp nIx (mVar 0) (mC (.int 4))) (mCons (mC (.int 1)) (mCons (mC (.int 1000000)) mNil)))))
    sNext)
    (sSeq (sIf (mOr (mTst (mOp nNe (mOp nIx (mVar 0) (mC (.int 0))) (mC (.str "stretch")))) (mNot (mTst (mCall 3 sp_is_pair w (mCons (mOp nIx (mVar 0) (mC (.int 4))) (mCons (mC (.int 0)) (mCons (mC (.int 1000000000000)) mNil)))))))
    (sRet (mC (.bl false)))
    sNext)
    (sRet (mAndV (mOp nGe (mOp nAdd (mOp nIx (mVar 0) (mC (.int 1))) (mOp nIx (mOp nIx (mVar 0) (mC (.int 4))) (mC (.int 0)))) (mC (.int 1))) (mOp nGe (mOp nAdd (mOp nIx (mVar 0) (mC (.int 2))) (mOp nIx (mOp nIx (mVar 0) (mC (.int 4))) (mC (.int 1)))) (mC (.int 1)))))))))))
@[irreducible] def sp_is_plain : NSp := spOf 1 m_is_plain
/-- maker_of(plain) : 0=plain -/
def m_maker_of (w : NW) : NS :=
    (sSeq (sIf (mNot (mTst (mCall 1 sp_is_plain w (mCons (mVar 0) mNil))))
    (sRaise "BadMaker" w)
    sNext)
    (sSeq (sIf (mTst (mOp nEq (mOp nIx (mVar 0) (mC (.int 0))) (mC (.str "product"))))
    (sRet (mMake "Product" 2 sp_Maker___init__ w (mCons (mVar 0) mNil)))
    sNext)
    (sSeq (sIf (mTst (mOp nEq (mOp nIx (mVar 0) (mC (.int 0))) (mC (.str "stretch"))))
    (sRet (mMake "Stretch" 2 sp_Maker___init__ w (mCons (mVar 0) mNil)))
    sNext)
    (sRet (mMake "Sum" 2 sp_Maker___init__ w (mCons (mVar 0) mNil))))))
@[irreducible] def sp_maker_of : NSp := spOf 1 m_maker_of
/-- made_or_none(plain) : 0=plain 1=found -/
def m_made_or_none (w : NW) : NS :=
    (sSeq (sTryO CL "BadMaker" (fun w => (sSet 1 (mCall 1 sp_maker_of w (mCons (mVar 0) mNil))))
    (sRet (mC .non)) w)
    (sRet (mVar 1)))
@[irreducible] def sp_made_or_none : NSp := spOf 2 m_made_or_none
/-- due_in(word) : 0=word 1=ahead 2=mark 3=behind -/
def m_due_in (w : NW) : NS :=
    (sSeq (sAsg (mM1 nPart (mVar 0) (mC (.str "/"))) (gTp 3 (gsCons (gNm 1) (gsCons (gNm 2) (gsCons (gNm 3) gsNil)))))
    (sSeq (sIf (mOr (mTst (mOp nIsN (mCall 1 sp_number_in w (mCons (mVar 1) mNil)) (mC .non))) (mTst (mOp nIsN (mCall 1 sp_number_in w (mCons (mVar 3) mNil)) (mC .non))))
    (sRet (mC .non))
    sNext)
    (sRet (mTup (mCons (mCall 1 sp_number_in w (mCons (mVar 1) mNil)) (mCons (mCall 1 sp_number_in w (mCons (mVar 3) mNil)) mNil))))))
@[irreducible] def sp_due_in : NSp := spOf 4 m_due_in
/-- plain_in(words) : 0=words 1=numbers 2=word 3=due 4=found -/
def m_plain_in (w : NW) : NS :=
    (sSeq (sIf (mOr (mTst (mOp nLt (mCallB nLen (mCons (mVar 0) mNil)) (mC (.int 6)))) (mTst (mOp nNe (mTabGet c_SIZES (mOp nIx (mVar 0) (mC (.int 2))) (mC (.int 0))) (mCallB nLen (mCons (mVar 0) mNil)))))
    (sRet (mC .non))
    sNext)
    (sSeq (sSet 1 (mLc (iWalk (mOp nAdd (mSl (mVar 0) (mPart (mC (.int 3))) (mPart (mC (.int 5)))) (mSl (mVar 0) (mPart (mC (.int 6))) mNoPart))) (gNm 2) mYes (mCall 1 sp_number_in nw0 (mCons (mVar 2) mNil)) [2]))
    (sSeq (sSet 3 (mCall 1 sp_due_in w (mCons (mOp nIx (mVar 0) (mC (.int 5))) mNil)))
    (sSeq (sIf (mOr (mTst (mOp nIn (mC .non) (mVar 1))) (mTst (mOp nIsN (mVar 3) (mC .non))))
    (sRet (mC .non))
    sNext)
    (sSeq (sSet 4 (mTup (mCons (mOp nIx (mVar 0) (mC (.int 2))) (mCons (mOp nIx (mVar 1) (mC (.int 0))) (mCons (mOp nIx (mVar 1) (mC (.int 1))) (mCons (mVar 3) mNil))))))
    (sRet (mIf (mTst (mOp nEq (mCallB nLen (mCons (mVar 0) mNil)) (mC (.int 6)))) (mVar 4) (mOp nAdd (mVar 4) (mTup (mCons (mTup (mCons (mOp nIx (mVar 1) (mC (.int 2))) (mCons (mOp nIx (mVar 1) (mC (.int 3))) mNil))) mNil))))))))))
@[irreducible] def sp_plain_in : NSp := spOf 5 m_plain_in
/-- put_maker(market, words) : 0=market 1=words 2=plain 3=maker -/
def m_put_maker (w : NW) : NS :=
    (sSeq (sSet 2 (mCall 1 sp_plain_in w (mCons (mVar 1) mNil)))
    (sSeq (sSet 3 (mIf (mTst (mOp nIsN (mVar 2) (mC .non))) (mC .non) (mCall 1 sp_made_or_none w (mCons (mVar 2) mNil))))
    (sSeq (sIf (mOr (mTst (mOp nIsN (mVar 3) (mC .non))) (mOr (mTst (mOp nEq (mCallB nLen (mCons (mUn (nFld "stalls") (mVar 0)) mNil)) (mC (.int 6)))) (mTst (mOp nNeX (mUn (nFld "pockets") (mVar 0)) mDic0))))
    (sRet (mC (.bl false)))
    sNext)
    (sSeq (sAsg (mVar 3) (gIx (mUn (nFld "stalls") (mVar 0)) (mOp nIx (mVar 1) (mC (.int 1)))))
    (sRet (mC (.bl true)))))))
@[irreducible] def sp_put_maker : NSp := spOf 4 m_put_maker
/-- is_put(market, words) : 0=market 1=words -/
def m_is_put (w : NW) : NS :=
    (sSeq (sIf (mOr (mTst (mOp nLt (mCallB nLen (mCons (mVar 1) mNil)) (mC (.int 2)))) (mOr (mNot (mTst (mCall 1 sp_is_name w (mCons (mOp nIx (mVar 1) (mC (.int 1))) mNil)))) (mOr (mTst (mOp nIn (mOp nIx (mVar 1) (mC (.int 1))) (mUn (nFld "stalls") (mVar 0)))) (mTst (mOp nIn (mOp nIx (mVar 1) (mC (.int 1))) (mUn (nFld "pockets") (mVar 0)))))))
    (sRet (mC (.bl false)))
    sNext)
    (sSeq (sIf (mTst (mOp nEq (mOp nIx (mVar 1) (mC (.int 0))) (mC (.str "maker"))))
    (sRet (mCall 2 sp_put_maker w (mCons (mVar 0) (mCons (mVar 1) mNil))))
    sNext)
    (sRet (mAndV (mOp nEq (mOp nIx (mVar 1) (mC (.int 0))) (mC (.str "hand"))) (mCall 2 sp_put_hand w (mCons (mVar 0) (mCons (mVar 1) mNil)))))))
@[irreducible] def sp_is_put : NSp := spOf 2 m_is_put
/-- read(text) : 0=text 1=found 2=number 3=row -/
def m_read (w : NW) : NS :=
    (sSeq (sIf (mNot (mTst (mCallB (nIsi CL) (mCons (mVar 0) (mCons (mC (.ty "str")) mNil)))))
    (sRaiseX "NoText" "line" (mC (.int 0)) w)
    sNext)
    (sSeq (sSet 1 (mMake "Market" 1 sp_Market___init__ w mNil))
    (sSeq (sForI (iEnumN (mM1 nSplit (mVar 0) (mC (.str "\n")))) (gTp 2 (gsCons (gNm 2) (gsCons (gNm 3) gsNil)))
    (sIf (mNot (mTst (mCall 2 sp_is_put w (mCons (mVar 1) (mCons (mM1 nSplit (mVar 3) (mC (.str " "))) mNil)))))
    (sRaiseX "NoText" "line" (mOp nAdd (mVar 2) (mC (.int 1))) w)
    sNext))
    (sRet (mVar 1)))))
@[irreducible] def sp_read : NSp := spOf 4 m_read
def mt_Maker_plain : MT := fun c => if c = "Product" then some (1, sp_Maker_plain) else if c = "Stretch" then some (1, sp_Maker_plain) else if c = "Sum" then some (1, sp_Maker_plain) else none
/-- law(_law_script) : 0=_law_script 1=_law_state 2=_law_text 3=_law_makers 4=_law_purses 5=_law_market_here 6=_law_plains 7=_law_turn 8=_law_side 9=_law_size 10=_law_name -/
def m_law (w : NW) : NS :=
    (sSeq (sSet 1 (mDisp [(.inr "cells", (mVar 0)), (.inr "left", (mCallB nListD (mCons (mVar 0) mNil))), (.inr "at", (mC (.int 0)))]))
    (sSeq (sAsg (mCall 3 sp__law_market w (mCons (mVar 1) (mCons (mOp nIx (mLst (mCons (mOp nPow (mC (.int 10)) (mC (.int 12))) (mCons (mC (.int 1000)) (mCons (mOp nPow (mC (.int 10)) (mC (.int 6))) mNil)))) (mOp nMod (mCall 1 sp__law_next w (mCons (mVar 1) mNil)) (mC (.int 3)))) (mCons (mC (.int 5)) mNil)))) (gTp 3 (gsCons (gNm 2) (gsCons (gNm 3) (gsCons (gNm 4) gsNil)))))
    (sSeq (sSet 5 (mCall 1 sp_read w (mCons (mVar 2) mNil)))
    (sSeq (sSet 6 (mListVals (mVar 3)))
    (sSeq (sForR1 (mOp nAdd (mC (.int 1)) (mCallB nMin2 (mCons (mC (.int 3)) (mCons (mOp nDiv (mCallB nLen (mCons (mVar 0) mNil)) (mC (.int 16))) mNil)))) (gNm 7)
    (sSeq (sSet 8 (mOp nMod (mCall 1 sp__law_next w (mCons (mVar 1) mNil)) (mC (.int 2))))
    (sSeq (sSet 9 (mOp nAdd (mC (.int 1)) (mCall 2 sp__law_great w (mCons (mVar 1) (mCons (mOp nIx (mLst (mCons (mOp nPow (mC (.int 10)) (mC (.int 12))) (mCons (mC (.int 100)) (mCons (mOp nPow (mC (.int 10)) (mC (.int 9))) mNil)))) (mOp nMod (mCall 1 sp__law_next w (mCons (mVar 1) mNil)) (mC (.int 3)))) mNil)))))
    (sIf (mNot (mTst (mCall 6 sp__law_one_good w (mCons (mVar 1) (mCons (mVar 5) (mCons (mVar 6) (mCons (mVar 8) (mCons (mVar 9) (mCons (mOp nAdd (mC (.int 1)) (mOp nMod (mCall 1 sp__law_next w (mCons (mVar 1) mNil)) (mC (.int 30)))) mNil)))))))))
    (sRet (mC (.bl false)))
    sNext))))
    (sRet (mOp nEq (mLock (mLc (iKeysN (mVar 3)) (gNm 10) mYes (mMeth "plain" mt_Maker_plain nw0 (mMeth "maker" mt_Market_maker nw0 (mVar 5) (mCons (mVar 10) mNil)) mNil) [10])) (mVar 6))))))))
@[irreducible] def sp_law : NSp := spOf 11 m_law
end K25

set_option Elab.async false
set_option linter.all false
set_option maxRecDepth 100000
set_option maxHeartbeats 4000000
namespace K25
open PySem PySem.Spec PyProof.Rows L2 N
variable [TabList]
def top (i : Nat) : Stmt := PySem.Challenge.pw_rumourmart_k25_whole_partings_move_no_be.main.body.getD i (.Pass ⟨0, 0, 0, 0⟩)
abbrev s_Maker_called : Stmt := inClass (top 25) 1
abbrev s_Stretch_called : Stmt := inClass (top 27) 0
abbrev s_Sum_called : Stmt := inClass (top 28) 0
abbrev s_Maker_plain : Stmt := inClass (top 25) 2
abbrev s_Market_maker : Stmt := inClass (top 49) 2
abbrev s__law_mixed : Stmt := top 64
abbrev s__law_next : Stmt := top 65
abbrev s__law_great : Stmt := top 66
abbrev s__law_due_of : Stmt := top 67
abbrev s__law_plain : Stmt := top 68
abbrev s__law_row : Stmt := top 71
abbrev s__law_market : Stmt := top 72
abbrev s_best_with : Stmt := top 37
abbrev s_best_from : Stmt := top 36
abbrev s_is_number : Stmt := top 33
abbrev s_is_whole : Stmt := top 16
abbrev s_need_count : Stmt := top 21
abbrev s_need_ware : Stmt := top 20
abbrev s_Market_names : Stmt := inClass (top 49) 1
abbrev s_Maker_is_dealt : Stmt := inClass (top 25) 5
abbrev s_Maker_haves : Stmt := inClass (top 25) 3
abbrev s_product_coming : Stmt := top 23
abbrev s_Product_coming : Stmt := inClass (top 26) 0
abbrev s_Stretch_propped : Stmt := inClass (top 27) 1
abbrev s_Stretch_coming : Stmt := inClass (top 27) 2
abbrev s_Sum_coming : Stmt := inClass (top 28) 1
abbrev s_Maker_told : Stmt := inClass (top 25) 6
abbrev s_come_of : Stmt := top 34
abbrev s_rows_of : Stmt := top 35
abbrev s_best : Stmt := top 38
abbrev s__law_best : Stmt := top 75
abbrev s__law_comes : Stmt := top 69
abbrev s__law_come : Stmt := top 73
abbrev s__law_others : Stmt := top 74
abbrev s_gets : Stmt := top 39
abbrev s__law_one_good : Stmt := top 76
abbrev s_Market___init__ : Stmt := inClass (top 49) 0
abbrev s_is_name : Stmt := top 53
abbrev s_number_in : Stmt := top 54
abbrev s_put_hand : Stmt := top 59
abbrev s_Maker___init__ : Stmt := inClass (top 25) 0
abbrev s_is_among : Stmt := top 17
abbrev s_is_pair : Stmt := top 18
abbrev s_is_due : Stmt := top 19
abbrev s_is_plain : Stmt := top 29
abbrev s_maker_of : Stmt := top 30
abbrev s_made_or_none : Stmt := top 57
abbrev s_due_in : Stmt := top 55
abbrev s_plain_in : Stmt := top 56
abbrev s_put_maker : Stmt := top 58
abbrev s_is_put : Stmt := top 60
abbrev s_read : Stmt := top 61
abbrev s_law : Stmt := top 77
abbrev s_NoText_init : Stmt := inClass (top 7) 0
structure Txt (WW : World) (K : PySem.W.Frag) (mg : Str → Option Value) : Prop where
  kf : KF CL K
  kx : KX CL K
  ki : KI IC K
  f_all : mg "all" = none
  f_bool : mg "bool" = none
  f_enumerate : mg "enumerate" = none
  f_int : mg "int" = none
  f_isinstance : mg "isinstance" = none
  f_len : mg "len" = none
  f_list : mg "list" = none
  f_max : mg "max" = none
  f_min : mg "min" = none
  f_range : mg "range" = none
  f_str : mg "str" = none
  f_sum : mg "sum" = none
  f_tuple : mg "tuple" = none
  f_zip : mg "zip" = none
  g_BadCount : mg "BadCount" = some (.ref (He.ga K "BadCount"))
  x_BadCount : (He.Fa.exc "BadCount").ok K = true
  g_BadMaker : mg "BadMaker" = some (.ref (He.ga K "BadMaker"))
  x_BadMaker : (He.Fa.exc "BadMaker").ok K = true
  g_BadWare : mg "BadWare" = some (.ref (He.ga K "BadWare"))
  x_BadWare : (He.Fa.exc "BadWare").ok K = true
  c_FIGURES : ∃ t, mg "FIGURES" = some (.str "0123456789" t)
  c_MOST : ∃ t, mg "MOST" = some (.int 1000000000000 t)
  c_MOST_BOTTOM : ∃ t, mg "MOST_BOTTOM" = some (.int 10000 t)
  c_MOST_FIGURES : ∃ t, mg "MOST_FIGURES" = some (.int 13 t)
  c_MOST_GRAINS : ∃ t, mg "MOST_GRAINS" = some (.int 1000000000000 t)
  c_MOST_HANDS : ∃ t, mg "MOST_HANDS" = some (.int 6 t)
  c_MOST_LOTS : ∃ t, mg "MOST_LOTS" = some (.int 30 t)
  c_MOST_MAKERS : ∃ t, mg "MOST_MAKERS" = some (.int 6 t)
  c_MOST_RATE : ∃ t, mg "MOST_RATE" = some (.int 1000000 t)
  c_MOST_SIGNS : ∃ t, mg "MOST_SIGNS" = some (.int 8 t)
  g_Market : mg "Market" = some (.ref (He.ga K "Market"))
  g_MartError : mg "MartError" = some (.ref (He.ga K "MartError"))
  g_NoName : mg "NoName" = some (.ref (He.ga K "NoName"))
  x_NoName : (He.Fa.exc "NoName").ok K = true
  g_NoParting : mg "NoParting" = some (.ref (He.ga K "NoParting"))
  x_NoParting : (He.Fa.exc "NoParting").ok K = true
  g_NoText : mg "NoText" = some (.ref (He.ga K "NoText"))
  g_Product : mg "Product" = some (.ref (He.ga K "Product"))
  g_SIZES : mg "SIZES" = some (.ref (He.ga K "SIZES"))
  c_SMALL : ∃ t, mg "SMALL" = some (.str "abcdefghijklmnopqrstuvwxyz" t)
  g_Stretch : mg "Stretch" = some (.ref (He.ga K "Stretch"))
  g_Sum : mg "Sum" = some (.ref (He.ga K "Sum"))
  g_TooLittle : mg "TooLittle" = some (.ref (He.ga K "TooLittle"))
  x_TooLittle : (He.Fa.exc "TooLittle").ok K = true
  g_TooMuch : mg "TooMuch" = some (.ref (He.ga K "TooMuch"))
  x_TooMuch : (He.Fa.exc "TooMuch").ok K = true
  t_WARES : TupS K "WARES" c_WARES
  g_WARES : mg "WARES" = some (.ref (He.ga K "WARES"))
  g__law_best : mg "_law_best" = some (.ref (He.ga K "_law_best"))
  g__law_come : mg "_law_come" = some (.ref (He.ga K "_law_come"))
  g__law_comes : mg "_law_comes" = some (.ref (He.ga K "_law_comes"))
  g__law_due_of : mg "_law_due_of" = some (.ref (He.ga K "_law_due_of"))
  g__law_great : mg "_law_great" = some (.ref (He.ga K "_law_great"))
  g__law_market : mg "_law_market" = some (.ref (He.ga K "_law_market"))
  g__law_mixed : mg "_law_mixed" = some (.ref (He.ga K "_law_mixed"))
  g__law_next : mg "_law_next" = some (.ref (He.ga K "_law_next"))
  g__law_one_good : mg "_law_one_good" = some (.ref (He.ga K "_law_one_good"))
  g__law_others : mg "_law_others" = some (.ref (He.ga K "_law_others"))
  g__law_plain : mg "_law_plain" = some (.ref (He.ga K "_law_plain"))
  g__law_row : mg "_law_row" = some (.ref (He.ga K "_law_row"))
  g_best : mg "best" = some (.ref (He.ga K "best"))
  g_best_from : mg "best_from" = some (.ref (He.ga K "best_from"))
  g_best_with : mg "best_with" = some (.ref (He.ga K "best_with"))
  g_come_of : mg "come_of" = some (.ref (He.ga K "come_of"))
  g_due_in : mg "due_in" = some (.ref (He.ga K "due_in"))
  g_gets : mg "gets" = some (.ref (He.ga K "gets"))
  g_hand_row : mg "hand_row" = some (.ref (He.ga K "hand_row"))
  g_is_among : mg "is_among" = some (.ref (He.ga K "is_among"))
  g_is_due : mg "is_due" = some (.ref (He.ga K "is_due"))
  g_is_name : mg "is_name" = some (.ref (He.ga K "is_name"))
  g_is_number : mg "is_number" = some (.ref (He.ga K "is_number"))
  g_is_pair : mg "is_pair" = some (.ref (He.ga K "is_pair"))
  g_is_plain : mg "is_plain" = some (.ref (He.ga K "is_plain"))
  g_is_put : mg "is_put" = some (.ref (He.ga K "is_put"))
  g_is_whole : mg "is_whole" = some (.ref (He.ga K "is_whole"))
  g_law : mg "law" = some (.ref (He.ga K "law"))
  g_made_or_none : mg "made_or_none" = some (.ref (He.ga K "made_or_none"))
  g_maker_of : mg "maker_of" = some (.ref (He.ga K "maker_of"))
  g_maker_row : mg "maker_row" = some (.ref (He.ga K "maker_row"))
  g_need_count : mg "need_count" = some (.ref (He.ga K "need_count"))
  g_need_ware : mg "need_ware" = some (.ref (He.ga K "need_ware"))
  g_number_in : mg "number_in" = some (.ref (He.ga K "number_in"))
  g_plain_in : mg "plain_in" = some (.ref (He.ga K "plain_in"))
  g_product_coming : mg "product_coming" = some (.ref (He.ga K "product_coming"))
  g_product_wanted : mg "product_wanted" = some (.ref (He.ga K "product_wanted"))
  g_put_hand : mg "put_hand" = some (.ref (He.ga K "put_hand"))
  g_put_maker : mg "put_maker" = some (.ref (He.ga K "put_maker"))
  g_read : mg "read" = some (.ref (He.ga K "read"))
  g_rounded_up : mg "rounded_up" = some (.ref (He.ga K "rounded_up"))
  g_rows_of : mg "rows_of" = some (.ref (He.ga K "rows_of"))
  g_told_or_none : mg "told_or_none" = some (.ref (He.ga K "told_or_none"))
  tb_SIZES : TabN K WW "SIZES" c_SIZES
  o_NoText : OexN K "NoText" "line"
  d_NoText_init : ∃ fd, FunD K "__init__" "NoText.__init__" (defArgs s_NoText_init) (defBody s_NoText_init) (defScope s_NoText_init) [] [] (He.ma K (He.ga K "NoText") "__init__") fd
  d__law_mixed : ∃ fd, FunD K "_law_mixed" "_law_mixed" (defArgs s__law_mixed) (defBody s__law_mixed) (defScope s__law_mixed) [] [] (He.ga K "_law_mixed") fd
  d__law_next : ∃ fd, FunD K "_law_next" "_law_next" (defArgs s__law_next) (defBody s__law_next) (defScope s__law_next) [] [] (He.ga K "_law_next") fd
  d__law_great : ∃ fd, FunD K "_law_great" "_law_great" (defArgs s__law_great) (defBody s__law_great) (defScope s__law_great) [] [] (He.ga K "_law_great") fd
  d__law_due_of : ∃ fd, FunD K "_law_due_of" "_law_due_of" (defArgs s__law_due_of) (defBody s__law_due_of) (defScope s__law_due_of) [] [] (He.ga K "_law_due_of") fd
  d__law_plain : ∃ fd, FunD K "_law_plain" "_law_plain" (defArgs s__law_plain) (defBody s__law_plain) (defScope s__law_plain) [] [] (He.ga K "_law_plain") fd
  d__law_row : ∃ fd, FunD K "_law_row" "_law_row" (defArgs s__law_row) (defBody s__law_row) (defScope s__law_row) [] [] (He.ga K "_law_row") fd
  d__law_market : ∃ fd, FunD K "_law_market" "_law_market" (defArgs s__law_market) (defBody s__law_market) (defScope s__law_market) [] [] (He.ga K "_law_market") fd
  d_best_with : ∃ fd, FunD K "best_with" "best_with" (defArgs s_best_with) (defBody s_best_with) (defScope s_best_with) [] [] (He.ga K "best_with") fd
  d_best_from : ∃ fd, FunD K "best_from" "best_from" (defArgs s_best_from) (defBody s_best_from) (defScope s_best_from) [] [] (He.ga K "best_from") fd
  d_is_number : ∃ fd, FunD K "is_number" "is_number" (defArgs s_is_number) (defBody s_is_number) (defScope s_is_number) [] [] (He.ga K "is_number") fd
  d_is_whole : ∃ fd, FunD K "is_whole" "is_whole" (defArgs s_is_whole) (defBody s_is_whole) (defScope s_is_whole) [] [] (He.ga K "is_whole") fd
  d_need_count : ∃ fd, FunD K "need_count" "need_count" (defArgs s_need_count) (defBody s_need_count) (defScope s_need_count) [] [] (He.ga K "need_count") fd
  d_need_ware : ∃ fd, FunD K "need_ware" "need_ware" (defArgs s_need_ware) (defBody s_need_ware) (defScope s_need_ware) [] [] (He.ga K "need_ware") fd
  d_product_coming : ∃ fd, FunD K "product_coming" "product_coming" (defArgs s_product_coming) (defBody s_product_coming) (defScope s_product_coming) [] [] (He.ga K "product_coming") fd
  d_come_of : ∃ fd, FunD K "come_of" "come_of" (defArgs s_come_of) (defBody s_come_of) (defScope s_come_of) [] [] (He.ga K "come_of") fd
  d_rows_of : ∃ fd, FunD K "rows_of" "rows_of" (defArgs s_rows_of) (defBody s_rows_of) (defScope s_rows_of) [] [] (He.ga K "rows_of") fd
  d_best : ∃ fd, FunD K "best" "best" (defArgs s_best) (defBody s_best) (defScope s_best) [] [] (He.ga K "best") fd
  d__law_best : ∃ fd, FunD K "_law_best" "_law_best" (defArgs s__law_best) (defBody s__law_best) (defScope s__law_best) [] [] (He.ga K "_law_best") fd
  d__law_comes : ∃ fd, FunD K "_law_comes" "_law_comes" (defArgs s__law_comes) (defBody s__law_comes) (defScope s__law_comes) [] [] (He.ga K "_law_comes") fd
  d__law_come : ∃ fd, FunD K "_law_come" "_law_come" (defArgs s__law_come) (defBody s__law_come) (defScope s__law_come) [] [] (He.ga K "_law_come") fd
  d__law_others : ∃ fd, FunD K "_law_others" "_law_others" (defArgs s__law_others) (defBody s__law_others) (defScope s__law_others) [] [] (He.ga K "_law_others") fd
  d_gets : ∃ fd, FunD K "gets" "gets" (defArgs s_gets) (defBody s_gets) (defScope s_gets) [] [] (He.ga K "gets") fd
  d__law_one_good : ∃ fd, FunD K "_law_one_good" "_law_one_good" (defArgs s__law_one_good) (defBody s__law_one_good) (defScope s__law_one_good) [] [] (He.ga K "_law_one_good") fd
  d_is_name : ∃ fd, FunD K "is_name" "is_name" (defArgs s_is_name) (defBody s_is_name) (defScope s_is_name) [] [] (He.ga K "is_name") fd
  d_number_in : ∃ fd, FunD K "number_in" "number_in" (defArgs s_number_in) (defBody s_number_in) (defScope s_number_in) [] [] (He.ga K "number_in") fd
  d_put_hand : ∃ fd, FunD K "put_hand" "put_hand" (defArgs s_put_hand) (defBody s_put_hand) (defScope s_put_hand) [] [] (He.ga K "put_hand") fd
  d_is_among : ∃ fd, FunD K "is_among" "is_among" (defArgs s_is_among) (defBody s_is_among) (defScope s_is_among) [] [] (He.ga K "is_among") fd
  d_is_pair : ∃ fd, FunD K "is_pair" "is_pair" (defArgs s_is_pair) (defBody s_is_pair) (defScope s_is_pair) [] [] (He.ga K "is_pair") fd
  d_is_due : ∃ fd, FunD K "is_due" "is_due" (defArgs s_is_due) (defBody s_is_due) (defScope s_is_due) [] [] (He.ga K "is_due") fd
  d_is_plain : ∃ fd, FunD K "is_plain" "is_plain" (defArgs s_is_plain) (defBody s_is_plain) (defScope s_is_plain) [] [] (He.ga K "is_plain") fd
  d_maker_of : ∃ fd, FunD K "maker_of" "maker_of" (defArgs s_maker_of) (defBody s_maker_of) (defScope s_maker_of) [] [] (He.ga K "maker_of") fd
  d_made_or_none : ∃ fd, FunD K "made_or_none" "made_or_none" (defArgs s_made_or_none) (defBody s_made_or_none) (defScope s_made_or_none) [] [] (He.ga K "made_or_none") fd
  d_due_in : ∃ fd, FunD K "due_in" "due_in" (defArgs s_due_in) (defBody s_due_in) (defScope s_due_in) [] [] (He.ga K "due_in") fd
  d_plain_in : ∃ fd, FunD K "plain_in" "plain_in" (defArgs s_plain_in) (defBody s_plain_in) (defScope s_plain_in) [] [] (He.ga K "plain_in") fd
  d_put_maker : ∃ fd, FunD K "put_maker" "put_maker" (defArgs s_put_maker) (defBody s_put_maker) (defScope s_put_maker) [] [] (He.ga K "put_maker") fd
  d_is_put : ∃ fd, FunD K "is_put" "is_put" (defArgs s_is_put) (defBody s_is_put) (defScope s_is_put) [] [] (He.ga K "is_put") fd
  d_read : ∃ fd, FunD K "read" "read" (defArgs s_read) (defBody s_read) (defScope s_read) [] [] (He.ga K "read") fd
  d_law : ∃ fd, FunD K "law" "law" (defArgs s_law) (defBody s_law) (defScope s_law) [] [] (He.ga K "law") fd
  co_Market : ClsOk K "Market"
  k_Market : Mk K (He.ga K "Market") (He.ma K (He.ga K "Market") "__init__")
  d_Market_init : ∃ fd, FunD K "__init__" "Market.__init__" (defArgs s_Market___init__) (defBody s_Market___init__) (defScope s_Market___init__) [] [] (He.ma K (He.ga K "Market") "__init__") fd
  co_Product : ClsOk K "Product"
  k_Product : Mk K (He.ga K "Product") (He.ma K (He.ga K "Product") "__init__")
  d_Product_init : ∃ fd, FunD K "__init__" "Maker.__init__" (defArgs s_Maker___init__) (defBody s_Maker___init__) (defScope s_Maker___init__) [] [] (He.ma K (He.ga K "Product") "__init__") fd
  co_Stretch : ClsOk K "Stretch"
  k_Stretch : Mk K (He.ga K "Stretch") (He.ma K (He.ga K "Stretch") "__init__")
  d_Stretch_init : ∃ fd, FunD K "__init__" "Maker.__init__" (defArgs s_Maker___init__) (defBody s_Maker___init__) (defScope s_Maker___init__) [] [] (He.ma K (He.ga K "Stretch") "__init__") fd
  co_Sum : ClsOk K "Sum"
  k_Sum : Mk K (He.ga K "Sum") (He.ma K (He.ga K "Sum") "__init__")
  d_Sum_init : ∃ fd, FunD K "__init__" "Maker.__init__" (defArgs s_Maker___init__) (defBody s_Maker___init__) (defScope s_Maker___init__) [] [] (He.ma K (He.ga K "Sum") "__init__") fd
  m_Product_called : Meth K (He.ga K "Product") "called" (He.ma K (He.ga K "Product") "called")
  d_Product_called : ∃ fd, FunD K "called" "Maker.called" (defArgs s_Maker_called) (defBody s_Maker_called) (defScope s_Maker_called) [] [] (He.ma K (He.ga K "Product") "called") fd
  m_Stretch_called : Meth K (He.ga K "Stretch") "called" (He.ma K (He.ga K "Stretch") "called")
  d_Stretch_called : ∃ fd, FunD K "called" "Stretch.called" (defArgs s_Stretch_called) (defBody s_Stretch_called) (defScope s_Stretch_called) [] [] (He.ma K (He.ga K "Stretch") "called") fd
  m_Sum_called : Meth K (He.ga K "Sum") "called" (He.ma K (He.ga K "Sum") "called")
  d_Sum_called : ∃ fd, FunD K "called" "Sum.called" (defArgs s_Sum_called) (defBody s_Sum_called) (defScope s_Sum_called) [] [] (He.ma K (He.ga K "Sum") "called") fd
  m_Product_coming : Meth K (He.ga K "Product") "coming" (He.ma K (He.ga K "Product") "coming")
  d_Product_coming : ∃ fd, FunD K "coming" "Product.coming" (defArgs s_Product_coming) (defBody s_Product_coming) (defScope s_Product_coming) [] [] (He.ma K (He.ga K "Product") "coming") fd
  m_Stretch_coming : Meth K (He.ga K "Stretch") "coming" (He.ma K (He.ga K "Stretch") "coming")
  d_Stretch_coming : ∃ fd, FunD K "coming" "Stretch.coming" (defArgs s_Stretch_coming) (defBody s_Stretch_coming) (defScope s_Stretch_coming) [] [] (He.ma K (He.ga K "Stretch") "coming") fd
  m_Sum_coming : Meth K (He.ga K "Sum") "coming" (He.ma K (He.ga K "Sum") "coming")
  d_Sum_coming : ∃ fd, FunD K "coming" "Sum.coming" (defArgs s_Sum_coming) (defBody s_Sum_coming) (defScope s_Sum_coming) [] [] (He.ma K (He.ga K "Sum") "coming") fd
  m_Product_haves : Meth K (He.ga K "Product") "haves" (He.ma K (He.ga K "Product") "haves")
  d_Product_haves : ∃ fd, FunD K "haves" "Maker.haves" (defArgs s_Maker_haves) (defBody s_Maker_haves) (defScope s_Maker_haves) [] [] (He.ma K (He.ga K "Product") "haves") fd
  m_Stretch_haves : Meth K (He.ga K "Stretch") "haves" (He.ma K (He.ga K "Stretch") "haves")
  d_Stretch_haves : ∃ fd, FunD K "haves" "Maker.haves" (defArgs s_Maker_haves) (defBody s_Maker_haves) (defScope s_Maker_haves) [] [] (He.ma K (He.ga K "Stretch") "haves") fd
  m_Sum_haves : Meth K (He.ga K "Sum") "haves" (He.ma K (He.ga K "Sum") "haves")
  d_Sum_haves : ∃ fd, FunD K "haves" "Maker.haves" (defArgs s_Maker_haves) (defBody s_Maker_haves) (defScope s_Maker_haves) [] [] (He.ma K (He.ga K "Sum") "haves") fd
  m_Product_is_dealt : Meth K (He.ga K "Product") "is_dealt" (He.ma K (He.ga K "Product") "is_dealt")
  d_Product_is_dealt : ∃ fd, FunD K "is_dealt" "Maker.is_dealt" (defArgs s_Maker_is_dealt) (defBody s_Maker_is_dealt) (defScope s_Maker_is_dealt) [] [] (He.ma K (He.ga K "Product") "is_dealt") fd
  m_Stretch_is_dealt : Meth K (He.ga K "Stretch") "is_dealt" (He.ma K (He.ga K "Stretch") "is_dealt")
  d_Stretch_is_dealt : ∃ fd, FunD K "is_dealt" "Maker.is_dealt" (defArgs s_Maker_is_dealt) (defBody s_Maker_is_dealt) (defScope s_Maker_is_dealt) [] [] (He.ma K (He.ga K "Stretch") "is_dealt") fd
  m_Sum_is_dealt : Meth K (He.ga K "Sum") "is_dealt" (He.ma K (He.ga K "Sum") "is_dealt")
  d_Sum_is_dealt : ∃ fd, FunD K "is_dealt" "Maker.is_dealt" (defArgs s_Maker_is_dealt) (defBody s_Maker_is_dealt) (defScope s_Maker_is_dealt) [] [] (He.ma K (He.ga K "Sum") "is_dealt") fd
  m_Product_plain : Meth K (He.ga K "Product") "plain" (He.ma K (He.ga K "Product") "plain")
  d_Product_plain : ∃ fd, FunD K "plain" "Maker.plain" (defArgs s_Maker_plain) (defBody s_Maker_plain) (defScope s_Maker_plain) [] [] (He.ma K (He.ga K "Product") "plain") fd
  m_Stretch_plain : Meth K (He.ga K "Stretch") "plain" (He.ma K (He.ga K "Stretch") "plain")
  d_Stretch_plain : ∃ fd, FunD K "plain" "Maker.plain" (defArgs s_Maker_plain) (defBody s_Maker_plain) (defScope s_Maker_plain) [] [] (He.ma K (He.ga K "Stretch") "plain") fd
  m_Sum_plain : Meth K (He.ga K "Sum") "plain" (He.ma K (He.ga K "Sum") "plain")
  d_Sum_plain : ∃ fd, FunD K "plain" "Maker.plain" (defArgs s_Maker_plain) (defBody s_Maker_plain) (defScope s_Maker_plain) [] [] (He.ma K (He.ga K "Sum") "plain") fd
  m_Stretch_propped : Meth K (He.ga K "Stretch") "propped" (He.ma K (He.ga K "Stretch") "propped")
  d_Stretch_propped : ∃ fd, FunD K "propped" "Stretch.propped" (defArgs s_Stretch_propped) (defBody s_Stretch_propped) (defScope s_Stretch_propped) [] [] (He.ma K (He.ga K "Stretch") "propped") fd
  m_Product_told : Meth K (He.ga K "Product") "told" (He.ma K (He.ga K "Product") "told")
  d_Product_told : ∃ fd, FunD K "told" "Maker.told" (defArgs s_Maker_told) (defBody s_Maker_told) (defScope s_Maker_told) [] [] (He.ma K (He.ga K "Product") "told") fd
  m_Stretch_told : Meth K (He.ga K "Stretch") "told" (He.ma K (He.ga K "Stretch") "told")
  d_Stretch_told : ∃ fd, FunD K "told" "Maker.told" (defArgs s_Maker_told) (defBody s_Maker_told) (defScope s_Maker_told) [] [] (He.ma K (He.ga K "Stretch") "told") fd
  m_Sum_told : Meth K (He.ga K "Sum") "told" (He.ma K (He.ga K "Sum") "told")
  d_Sum_told : ∃ fd, FunD K "told" "Maker.told" (defArgs s_Maker_told) (defBody s_Maker_told) (defScope s_Maker_told) [] [] (He.ma K (He.ga K "Sum") "told") fd
  m_Market_maker : Meth K (He.ga K "Market") "maker" (He.ma K (He.ga K "Market") "maker")
  d_Market_maker : ∃ fd, FunD K "maker" "Market.maker" (defArgs s_Market_maker) (defBody s_Market_maker) (defScope s_Market_maker) [] [] (He.ma K (He.ga K "Market") "maker") fd
  m_Market_names : Meth K (He.ga K "Market") "names" (He.ma K (He.ga K "Market") "names")
  d_Market_names : ∃ fd, FunD K "names" "Market.names" (defArgs s_Market_names) (defBody s_Market_names) (defScope s_Market_names) [] [] (He.ma K (He.ga K "Market") "names") fd
section
variable {P : Program} {WW : World} {K : PySem.W.Frag} {mg : Str → Option Value} {base : Heap}
theorem sc_NoText_init : FnScope ["self", "line"] ["self", "line"] (defScope s_NoText_init) := ⟨rfl, rfl, rfl, by decide +kernel, rfl, by decide +kernel, by decide +kernel⟩
theorem oi_NoText (T : Txt WW K mg) : ∃ fd, FnOk P WW K mg base (L2.CX P WW) 1 (He.ma K (He.ga K "NoText") "__init__") fd ["self", "line"] (spOI K "line") ∧ Binds K fd ["self", "line"] [] := by
  obtain ⟨fd, F⟩ := T.d_NoText_init
  exact ⟨fd, fn_oinit F sc_NoText_init rfl rfl rfl (by decide +kernel) (by decide +kernel) (by decide +kernel) (by decide +kernel) (fun _ => rfl), F.bindsN fun _ _ _ _ _ _ us hl => match us, hl with | [_, _], _ => rfl⟩
theorem sc_Maker_called : FnScope ["self"] ["self"] (defScope s_Maker_called) := ⟨rfl, rfl, rfl, by decide +kernel, rfl, by decide +kernel, by decide +kernel⟩
theorem ok_Maker_called {f : Addr} {fd : FuncData} (F : FunD K "called" "Maker.called" (defArgs s_Maker_called) (defBody s_Maker_called) (defScope s_Maker_called) [] [] f fd) (T : Txt WW K mg) : FnOk P WW K mg base (L2.CX P WW) 1 f fd ["self"] (lSp K 1 sp_Maker_called) := by
  unfold sp_Maker_called
  refine fn_body (k := 0) (m := m_Maker_called) F sc_Maker_called (fun cdv A outer s H E w hr cx => ?_)
  have S := sc_Maker_called
  have hu64 := hr.units
  have hu1 := hu_of hr
  unfold m_Maker_called
  exact (jss_one (js_ret je_str))
theorem fn_Maker_called {f : Addr} {fd : FuncData} (F : FunD K "called" "Maker.called" (defArgs s_Maker_called) (defBody s_Maker_called) (defScope s_Maker_called) [] [] f fd) (T : Txt WW K mg) : Fn P WW K mg base 1 f 1 sp_Maker_called :=
  ⟨⟨fd, ["self"], rfl, ok_Maker_called F T, F.bindsN fun _ _ _ _ _ _ us hl => match us, hl with | [_], _ => rfl⟩, F.kp⟩
theorem sc_Stretch_called : FnScope ["self"] ["self"] (defScope s_Stretch_called) := ⟨rfl, rfl, rfl, by decide +kernel, rfl, by decide +kernel, by decide +kernel⟩
theorem ok_Stretch_called {f : Addr} {fd : FuncData} (F : FunD K "called" "Stretch.called" (defArgs s_Stretch_called) (defBody s_Stretch_called) (defScope s_Stretch_called) [] [] f fd) (T : Txt WW K mg) : FnOk P WW K mg base (L2.CX P WW) 1 f fd ["self"] (lSp K 1 sp_Stretch_called) := by
  unfold sp_Stretch_called
  refine fn_body (k := 0) (m := m_Stretch_called) F sc_Stretch_called (fun cdv A outer s H E w hr cx => ?_)
  have S := sc_Stretch_called
  have hu64 := hr.units
  have hu1 := hu_of hr
  unfold m_Stretch_called
  exact (jss_one (js_ret je_str))
theorem fn_Stretch_called {f : Addr} {fd : FuncData} (F : FunD K "called" "Stretch.called" (defArgs s_Stretch_called) (defBody s_Stretch_called) (defScope s_Stretch_called) [] [] f fd) (T : Txt WW K mg) : Fn P WW K mg base 1 f 1 sp_Stretch_called :=
  ⟨⟨fd, ["self"], rfl, ok_Stretch_called F T, F.bindsN fun _ _ _ _ _ _ us hl => match us, hl with | [_], _ => rfl⟩, F.kp⟩
theorem sc_Sum_called : FnScope ["self"] ["self"] (defScope s_Sum_called) := ⟨rfl, rfl, rfl, by decide +kernel, rfl, by decide +kernel, by decide +kernel⟩
theorem ok_Sum_called {f : Addr} {fd : FuncData} (F : FunD K "called" "Sum.called" (defArgs s_Sum_called) (defBody s_Sum_called) (defScope s_Sum_called) [] [] f fd) (T : Txt WW K mg) : FnOk P WW K mg base (L2.CX P WW) 1 f fd ["self"] (lSp K 1 sp_Sum_called) := by
  unfold sp_Sum_called
  refine fn_body (k := 0) (m := m_Sum_called) F sc_Sum_called (fun cdv A outer s H E w hr cx => ?_)
  have S := sc_Sum_called
  have hu64 := hr.units
  have hu1 := hu_of hr
  unfold m_Sum_called
  exact (jss_one (js_ret je_str))
theorem fn_Sum_called {f : Addr} {fd : FuncData} (F : FunD K "called" "Sum.called" (defArgs s_Sum_called) (defBody s_Sum_called) (defScope s_Sum_called) [] [] f fd) (T : Txt WW K mg) : Fn P WW K mg base 1 f 1 sp_Sum_called :=
  ⟨⟨fd, ["self"], rfl, ok_Sum_called F T, F.bindsN fun _ _ _ _ _ _ us hl => match us, hl with | [_], _ => rfl⟩, F.kp⟩
theorem mk_Maker_called (T : Txt WW K mg) : MtK P WW K mg base "called" mt_Maker_called 1 := by
  refine ⟨fun c n sp h => ?_⟩
  unfold mt_Maker_called at h
  split at h
  · rename_i e; subst e; cases h
    obtain ⟨fd, F⟩ := T.d_Product_called
    exact ⟨_, T.m_Product_called, (fn_Maker_called F T).mono (by decide)⟩
  split at h
  · rename_i e; subst e; cases h
    obtain ⟨fd, F⟩ := T.d_Stretch_called
    exact ⟨_, T.m_Stretch_called, (fn_Stretch_called F T).mono (by decide)⟩
  split at h
  · rename_i e; subst e; cases h
    obtain ⟨fd, F⟩ := T.d_Sum_called
    exact ⟨_, T.m_Sum_called, (fn_Sum_called F T).mono (by decide)⟩
  cases h
theorem sc_Maker_plain : FnScope ["self"] ["self"] (defScope s_Maker_plain) := ⟨rfl, rfl, rfl, by decide +kernel, rfl, by decide +kernel, by decide +kernel⟩
theorem ok_Maker_plain {f : Addr} {fd : FuncData} (F : FunD K "plain" "Maker.plain" (defArgs s_Maker_plain) (defBody s_Maker_plain) (defScope s_Maker_plain) [] [] f fd) (T : Txt WW K mg) : FnOk P WW K mg base (L2.CX P WW) 2 f fd ["self"] (lSp K 1 sp_Maker_plain) := by
  unfold sp_Maker_plain
  refine fn_body (k := 1) (m := m_Maker_plain) F sc_Maker_plain (fun cdv A outer s H E w hr cx => ?_)
  have S := sc_Maker_plain
  have hu64 := hr.units
  have hu1 := hu_of hr
  unfold m_Maker_plain
  exact (jss_one (js_ret (je_op opN_add (je_tup (ja_cons (je_methK0 cx (mk_Maker_called T) (hr.mono (by decide)) (je_var (i := 0)) ) (ja_cons (je_ix (ixN_seqv hu1) (je_fld (je_var (i := 0))) je_int) (ja_cons (je_ix (ixN_seqv hu1) (je_fld (je_var (i := 0))) je_int) (ja_cons (je_fld (je_var (i := 0))) ja_nil))))) (je_fld (je_var (i := 0))))))
theorem fn_Maker_plain {f : Addr} {fd : FuncData} (F : FunD K "plain" "Maker.plain" (defArgs s_Maker_plain) (defBody s_Maker_plain) (defScope s_Maker_plain) [] [] f fd) (T : Txt WW K mg) : Fn P WW K mg base 2 f 1 sp_Maker_plain :=
  ⟨⟨fd, ["self"], rfl, ok_Maker_plain F T, F.bindsN fun _ _ _ _ _ _ us hl => match us, hl with | [_], _ => rfl⟩, F.kp⟩
theorem sc_Market_maker : FnScope ["self", "name"] ["self", "name"] (defScope s_Market_maker) := ⟨rfl, rfl, rfl, by decide +kernel, rfl, by decide +kernel, by decide +kernel⟩
theorem ok_Market_maker {f : Addr} {fd : FuncData} (F : FunD K "maker" "Market.maker" (defArgs s_Market_maker) (defBody s_Market_maker) (defScope s_Market_maker) [] [] f fd) (T : Txt WW K mg) : FnOk P WW K mg base (L2.CX P WW) 1 f fd ["self", "name"] (lSp K 2 sp_Market_maker) := by
  unfold sp_Market_maker
  refine fn_body (k := 0) (m := m_Market_maker) F sc_Market_maker (fun cdv A outer s H E w hr cx => ?_)
  have S := sc_Market_maker
  have hu64 := hr.units
  have hu1 := hu_of hr
  unfold m_Market_maker
  exact (jss_cons (js_if (jt_w (jw_or (jt_not (jt_val (je_callB (callN_isi T.kf) T.f_isinstance (ja_cons (je_var (i := 1)) (ja_cons (je_tyB T.f_str) ja_nil))))) (jw_or1 (jt_cmp (opN_nin hu1) (je_var (i := 1)) (je_fld (je_var (i := 0))) (by rfl)))))
    (jss_one (js_raise cx T.x_NoName T.g_NoName))
    jss_nil)
    (jss_one (js_ret (je_ix (ixN_seqv hu1) (je_fld (je_var (i := 0))) (je_var (i := 1))))))
theorem fn_Market_maker {f : Addr} {fd : FuncData} (F : FunD K "maker" "Market.maker" (defArgs s_Market_maker) (defBody s_Market_maker) (defScope s_Market_maker) [] [] f fd) (T : Txt WW K mg) : Fn P WW K mg base 1 f 2 sp_Market_maker :=
  ⟨⟨fd, ["self", "name"], rfl, ok_Market_maker F T, F.bindsN fun _ _ _ _ _ _ us hl => match us, hl with | [_, _], _ => rfl⟩, F.kp⟩
theorem sc__law_mixed : FnScope ["_law_cell", "_law_k"] ["_law_cell", "_law_k"] (defScope s__law_mixed) := ⟨rfl, rfl, rfl, by decide +kernel, rfl, by decide +kernel, by decide +kernel⟩
theorem ok__law_mixed {f : Addr} {fd : FuncData} (F : FunD K "_law_mixed" "_law_mixed" (defArgs s__law_mixed) (defBody s__law_mixed) (defScope s__law_mixed) [] [] f fd) (T : Txt WW K mg) : FnOk P WW K mg base (L2.CX P WW) 1 f fd ["_law_cell", "_law_k"] (lSp K 2 sp__law_mixed) := by
  unfold sp__law_mixed
  refine fn_body (k := 0) (m := m__law_mixed) F sc__law_mixed (fun cdv A outer s H E w hr cx => ?_)
  have S := sc__law_mixed
  have hu64 := hr.units
  have hu1 := hu_of hr
  unfold m__law_mixed
  exact (jss_one (js_ret (je_op opN_mod (je_op opN_mul (je_op opN_mod (je_op opN_add (je_op opN_add (je_op opN_mul (je_var (i := 0)) (je_op opN_add je_int (je_op opN_mul (je_op opN_mul je_int (je_var (i := 1))) (je_var (i := 1))))) (je_op opN_mul je_int (je_var (i := 1)))) je_int) je_int) je_int) je_int)))
theorem fn__law_mixed {f : Addr} {fd : FuncData} (F : FunD K "_law_mixed" "_law_mixed" (defArgs s__law_mixed) (defBody s__law_mixed) (defScope s__law_mixed) [] [] f fd) (T : Txt WW K mg) : Fn P WW K mg base 1 f 2 sp__law_mixed :=
  ⟨⟨fd, ["_law_cell", "_law_k"], rfl, ok__law_mixed F T, F.bindsN fun _ _ _ _ _ _ us hl => match us, hl with | [_, _], _ => rfl⟩, F.kp⟩
theorem Fn__law_mixed (T : Txt WW K mg) : Fn P WW K mg base 1 (He.ga K "_law_mixed") 2 sp__law_mixed := by
  obtain ⟨fd, F⟩ := T.d__law_mixed
  exact fn__law_mixed F T
theorem sc__law_next : FnScope ["_law_state", "_law_k", "_law_at", "_law_number"] ["_law_state"] (defScope s__law_next) := ⟨rfl, rfl, rfl, by decide +kernel, rfl, by decide +kernel, by decide +kernel⟩
theorem ok__law_next {f : Addr} {fd : FuncData} (F : FunD K "_law_next" "_law_next" (defArgs s__law_next) (defBody s__law_next) (defScope s__law_next) [] [] f fd) (T : Txt WW K mg) : FnOk P WW K mg base (L2.CX P WW) 2 f fd ["_law_state"] (lSp K 1 sp__law_next) := by
  unfold sp__law_next
  refine fn_body (k := 1) (m := m__law_next) F sc__law_next (fun cdv A outer s H E w hr cx => ?_)
  have S := sc__law_next
  have hu64 := hr.units
  have hu1 := hu_of hr
  unfold m__law_next
  exact (jss_cons (js_asg (je_op opN_add (je_ix (ixN_seqv hu1) (je_var (i := 0)) je_str) je_int) (jg_ix hu1 (je_var (i := 0)) je_str))
    (jss_cons (js_set S.nd (je_ix (ixN_seqv hu1) (je_var (i := 0)) je_str))
    (jss_cons (js_if (jt_cmp (opN_eq hu64) (je_ix (ixN_seqv hu1) (je_var (i := 0)) je_str) (je_lst ja_nil) (nomark _))
    (jss_one (js_ret (je_call cx (Fn__law_mixed T) T.g__law_mixed (hr.mono (by decide)) (ja_cons (je_op opN_mul je_int (je_var (i := 1))) (ja_cons (je_op opN_mod (je_var (i := 1)) je_int) ja_nil)))))
    jss_nil)
    (jss_cons (js_set S.nd (je_op opN_mod (je_var (i := 1)) (je_callB callN_len T.f_len (ja_cons (je_ix (ixN_seqv hu1) (je_var (i := 0)) je_str) ja_nil))))
    (jss_cons (js_if (jt_w (jw_and (jt_cmp (opN_eq hu64) (je_op opN_mod (je_ix (ixN_seqv hu1) (je_ix (ixN_seqv hu1) (je_var (i := 0)) je_str) je_int) je_int) je_int (nomark _)) (jw_and1 (jt_cmp (opN_nin hu1) (je_ix (ixN_seqv hu1) (je_ix (ixN_seqv hu1) (je_var (i := 0)) je_str) (je_var (i := 2))) (je_tup (ja_cons je_int (ja_cons (je_neg je_int) ja_nil))) (by rfl)))))
    (jss_cons (js_set S.nd (je_op opN_mod (je_ix (ixN_seqv hu1) (je_ix (ixN_seqv hu1) (je_var (i := 0)) je_str) (je_var (i := 2))) je_int))
    (jss_cons (js_asg (je_op opN_div (je_ix (ixN_seqv hu1) (je_ix (ixN_seqv hu1) (je_var (i := 0)) je_str) (je_var (i := 2))) je_int) (jg_ix hu1 (je_ix (ixN_seqv hu1) (je_var (i := 0)) je_str) (je_var (i := 2))))
    (jss_one (js_ret (je_var (i := 3))))))
    jss_nil)
    (jss_one (js_ret (je_call cx (Fn__law_mixed T) T.g__law_mixed (hr.mono (by decide)) (ja_cons (je_op opN_add (je_ix (ixN_seqv hu1) (je_ix (ixN_seqv hu1) (je_var (i := 0)) je_str) (je_var (i := 2))) (je_op opN_mul je_int (je_var (i := 1)))) (ja_cons (je_op opN_mod (je_var (i := 1)) je_int) ja_nil))))))))))
theorem fn__law_next {f : Addr} {fd : FuncData} (F : FunD K "_law_next" "_law_next" (defArgs s__law_next) (defBody s__law_next) (defScope s__law_next) [] [] f fd) (T : Txt WW K mg) : Fn P WW K mg base 2 f 1 sp__law_next :=
  ⟨⟨fd, ["_law_state"], rfl, ok__law_next F T, F.bindsN fun _ _ _ _ _ _ us hl => match us, hl with | [_], _ => rfl⟩, F.kp⟩
theorem Fn__law_next (T : Txt WW K mg) : Fn P WW K mg base 2 (He.ga K "_law_next") 1 sp__law_next := by
  obtain ⟨fd, F⟩ := T.d__law_next
  exact fn__law_next F T
theorem sc__law_great : FnScope ["_law_state", "_law_most", "_law_number", "_law_wide", "_law_some"] ["_law_state", "_law_most"] (defScope s__law_great) := ⟨rfl, rfl, rfl, by decide +kernel, rfl, by decide +kernel, by decide +kernel⟩
theorem ok__law_great {f : Addr} {fd : FuncData} (F : FunD K "_law_great" "_law_great" (defArgs s__law_great) (defBody s__law_great) (defScope s__law_great) [] [] f fd) (T : Txt WW K mg) : FnOk P WW K mg base (L2.CX P WW) 3 f fd ["_law_state", "_law_most"] (lSp K 2 sp__law_great) := by
  unfold sp__law_great
  refine fn_body (k := 2) (m := m__law_great) F sc__law_great (fun cdv A outer s H E w hr cx => ?_)
  have S := sc__law_great
  have hu64 := hr.units
  have hu1 := hu_of hr
  unfold m__law_great
  exact (jss_cons (js_set S.nd (je_call cx (Fn__law_next T) T.g__law_next (hr.mono (by decide)) (ja_cons (je_var (i := 0)) ja_nil)))
    (jss_cons (js_set S.nd (je_op opN_add (je_op opN_mul (je_var (i := 2)) je_int) (je_call cx (Fn__law_next T) T.g__law_next (hr.mono (by decide)) (ja_cons (je_var (i := 0)) ja_nil))))
    (jss_cons (js_set S.nd (je_lst (ja_cons (je_op opN_mod (je_var (i := 3)) (je_op opN_add (je_var (i := 1)) je_int)) (ja_cons (je_op opN_mod (je_var (i := 3)) je_int) (ja_cons (je_op opN_mod (je_var (i := 3)) je_int) (ja_cons (je_op opN_sub (je_var (i := 1)) (je_op opN_mod (je_var (i := 3)) je_int)) (ja_cons (je_op opN_add (je_op opN_pow je_int je_int) (je_op opN_mod (je_var (i := 3)) (je_op opN_pow je_int je_int))) (ja_cons (je_op opN_mod (je_var (i := 3)) je_int) ja_nil))))))))
    (jss_one (js_ret (je_callB (callN_min2 cx.calm) T.f_min (ja_cons (je_var (i := 1)) (ja_cons (je_callB (callN_max2 cx.calm) T.f_max (ja_cons je_int (ja_cons (je_ix (ixN_seqv hu1) (je_var (i := 4)) (je_op opN_mod (je_var (i := 2)) je_int)) ja_nil))) ja_nil))))))))
theorem fn__law_great {f : Addr} {fd : FuncData} (F : FunD K "_law_great" "_law_great" (defArgs s__law_great) (defBody s__law_great) (defScope s__law_great) [] [] f fd) (T : Txt WW K mg) : Fn P WW K mg base 3 f 2 sp__law_great :=
  ⟨⟨fd, ["_law_state", "_law_most"], rfl, ok__law_great F T, F.bindsN fun _ _ _ _ _ _ us hl => match us, hl with | [_, _], _ => rfl⟩, F.kp⟩
theorem Fn__law_great (T : Txt WW K mg) : Fn P WW K mg base 3 (He.ga K "_law_great") 2 sp__law_great := by
  obtain ⟨fd, F⟩ := T.d__law_great
  exact fn__law_great F T
theorem sc__law_due_of : FnScope ["_law_state", "_law_some"] ["_law_state"] (defScope s__law_due_of) := ⟨rfl, rfl, rfl, by decide +kernel, rfl, by decide +kernel, by decide +kernel⟩
theorem ok__law_due_of {f : Addr} {fd : FuncData} (F : FunD K "_law_due_of" "_law_due_of" (defArgs s__law_due_of) (defBody s__law_due_of) (defScope s__law_due_of) [] [] f fd) (T : Txt WW K mg) : FnOk P WW K mg base (L2.CX P WW) 3 f fd ["_law_state"] (lSp K 1 sp__law_due_of) := by
  unfold sp__law_due_of
  refine fn_body (k := 2) (m := m__law_due_of) F sc__law_due_of (fun cdv A outer s H E w hr cx => ?_)
  have S := sc__law_due_of
  have hu64 := hr.units
  have hu1 := hu_of hr
  unfold m__law_due_of
  exact (jss_cons (js_set S.nd (je_lst (ja_cons (je_tup (ja_cons je_int (ja_cons je_int ja_nil))) (ja_cons (je_tup (ja_cons je_int (ja_cons je_int ja_nil))) (ja_cons (je_tup (ja_cons je_int (ja_cons je_int ja_nil))) (ja_cons (je_tup (ja_cons je_int (ja_cons je_int ja_nil))) (ja_cons (je_tup (ja_cons je_int (ja_cons je_int ja_nil))) (ja_cons (je_tup (ja_cons je_int (ja_cons je_int ja_nil))) (ja_cons (je_tup (ja_cons je_int (ja_cons je_int ja_nil))) (ja_cons (je_tup (ja_cons je_int (ja_cons je_int ja_nil))) ja_nil))))))))))
    (jss_one (js_ret (je_ix (ixN_seqv hu1) (je_var (i := 1)) (je_op opN_mod (je_call cx (Fn__law_next T) T.g__law_next (hr.mono (by decide)) (ja_cons (je_var (i := 0)) ja_nil)) je_int)))))
theorem fn__law_due_of {f : Addr} {fd : FuncData} (F : FunD K "_law_due_of" "_law_due_of" (defArgs s__law_due_of) (defBody s__law_due_of) (defScope s__law_due_of) [] [] f fd) (T : Txt WW K mg) : Fn P WW K mg base 3 f 1 sp__law_due_of :=
  ⟨⟨fd, ["_law_state"], rfl, ok__law_due_of F T, F.bindsN fun _ _ _ _ _ _ us hl => match us, hl with | [_], _ => rfl⟩, F.kp⟩
theorem Fn__law_due_of (T : Txt WW K mg) : Fn P WW K mg base 3 (He.ga K "_law_due_of") 1 sp__law_due_of := by
  obtain ⟨fd, F⟩ := T.d__law_due_of
  exact fn__law_due_of F T
theorem sc__law_plain : FnScope ["_law_state", "_law_most", "_law_kind", "_law_due", "_law_salt", "_law_cloth", "_law_first", "_law_second"] ["_law_state", "_law_most"] (defScope s__law_plain) := ⟨rfl, rfl, rfl, by decide +kernel, rfl, by decide +kernel, by decide +kernel⟩
theorem ok__law_plain {f : Addr} {fd : FuncData} (F : FunD K "_law_plain" "_law_plain" (defArgs s__law_plain) (defBody s__law_plain) (defScope s__law_plain) [] [] f fd) (T : Txt WW K mg) : FnOk P WW K mg base (L2.CX P WW) 4 f fd ["_law_state", "_law_most"] (lSp K 2 sp__law_plain) := by
  unfold sp__law_plain
  refine fn_body (k := 3) (m := m__law_plain) F sc__law_plain (fun cdv A outer s H E w hr cx => ?_)
  have S := sc__law_plain
  have hu64 := hr.units
  have hu1 := hu_of hr
  unfold m__law_plain
  exact (jss_cons (js_set S.nd (je_op opN_mod (je_call cx (Fn__law_next T) T.g__law_next (hr.mono (by decide)) (ja_cons (je_var (i := 0)) ja_nil)) je_int))
    (jss_cons (js_set S.nd (je_call cx (Fn__law_due_of T) T.g__law_due_of (hr.mono (by decide)) (ja_cons (je_var (i := 0)) ja_nil)))
    (jss_cons (js_set S.nd (je_call cx (Fn__law_great T) T.g__law_great (hr.mono (by decide)) (ja_cons (je_var (i := 0)) (ja_cons (je_var (i := 1)) ja_nil))))
    (jss_cons (js_set S.nd (je_call cx (Fn__law_great T) T.g__law_great (hr.mono (by decide)) (ja_cons (je_var (i := 0)) (ja_cons (je_var (i := 1)) ja_nil))))
    (jss_cons (js_if (jt_cmp (opN_eq hu64) (je_var (i := 2)) je_int (nomark _))
    (jss_one (js_ret (je_tup (ja_cons je_str (ja_cons (je_callB (callN_max2 cx.calm) T.f_max (ja_cons je_int (ja_cons (je_var (i := 4)) ja_nil))) (ja_cons (je_callB (callN_max2 cx.calm) T.f_max (ja_cons je_int (ja_cons (je_var (i := 5)) ja_nil))) (ja_cons (je_var (i := 3)) ja_nil)))))))
    jss_nil)
    (jss_cons (js_if (jt_cmp (opN_eq hu64) (je_var (i := 2)) je_int (nomark _))
    (jss_cons (js_set S.nd (je_callB (callN_max2 cx.calm) T.f_max (ja_cons (je_op opN_sub je_int (je_callB (callN_min2 cx.calm) T.f_min (ja_cons je_int (ja_cons (je_var (i := 4)) ja_nil)))) (ja_cons (je_call cx (Fn__law_great T) T.g__law_great (hr.mono (by decide)) (ja_cons (je_var (i := 0)) (ja_cons (je_op opN_pow je_int je_int) ja_nil))) ja_nil))))
    (jss_cons (js_set S.nd (je_callB (callN_max2 cx.calm) T.f_max (ja_cons (je_op opN_sub je_int (je_callB (callN_min2 cx.calm) T.f_min (ja_cons je_int (ja_cons (je_var (i := 5)) ja_nil)))) (ja_cons (je_call cx (Fn__law_great T) T.g__law_great (hr.mono (by decide)) (ja_cons (je_var (i := 0)) (ja_cons (je_op opN_pow je_int je_int) ja_nil))) ja_nil))))
    (jss_one (js_ret (je_tup (ja_cons je_str (ja_cons (je_var (i := 4)) (ja_cons (je_var (i := 5)) (ja_cons (je_var (i := 3)) (ja_cons (je_tup (ja_cons (je_var (i := 6)) (ja_cons (je_var (i := 7)) ja_nil))) ja_nil))))))))))
    jss_nil)
    (jss_one (js_ret (je_tup (ja_cons je_str (ja_cons (je_var (i := 4)) (ja_cons (je_var (i := 5)) (ja_cons (je_var (i := 3)) (ja_cons (je_tup (ja_cons (je_op opN_add je_int (je_call cx (Fn__law_great T) T.g__law_great (hr.mono (by decide)) (ja_cons (je_var (i := 0)) (ja_cons je_int ja_nil)))) (ja_cons (je_op opN_add je_int (je_call cx (Fn__law_great T) T.g__law_great (hr.mono (by decide)) (ja_cons (je_var (i := 0)) (ja_cons je_int ja_nil)))) ja_nil))) ja_nil))))))))))))))
theorem fn__law_plain {f : Addr} {fd : FuncData} (F : FunD K "_law_plain" "_law_plain" (defArgs s__law_plain) (defBody s__law_plain) (defScope s__law_plain) [] [] f fd) (T : Txt WW K mg) : Fn P WW K mg base 4 f 2 sp__law_plain :=
  ⟨⟨fd, ["_law_state", "_law_most"], rfl, ok__law_plain F T, F.bindsN fun _ _ _ _ _ _ us hl => match us, hl with | [_, _], _ => rfl⟩, F.kp⟩
theorem Fn__law_plain (T : Txt WW K mg) : Fn P WW K mg base 4 (He.ga K "_law_plain") 2 sp__law_plain := by
  obtain ⟨fd, F⟩ := T.d__law_plain
  exact fn__law_plain F T
theorem sc__law_row : FnScope ["_law_name", "_law_plain_here", "_law_words", "_law_pair"] ["_law_name", "_law_plain_here"] (defScope s__law_row) := ⟨rfl, rfl, rfl, by decide +kernel, rfl, by decide +kernel, by decide +kernel⟩
theorem ok__law_row {f : Addr} {fd : FuncData} (F : FunD K "_law_row" "_law_row" (defArgs s__law_row) (defBody s__law_row) (defScope s__law_row) [] [] f fd) (T : Txt WW K mg) : FnOk P WW K mg base (L2.CX P WW) 1 f fd ["_law_name", "_law_plain_here"] (lSp K 2 sp__law_row) := by
  unfold sp__law_row
  refine fn_body (k := 0) (m := m__law_row) F sc__law_row (fun cdv A outer s H E w hr cx => ?_)
  have S := sc__law_row
  have hu64 := hr.units
  have hu1 := hu_of hr
  unfold m__law_row
  exact (jss_cons (js_set S.nd (je_lst (ja_cons je_str (ja_cons (je_var (i := 0)) (ja_cons (je_ix (ixN_seqv hu1) (je_var (i := 1)) je_int) (ja_cons (je_callTy callN_str T.f_str (ja_cons (je_ix (ixN_seqv hu1) (je_var (i := 1)) je_int) ja_nil)) (ja_cons (je_callTy callN_str T.f_str (ja_cons (je_ix (ixN_seqv hu1) (je_var (i := 1)) je_int) ja_nil)) (ja_cons (je_op opN_add (je_op opN_add (je_callTy callN_str T.f_str (ja_cons (je_ix (ixN_seqv hu1) (je_ix (ixN_seqv hu1) (je_var (i := 1)) je_int) je_int) ja_nil)) je_str) (je_callTy callN_str T.f_str (ja_cons (je_ix (ixN_seqv hu1) (je_ix (ixN_seqv hu1) (je_var (i := 1)) je_int) je_int) ja_nil))) ja_nil))))))))
    (jss_cons (js_for cx (je_slice (je_var (i := 1)) (jo_some je_int) jo_none) (jg_name S.nd)
    (jss_one (js_set S.nd (je_op opN_add (je_var (i := 2)) (je_lst (ja_cons (je_callTy callN_str T.f_str (ja_cons (je_ix (ixN_seqv hu1) (je_var (i := 3)) je_int) ja_nil)) (ja_cons (je_callTy callN_str T.f_str (ja_cons (je_ix (ixN_seqv hu1) (je_var (i := 3)) je_int) ja_nil)) ja_nil)))))))
    (jss_one (js_ret (je_join je_str (je_var (i := 2)))))))
theorem fn__law_row {f : Addr} {fd : FuncData} (F : FunD K "_law_row" "_law_row" (defArgs s__law_row) (defBody s__law_row) (defScope s__law_row) [] [] f fd) (T : Txt WW K mg) : Fn P WW K mg base 1 f 2 sp__law_row :=
  ⟨⟨fd, ["_law_name", "_law_plain_here"], rfl, ok__law_row F T, F.bindsN fun _ _ _ _ _ _ us hl => match us, hl with | [_, _], _ => rfl⟩, F.kp⟩
theorem Fn__law_row (T : Txt WW K mg) : Fn P WW K mg base 1 (He.ga K "_law_row") 2 sp__law_row := by
  obtain ⟨fd, F⟩ := T.d__law_row
  exact fn__law_row F T
theorem sc__law_market : FnScope ["_law_state", "_law_most", "_law_many", "_law_makers", "_law_first", "_law_k", "_law_name", "_law_purses", "_law_rows"] ["_law_state", "_law_most", "_law_many"] (defScope s__law_market) := ⟨rfl, rfl, rfl, by decide +kernel, rfl, by decide +kernel, by decide +kernel⟩
theorem ok__law_market {f : Addr} {fd : FuncData} (F : FunD K "_law_market" "_law_market" (defArgs s__law_market) (defBody s__law_market) (defScope s__law_market) [] [] f fd) (T : Txt WW K mg) : FnOk P WW K mg base (L2.CX P WW) 5 f fd ["_law_state", "_law_most", "_law_many"] (lSp K 3 sp__law_market) := by
  unfold sp__law_market
  refine fn_body (k := 4) (m := m__law_market) F sc__law_market (fun cdv A outer s H E w hr cx => ?_)
  have S := sc__law_market
  have hu64 := hr.units
  have hu1 := hu_of hr
  unfold m__law_market
  exact (jss_cons (js_set S.nd je_dic0)
    (jss_cons (js_set S.nd (je_call cx (Fn__law_next T) T.g__law_next (hr.mono (by decide)) (ja_cons (je_var (i := 0)) ja_nil)))
    (jss_cons (js_forR1 cx T.f_range (je_op opN_add je_int (je_op opN_mod (je_call cx (Fn__law_next T) T.g__law_next (hr.mono (by decide)) (ja_cons (je_var (i := 0)) ja_nil)) (je_var (i := 2)))) (jg_name S.nd)
    (jss_cons (js_set S.nd (je_op opN_add (je_ix (ixN_seqv hu1) je_str (je_op opN_mod (je_op opN_add (je_var (i := 4)) (je_op opN_mul je_int (je_var (i := 5)))) je_int)) (je_slice je_str jo_none (jo_some (je_op opN_mod (je_op opN_div (je_var (i := 4)) je_int) je_int)))))
    (jss_one (js_asg (je_call cx (Fn__law_plain T) T.g__law_plain (hr.mono (by decide)) (ja_cons (je_var (i := 0)) (ja_cons (je_var (i := 1)) ja_nil))) (jg_ix hu1 (je_var (i := 3)) (je_var (i := 6)))))))
    (jss_cons (js_set S.nd je_dic0)
    (jss_cons (js_forR1 cx T.f_range (je_op opN_add je_int (je_op opN_mod (je_call cx (Fn__law_next T) T.g__law_next (hr.mono (by decide)) (ja_cons (je_var (i := 0)) ja_nil)) je_int)) (jg_name S.nd)
    (jss_one (js_asg (je_tup (ja_cons (je_call cx (Fn__law_great T) T.g__law_great (hr.mono (by decide)) (ja_cons (je_var (i := 0)) (ja_cons (je_op opN_pow je_int je_int) ja_nil))) (ja_cons (je_call cx (Fn__law_great T) T.g__law_great (hr.mono (by decide)) (ja_cons (je_var (i := 0)) (ja_cons (je_op opN_pow je_int je_int) ja_nil))) ja_nil))) (jg_ix hu1 (je_var (i := 7)) (je_ix (ixN_seqv hu1) je_str (je_op opN_mod (je_op opN_add (je_op opN_div (je_var (i := 4)) je_int) (je_op opN_mul je_int (je_var (i := 5)))) je_int))))))
    (jss_cons (js_lock (js_setLc (own := [("_law_name", 6)]) cx S.nd (ji_keys (je_var (i := 3))) (by rfl) (fun _ _ _ _ _ cx => (jgv_name S.nd (by decide))) (fun _ _ _ _ _ cx => jts_nil) (fun _ _ _ _ _ cx => (je_call cx (Fn__law_row T) T.g__law_row (hr.mono (by decide)) (ja_cons (je_var (i := 6)) (ja_cons (je_ix (ixN_seqv hu1) (je_var (i := 3)) (je_var (i := 6))) ja_nil))))))
    (jss_cons (js_set S.nd (je_op opN_add (je_var (i := 8)) (je_lock (je_lc (own := [("_law_name", 6)]) cx S.nd (ji_keys (je_var (i := 7))) (by rfl) (fun _ _ _ _ _ cx => (jgv_name S.nd (by decide))) (fun _ _ _ _ _ cx => jts_nil) (fun _ _ _ _ _ cx => (je_join je_str (je_lst (ja_cons je_str (ja_cons (je_var (i := 6)) (ja_cons (je_callTy callN_str T.f_str (ja_cons (je_ix (ixN_seqv hu1) (je_ix (ixN_seqv hu1) (je_var (i := 7)) (je_var (i := 6))) je_int) ja_nil)) (ja_cons (je_callTy callN_str T.f_str (ja_cons (je_ix (ixN_seqv hu1) (je_ix (ixN_seqv hu1) (je_var (i := 7)) (je_var (i := 6))) je_int) ja_nil)) ja_nil)))))))))))
    (jss_one (js_ret (je_tup (ja_cons (je_join je_str (je_var (i := 8))) (ja_cons (je_var (i := 3)) (ja_cons (je_var (i := 7)) ja_nil)))))))))))))
theorem fn__law_market {f : Addr} {fd : FuncData} (F : FunD K "_law_market" "_law_market" (defArgs s__law_market) (defBody s__law_market) (defScope s__law_market) [] [] f fd) (T : Txt WW K mg) : Fn P WW K mg base 5 f 3 sp__law_market :=
  ⟨⟨fd, ["_law_state", "_law_most", "_law_many"], rfl, ok__law_market F T, F.bindsN fun _ _ _ _ _ _ us hl => match us, hl with | [_, _, _], _ => rfl⟩, F.kp⟩
theorem Fn__law_market (T : Txt WW K mg) : Fn P WW K mg base 5 (He.ga K "_law_market") 3 sp__law_market := by
  obtain ⟨fd, F⟩ := T.d__law_market
  exact fn__law_market F T
theorem sc_best_with : FnScope ["row", "behind", "left", "best", "lots", "rest", "whole"] ["row", "behind", "left"] (defScope s_best_with) := ⟨rfl, rfl, rfl, by decide +kernel, rfl, by decide +kernel, by decide +kernel⟩
theorem ok_best_with {f : Addr} {fd : FuncData} (F : FunD K "best_with" "best_with" (defArgs s_best_with) (defBody s_best_with) (defScope s_best_with) [] [] f fd) (T : Txt WW K mg) : FnOk P WW K mg base (L2.CX P WW) 1 f fd ["row", "behind", "left"] (lSp K 3 sp_best_with) := by
  unfold sp_best_with
  refine fn_body (k := 0) (m := m_best_with) F sc_best_with (fun cdv A outer s H E w hr cx => ?_)
  have S := sc_best_with
  have hu64 := hr.units
  have hu1 := hu_of hr
  unfold m_best_with
  exact (jss_cons (js_set S.nd je_non)
    (jss_cons (js_forR1 cx T.f_range (je_op opN_add (je_var (i := 2)) je_int) (jg_name S.nd)
    (jss_cons (js_set S.nd (je_ix (ixN_seqv hu1) (je_var (i := 1)) (je_op opN_sub (je_var (i := 2)) (je_var (i := 4)))))
    (jss_one (js_if (jt_w (jw_and (jt_cmp opN_notN (je_ix (ixN_seqv hu1) (je_var (i := 0)) (je_var (i := 4))) je_non (nomark _)) (jw_and1 (jt_cmp opN_notN (je_var (i := 5)) je_non (nomark _)))))
    (jss_cons (js_set S.nd (je_op opN_add (je_ix (ixN_seqv hu1) (je_var (i := 0)) (je_var (i := 4))) (je_ix (ixN_seqv hu1) (je_var (i := 5)) je_int)))
    (jss_one (js_if (jt_w (jw_or (jt_cmp opN_isN (je_var (i := 3)) je_non (nomark _)) (jw_or1 (jt_cmp opN_gt (je_var (i := 6)) (je_ix (ixN_seqv hu1) (je_var (i := 3)) je_int) (nomark _)))))
    (jss_one (js_set S.nd (je_tup (ja_cons (je_var (i := 6)) (ja_cons (je_op opN_add (je_tup (ja_cons (je_var (i := 4)) ja_nil)) (je_ix (ixN_seqv hu1) (je_var (i := 5)) je_int)) ja_nil)))))
    jss_nil)))
    jss_nil))))
    (jss_one (js_ret (je_var (i := 3))))))
theorem fn_best_with {f : Addr} {fd : FuncData} (F : FunD K "best_with" "best_with" (defArgs s_best_with) (defBody s_best_with) (defScope s_best_with) [] [] f fd) (T : Txt WW K mg) : Fn P WW K mg base 1 f 3 sp_best_with :=
  ⟨⟨fd, ["row", "behind", "left"], rfl, ok_best_with F T, F.bindsN fun _ _ _ _ _ _ us hl => match us, hl with | [_, _, _], _ => rfl⟩, F.kp⟩
theorem Fn_best_with (T : Txt WW K mg) : Fn P WW K mg base 1 (He.ga K "best_with") 3 sp_best_with := by
  obtain ⟨fd, F⟩ := T.d_best_with
  exact fn_best_with F T
theorem sc_best_from : FnScope ["rows", "many", "found", "row", "left"] ["rows", "many"] (defScope s_best_from) := ⟨rfl, rfl, rfl, by decide +kernel, rfl, by decide +kernel, by decide +kernel⟩
theorem ok_best_from {f : Addr} {fd : FuncData} (F : FunD K "best_from" "best_from" (defArgs s_best_from) (defBody s_best_from) (defScope s_best_from) [] [] f fd) (T : Txt WW K mg) : FnOk P WW K mg base (L2.CX P WW) 2 f fd ["rows", "many"] (lSp K 2 sp_best_from) := by
  unfold sp_best_from
  refine fn_body (k := 1) (m := m_best_from) F sc_best_from (fun cdv A outer s H E w hr cx => ?_)
  have S := sc_best_from
  have hu64 := hr.units
  have hu1 := hu_of hr
  unfold m_best_from
  exact (jss_cons (js_set S.nd (je_op opN_add (je_lst (ja_cons (je_tup (ja_cons je_int (ja_cons (je_tup ja_nil) ja_nil))) ja_nil)) (je_op opN_mulL (je_lst (ja_cons je_non ja_nil)) (je_var (i := 1)))))
    (jss_cons (js_for cx (je_rev (je_var (i := 0))) (jg_name S.nd)
    (jss_one (js_set S.nd (je_lc (own := [("left", 4)]) cx S.nd (ji_rng1 T.f_range (je_op opN_add (je_var (i := 1)) je_int)) (by rfl) (fun _ _ _ _ _ cx => (jgv_name S.nd (by decide))) (fun _ _ _ _ _ cx => jts_nil) (fun _ _ _ _ _ cx => (je_call cx (Fn_best_with T) T.g_best_with (hr.mono (by decide)) (ja_cons (je_var (i := 3)) (ja_cons (je_var (i := 2)) (ja_cons (je_var (i := 4)) ja_nil)))))))))
    (jss_one (js_ret (je_var (i := 2))))))
theorem fn_best_from {f : Addr} {fd : FuncData} (F : FunD K "best_from" "best_from" (defArgs s_best_from) (defBody s_best_from) (defScope s_best_from) [] [] f fd) (T : Txt WW K mg) : Fn P WW K mg base 2 f 2 sp_best_from :=
  ⟨⟨fd, ["rows", "many"], rfl, ok_best_from F T, F.bindsN fun _ _ _ _ _ _ us hl => match us, hl with | [_, _], _ => rfl⟩, F.kp⟩
theorem Fn_best_from (T : Txt WW K mg) : Fn P WW K mg base 2 (He.ga K "best_from") 2 sp_best_from := by
  obtain ⟨fd, F⟩ := T.d_best_from
  exact fn_best_from F T
theorem sc_is_number : FnScope ["thing"] ["thing"] (defScope s_is_number) := ⟨rfl, rfl, rfl, by decide +kernel, rfl, by decide +kernel, by decide +kernel⟩
theorem ok_is_number {f : Addr} {fd : FuncData} (F : FunD K "is_number" "is_number" (defArgs s_is_number) (defBody s_is_number) (defScope s_is_number) [] [] f fd) (T : Txt WW K mg) : FnOk P WW K mg base (L2.CX P WW) 1 f fd ["thing"] (lSp K 1 sp_is_number) := by
  unfold sp_is_number
  refine fn_body (k := 0) (m := m_is_number) F sc_is_number (fun cdv A outer s H E w hr cx => ?_)
  have S := sc_is_number
  have hu64 := hr.units
  have hu1 := hu_of hr
  unfold m_is_number
  exact (jss_one (js_ret (je_and (je_callB (callN_isi T.kf) T.f_isinstance (ja_cons (je_var (i := 0)) (ja_cons (je_tyB T.f_int) ja_nil))) (je_and (je_not (je_callB (callN_isi T.kf) T.f_isinstance (ja_cons (je_var (i := 0)) (ja_cons (je_tyB T.f_bool) ja_nil)))) (je_one (je_cmp opN_ge (je_var (i := 0)) je_int (nomark _)))))))
theorem fn_is_number {f : Addr} {fd : FuncData} (F : FunD K "is_number" "is_number" (defArgs s_is_number) (defBody s_is_number) (defScope s_is_number) [] [] f fd) (T : Txt WW K mg) : Fn P WW K mg base 1 f 1 sp_is_number :=
  ⟨⟨fd, ["thing"], rfl, ok_is_number F T, F.bindsN fun _ _ _ _ _ _ us hl => match us, hl with | [_], _ => rfl⟩, F.kp⟩
theorem Fn_is_number (T : Txt WW K mg) : Fn P WW K mg base 1 (He.ga K "is_number") 1 sp_is_number := by
  obtain ⟨fd, F⟩ := T.d_is_number
  exact fn_is_number F T
theorem sc_is_whole : FnScope ["thing"] ["thing"] (defScope s_is_whole) := ⟨rfl, rfl, rfl, by decide +kernel, rfl, by decide +kernel, by decide +kernel⟩
theorem ok_is_whole {f : Addr} {fd : FuncData} (F : FunD K "is_whole" "is_whole" (defArgs s_is_whole) (defBody s_is_whole) (defScope s_is_whole) [] [] f fd) (T : Txt WW K mg) : FnOk P WW K mg base (L2.CX P WW) 1 f fd ["thing"] (lSp K 1 sp_is_whole) := by
  unfold sp_is_whole
  refine fn_body (k := 0) (m := m_is_whole) F sc_is_whole (fun cdv A outer s H E w hr cx => ?_)
  have S := sc_is_whole
  have hu64 := hr.units
  have hu1 := hu_of hr
  unfold m_is_whole
  exact (jss_one (js_ret (je_and (je_callB (callN_isi T.kf) T.f_isinstance (ja_cons (je_var (i := 0)) (ja_cons (je_tyB T.f_int) ja_nil))) (je_one (je_not (je_callB (callN_isi T.kf) T.f_isinstance (ja_cons (je_var (i := 0)) (ja_cons (je_tyB T.f_bool) ja_nil))))))))
theorem fn_is_whole {f : Addr} {fd : FuncData} (F : FunD K "is_whole" "is_whole" (defArgs s_is_whole) (defBody s_is_whole) (defScope s_is_whole) [] [] f fd) (T : Txt WW K mg) : Fn P WW K mg base 1 f 1 sp_is_whole :=
  ⟨⟨fd, ["thing"], rfl, ok_is_whole F T, F.bindsN fun _ _ _ _ _ _ us hl => match us, hl with | [_], _ => rfl⟩, F.kp⟩
theorem Fn_is_whole (T : Txt WW K mg) : Fn P WW K mg base 1 (He.ga K "is_whole") 1 sp_is_whole := by
  obtain ⟨fd, F⟩ := T.d_is_whole
  exact fn_is_whole F T
theorem sc_need_count : FnScope ["count"] ["count"] (defScope s_need_count) := ⟨rfl, rfl, rfl, by decide +kernel, rfl, by decide +kernel, by decide +kernel⟩
theorem ok_need_count {f : Addr} {fd : FuncData} (F : FunD K "need_count" "need_count" (defArgs s_need_count) (defBody s_need_count) (defScope s_need_count) [] [] f fd) (T : Txt WW K mg) : FnOk P WW K mg base (L2.CX P WW) 2 f fd ["count"] (lSp K 1 sp_need_count) := by
  unfold sp_need_count
  refine fn_body (k := 1) (m := m_need_count) F sc_need_count (fun cdv A outer s H E w hr cx => ?_)
  have S := sc_need_count
  have hu64 := hr.units
  have hu1 := hu_of hr
  unfold m_need_count
  exact (jss_one (js_if (jt_w (jw_or (jt_not (jt_val (je_call cx (Fn_is_whole T) T.g_is_whole (hr.mono (by decide)) (ja_cons (je_var (i := 0)) ja_nil)))) (jw_or1 (jt_cmp opN_lt (je_var (i := 0)) je_int (nomark _)))))
    (jss_one (js_raise cx T.x_BadCount T.g_BadCount))
    jss_nil))
theorem fn_need_count {f : Addr} {fd : FuncData} (F : FunD K "need_count" "need_count" (defArgs s_need_count) (defBody s_need_count) (defScope s_need_count) [] [] f fd) (T : Txt WW K mg) : Fn P WW K mg base 2 f 1 sp_need_count :=
  ⟨⟨fd, ["count"], rfl, ok_need_count F T, F.bindsN fun _ _ _ _ _ _ us hl => match us, hl with | [_], _ => rfl⟩, F.kp⟩
theorem Fn_need_count (T : Txt WW K mg) : Fn P WW K mg base 2 (He.ga K "need_count") 1 sp_need_count := by
  obtain ⟨fd, F⟩ := T.d_need_count
  exact fn_need_count F T
theorem sc_need_ware : FnScope ["ware"] ["ware"] (defScope s_need_ware) := ⟨rfl, rfl, rfl, by decide +kernel, rfl, by decide +kernel, by decide +kernel⟩
theorem ok_need_ware {f : Addr} {fd : FuncData} (F : FunD K "need_ware" "need_ware" (defArgs s_need_ware) (defBody s_need_ware) (defScope s_need_ware) [] [] f fd) (T : Txt WW K mg) : FnOk P WW K mg base (L2.CX P WW) 1 f fd ["ware"] (lSp K 1 sp_need_ware) := by
  unfold sp_need_ware
  refine fn_body (k := 0) (m := m_need_ware) F sc_need_ware (fun cdv A outer s H E w hr cx => ?_)
  have S := sc_need_ware
  have hu64 := hr.units
  have hu1 := hu_of hr
  unfold m_need_ware
  exact (jss_cons (js_if (jt_w (jw_or (jt_not (jt_val (je_callB (callN_isi T.kf) T.f_isinstance (ja_cons (je_var (i := 0)) (ja_cons (je_tyB T.f_str) ja_nil))))) (jw_or1 (jt_cmp (opN_nin hu1) (je_var (i := 0)) (je_gtup T.t_WARES T.g_WARES) (by rfl)))))
    (jss_one (js_raise cx T.x_BadWare T.g_BadWare))
    jss_nil)
    (jss_one (js_ret (je_tupIndex T.t_WARES T.g_WARES (je_var (i := 0))))))
theorem fn_need_ware {f : Addr} {fd : FuncData} (F : FunD K "need_ware" "need_ware" (defArgs s_need_ware) (defBody s_need_ware) (defScope s_need_ware) [] [] f fd) (T : Txt WW K mg) : Fn P WW K mg base 1 f 1 sp_need_ware :=
  ⟨⟨fd, ["ware"], rfl, ok_need_ware F T, F.bindsN fun _ _ _ _ _ _ us hl => match us, hl with | [_], _ => rfl⟩, F.kp⟩
theorem Fn_need_ware (T : Txt WW K mg) : Fn P WW K mg base 1 (He.ga K "need_ware") 1 sp_need_ware := by
  obtain ⟨fd, F⟩ := T.d_need_ware
  exact fn_need_ware F T
theorem sc_Market_names : FnScope ["self"] ["self"] (defScope s_Market_names) := ⟨rfl, rfl, rfl, by decide +kernel, rfl, by decide +kernel, by decide +kernel⟩
theorem ok_Market_names {f : Addr} {fd : FuncData} (F : FunD K "names" "Market.names" (defArgs s_Market_names) (defBody s_Market_names) (defScope s_Market_names) [] [] f fd) (T : Txt WW K mg) : FnOk P WW K mg base (L2.CX P WW) 1 f fd ["self"] (lSp K 1 sp_Market_names) := by
  unfold sp_Market_names
  refine fn_body (k := 0) (m := m_Market_names) F sc_Market_names (fun cdv A outer s H E w hr cx => ?_)
  have S := sc_Market_names
  have hu64 := hr.units
  have hu1 := hu_of hr
  unfold m_Market_names
  exact (jss_one (js_ret (je_callTy (callN_listD cx.calm) T.f_list (ja_cons (je_fld (je_var (i := 0))) ja_nil))))
theorem fn_Market_names {f : Addr} {fd : FuncData} (F : FunD K "names" "Market.names" (defArgs s_Market_names) (defBody s_Market_names) (defScope s_Market_names) [] [] f fd) (T : Txt WW K mg) : Fn P WW K mg base 1 f 1 sp_Market_names :=
  ⟨⟨fd, ["self"], rfl, ok_Market_names F T, F.bindsN fun _ _ _ _ _ _ us hl => match us, hl with | [_], _ => rfl⟩, F.kp⟩
theorem sc_Maker_is_dealt : FnScope ["self", "side", "count"] ["self", "side", "count"] (defScope s_Maker_is_dealt) := ⟨rfl, rfl, rfl, by decide +kernel, rfl, by decide +kernel, by decide +kernel⟩
theorem ok_Maker_is_dealt {f : Addr} {fd : FuncData} (F : FunD K "is_dealt" "Maker.is_dealt" (defArgs s_Maker_is_dealt) (defBody s_Maker_is_dealt) (defScope s_Maker_is_dealt) [] [] f fd) (T : Txt WW K mg) : FnOk P WW K mg base (L2.CX P WW) 1 f fd ["self", "side", "count"] (lSp K 3 sp_Maker_is_dealt) := by
  unfold sp_Maker_is_dealt
  refine fn_body (k := 0) (m := m_Maker_is_dealt) F sc_Maker_is_dealt (fun cdv A outer s H E w hr cx => ?_)
  have S := sc_Maker_is_dealt
  have hu64 := hr.units
  have hu1 := hu_of hr
  unfold m_Maker_is_dealt
  exact (jss_one (js_ret (je_cmp opN_le (je_op opN_add (je_ix (ixN_seqv hu1) (je_fld (je_var (i := 0))) (je_var (i := 1))) (je_var (i := 2))) (je_gint T.c_MOST) (nomark _))))
theorem fn_Maker_is_dealt {f : Addr} {fd : FuncData} (F : FunD K "is_dealt" "Maker.is_dealt" (defArgs s_Maker_is_dealt) (defBody s_Maker_is_dealt) (defScope s_Maker_is_dealt) [] [] f fd) (T : Txt WW K mg) : Fn P WW K mg base 1 f 3 sp_Maker_is_dealt :=
  ⟨⟨fd, ["self", "side", "count"], rfl, ok_Maker_is_dealt F T, F.bindsN fun _ _ _ _ _ _ us hl => match us, hl with | [_, _, _], _ => rfl⟩, F.kp⟩
theorem sc_Maker_haves : FnScope ["self"] ["self"] (defScope s_Maker_haves) := ⟨rfl, rfl, rfl, by decide +kernel, rfl, by decide +kernel, by decide +kernel⟩
theorem ok_Maker_haves {f : Addr} {fd : FuncData} (F : FunD K "haves" "Maker.haves" (defArgs s_Maker_haves) (defBody s_Maker_haves) (defScope s_Maker_haves) [] [] f fd) (T : Txt WW K mg) : FnOk P WW K mg base (L2.CX P WW) 1 f fd ["self"] (lSp K 1 sp_Maker_haves) := by
  unfold sp_Maker_haves
  refine fn_body (k := 0) (m := m_Maker_haves) F sc_Maker_haves (fun cdv A outer s H E w hr cx => ?_)
  have S := sc_Maker_haves
  have hu64 := hr.units
  have hu1 := hu_of hr
  unfold m_Maker_haves
  exact (jss_one (js_ret (je_tup (ja_cons (je_ix (ixN_seqv hu1) (je_fld (je_var (i := 0))) je_int) (ja_cons (je_ix (ixN_seqv hu1) (je_fld (je_var (i := 0))) je_int) ja_nil)))))
theorem fn_Maker_haves {f : Addr} {fd : FuncData} (F : FunD K "haves" "Maker.haves" (defArgs s_Maker_haves) (defBody s_Maker_haves) (defScope s_Maker_haves) [] [] f fd) (T : Txt WW K mg) : Fn P WW K mg base 1 f 1 sp_Maker_haves :=
  ⟨⟨fd, ["self"], rfl, ok_Maker_haves F T, F.bindsN fun _ _ _ _ _ _ us hl => match us, hl with | [_], _ => rfl⟩, F.kp⟩
theorem sc_product_coming : FnScope ["maker", "grains", "side", "count", "counted"] ["maker", "grains", "side", "count"] (defScope s_product_coming) := ⟨rfl, rfl, rfl, by decide +kernel, rfl, by decide +kernel, by decide +kernel⟩
theorem ok_product_coming {f : Addr} {fd : FuncData} (F : FunD K "product_coming" "product_coming" (defArgs s_product_coming) (defBody s_product_coming) (defScope s_product_coming) [] [] f fd) (T : Txt WW K mg) : FnOk P WW K mg base (L2.CX P WW) 1 f fd ["maker", "grains", "side", "count"] (lSp K 4 sp_product_coming) := by
  unfold sp_product_coming
  refine fn_body (k := 0) (m := m_product_coming) F sc_product_coming (fun cdv A outer s H E w hr cx => ?_)
  have S := sc_product_coming
  have hu64 := hr.units
  have hu1 := hu_of hr
  unfold m_product_coming
  exact (jss_cons (js_set S.nd (je_op opN_mul (je_var (i := 3)) (je_fld (je_var (i := 0)))))
    (jss_one (js_ret (je_op opN_div (je_op opN_mul (je_ix (ixN_seqv hu1) (je_var (i := 1)) (je_op opN_sub je_int (je_var (i := 2)))) (je_var (i := 4))) (je_op opN_add (je_op opN_mul (je_ix (ixN_seqv hu1) (je_var (i := 1)) (je_var (i := 2))) (je_fld (je_var (i := 0)))) (je_var (i := 4)))))))
theorem fn_product_coming {f : Addr} {fd : FuncData} (F : FunD K "product_coming" "product_coming" (defArgs s_product_coming) (defBody s_product_coming) (defScope s_product_coming) [] [] f fd) (T : Txt WW K mg) : Fn P WW K mg base 1 f 4 sp_product_coming :=
  ⟨⟨fd, ["maker", "grains", "side", "count"], rfl, ok_product_coming F T, F.bindsN fun _ _ _ _ _ _ us hl => match us, hl with | [_, _, _, _], _ => rfl⟩, F.kp⟩
theorem Fn_product_coming (T : Txt WW K mg) : Fn P WW K mg base 1 (He.ga K "product_coming") 4 sp_product_coming := by
  obtain ⟨fd, F⟩ := T.d_product_coming
  exact fn_product_coming F T
theorem mk_Maker_haves (T : Txt WW K mg) : MtK P WW K mg base "haves" mt_Maker_haves 1 := by
  refine ⟨fun c n sp h => ?_⟩
  unfold mt_Maker_haves at h
  split at h
  · rename_i e; subst e; cases h
    obtain ⟨fd, F⟩ := T.d_Product_haves
    exact ⟨_, T.m_Product_haves, (fn_Maker_haves F T).mono (by decide)⟩
  split at h
  · rename_i e; subst e; cases h
    obtain ⟨fd, F⟩ := T.d_Stretch_haves
    exact ⟨_, T.m_Stretch_haves, (fn_Maker_haves F T).mono (by decide)⟩
  split at h
  · rename_i e; subst e; cases h
    obtain ⟨fd, F⟩ := T.d_Sum_haves
    exact ⟨_, T.m_Sum_haves, (fn_Maker_haves F T).mono (by decide)⟩
  cases h
theorem sc_Product_coming : FnScope ["self", "side", "count"] ["self", "side", "count"] (defScope s_Product_coming) := ⟨rfl, rfl, rfl, by decide +kernel, rfl, by decide +kernel, by decide +kernel⟩
theorem ok_Product_coming {f : Addr} {fd : FuncData} (F : FunD K "coming" "Product.coming" (defArgs s_Product_coming) (defBody s_Product_coming) (defScope s_Product_coming) [] [] f fd) (T : Txt WW K mg) : FnOk P WW K mg base (L2.CX P WW) 2 f fd ["self", "side", "count"] (lSp K 3 sp_Product_coming) := by
  unfold sp_Product_coming
  refine fn_body (k := 1) (m := m_Product_coming) F sc_Product_coming (fun cdv A outer s H E w hr cx => ?_)
  have S := sc_Product_coming
  have hu64 := hr.units
  have hu1 := hu_of hr
  unfold m_Product_coming
  exact (jss_one (js_ret (je_call cx (Fn_product_coming T) T.g_product_coming (hr.mono (by decide)) (ja_cons (je_var (i := 0)) (ja_cons (je_methK0 cx (mk_Maker_haves T) (hr.mono (by decide)) (je_var (i := 0)) ) (ja_cons (je_var (i := 1)) (ja_cons (je_var (i := 2)) ja_nil)))))))
theorem fn_Product_coming {f : Addr} {fd : FuncData} (F : FunD K "coming" "Product.coming" (defArgs s_Product_coming) (defBody s_Product_coming) (defScope s_Product_coming) [] [] f fd) (T : Txt WW K mg) : Fn P WW K mg base 2 f 3 sp_Product_coming :=
  ⟨⟨fd, ["self", "side", "count"], rfl, ok_Product_coming F T, F.bindsN fun _ _ _ _ _ _ us hl => match us, hl with | [_, _, _], _ => rfl⟩, F.kp⟩
theorem sc_Stretch_propped : FnScope ["self", "props"] ["self"] (defScope s_Stretch_propped) := ⟨rfl, rfl, rfl, by decide +kernel, rfl, by decide +kernel, by decide +kernel⟩
theorem ok_Stretch_propped {f : Addr} {fd : FuncData} (F : FunD K "propped" "Stretch.propped" (defArgs s_Stretch_propped) (defBody s_Stretch_propped) (defScope s_Stretch_propped) [] [] f fd) (T : Txt WW K mg) : FnOk P WW K mg base (L2.CX P WW) 1 f fd ["self"] (lSp K 1 sp_Stretch_propped) := by
  unfold sp_Stretch_propped
  refine fn_body (k := 0) (m := m_Stretch_propped) F sc_Stretch_propped (fun cdv A outer s H E w hr cx => ?_)
  have S := sc_Stretch_propped
  have hu64 := hr.units
  have hu1 := hu_of hr
  unfold m_Stretch_propped
  exact (jss_cons (js_set S.nd (je_ix (ixN_seqv hu1) (je_fld (je_var (i := 0))) je_int))
    (jss_one (js_ret (je_tup (ja_cons (je_op opN_add (je_ix (ixN_seqv hu1) (je_fld (je_var (i := 0))) je_int) (je_ix (ixN_seqv hu1) (je_var (i := 1)) je_int)) (ja_cons (je_op opN_add (je_ix (ixN_seqv hu1) (je_fld (je_var (i := 0))) je_int) (je_ix (ixN_seqv hu1) (je_var (i := 1)) je_int)) ja_nil))))))
theorem fn_Stretch_propped {f : Addr} {fd : FuncData} (F : FunD K "propped" "Stretch.propped" (defArgs s_Stretch_propped) (defBody s_Stretch_propped) (defScope s_Stretch_propped) [] [] f fd) (T : Txt WW K mg) : Fn P WW K mg base 1 f 1 sp_Stretch_propped :=
  ⟨⟨fd, ["self"], rfl, ok_Stretch_propped F T, F.bindsN fun _ _ _ _ _ _ us hl => match us, hl with | [_], _ => rfl⟩, F.kp⟩
theorem mk_Maker_propped (T : Txt WW K mg) : MtK P WW K mg base "propped" mt_Maker_propped 1 := by
  refine ⟨fun c n sp h => ?_⟩
  unfold mt_Maker_propped at h
  split at h
  · rename_i e; subst e; cases h
    obtain ⟨fd, F⟩ := T.d_Stretch_propped
    exact ⟨_, T.m_Stretch_propped, (fn_Stretch_propped F T).mono (by decide)⟩
  cases h
theorem sc_Stretch_coming : FnScope ["self", "side", "count"] ["self", "side", "count"] (defScope s_Stretch_coming) := ⟨rfl, rfl, rfl, by decide +kernel, rfl, by decide +kernel, by decide +kernel⟩
theorem ok_Stretch_coming {f : Addr} {fd : FuncData} (F : FunD K "coming" "Stretch.coming" (defArgs s_Stretch_coming) (defBody s_Stretch_coming) (defScope s_Stretch_coming) [] [] f fd) (T : Txt WW K mg) : FnOk P WW K mg base (L2.CX P WW) 2 f fd ["self", "side", "count"] (lSp K 3 sp_Stretch_coming) := by
  unfold sp_Stretch_coming
  refine fn_body (k := 1) (m := m_Stretch_coming) F sc_Stretch_coming (fun cdv A outer s H E w hr cx => ?_)
  have S := sc_Stretch_coming
  have hu64 := hr.units
  have hu1 := hu_of hr
  unfold m_Stretch_coming
  exact (jss_one (js_ret (je_call cx (Fn_product_coming T) T.g_product_coming (hr.mono (by decide)) (ja_cons (je_var (i := 0)) (ja_cons (je_methK0 cx (mk_Maker_propped T) (hr.mono (by decide)) (je_var (i := 0)) ) (ja_cons (je_var (i := 1)) (ja_cons (je_var (i := 2)) ja_nil)))))))
theorem fn_Stretch_coming {f : Addr} {fd : FuncData} (F : FunD K "coming" "Stretch.coming" (defArgs s_Stretch_coming) (defBody s_Stretch_coming) (defScope s_Stretch_coming) [] [] f fd) (T : Txt WW K mg) : Fn P WW K mg base 2 f 3 sp_Stretch_coming :=
  ⟨⟨fd, ["self", "side", "count"], rfl, ok_Stretch_coming F T, F.bindsN fun _ _ _ _ _ _ us hl => match us, hl with | [_, _, _], _ => rfl⟩, F.kp⟩
theorem sc_Sum_coming : FnScope ["self", "side", "count", "rate"] ["self", "side", "count"] (defScope s_Sum_coming) := ⟨rfl, rfl, rfl, by decide +kernel, rfl, by decide +kernel, by decide +kernel⟩
theorem ok_Sum_coming {f : Addr} {fd : FuncData} (F : FunD K "coming" "Sum.coming" (defArgs s_Sum_coming) (defBody s_Sum_coming) (defScope s_Sum_coming) [] [] f fd) (T : Txt WW K mg) : FnOk P WW K mg base (L2.CX P WW) 1 f fd ["self", "side", "count"] (lSp K 3 sp_Sum_coming) := by
  unfold sp_Sum_coming
  refine fn_body (k := 0) (m := m_Sum_coming) F sc_Sum_coming (fun cdv A outer s H E w hr cx => ?_)
  have S := sc_Sum_coming
  have hu64 := hr.units
  have hu1 := hu_of hr
  unfold m_Sum_coming
  exact (jss_cons (js_set S.nd (je_ix (ixN_seqv hu1) (je_fld (je_var (i := 0))) je_int))
    (jss_one (js_ret (je_op opN_div (je_op opN_mul (je_op opN_mul (je_var (i := 2)) (je_fld (je_var (i := 0)))) (je_ix (ixN_seqv hu1) (je_var (i := 3)) (je_op opN_sub je_int (je_var (i := 1))))) (je_op opN_mul (je_fld (je_var (i := 0))) (je_ix (ixN_seqv hu1) (je_var (i := 3)) (je_var (i := 1))))))))
theorem fn_Sum_coming {f : Addr} {fd : FuncData} (F : FunD K "coming" "Sum.coming" (defArgs s_Sum_coming) (defBody s_Sum_coming) (defScope s_Sum_coming) [] [] f fd) (T : Txt WW K mg) : Fn P WW K mg base 1 f 3 sp_Sum_coming :=
  ⟨⟨fd, ["self", "side", "count"], rfl, ok_Sum_coming F T, F.bindsN fun _ _ _ _ _ _ us hl => match us, hl with | [_, _, _], _ => rfl⟩, F.kp⟩
theorem mk_Maker_coming (T : Txt WW K mg) : MtK P WW K mg base "coming" mt_Maker_coming 2 := by
  refine ⟨fun c n sp h => ?_⟩
  unfold mt_Maker_coming at h
  split at h
  · rename_i e; subst e; cases h
    obtain ⟨fd, F⟩ := T.d_Product_coming
    exact ⟨_, T.m_Product_coming, (fn_Product_coming F T).mono (by decide)⟩
  split at h
  · rename_i e; subst e; cases h
    obtain ⟨fd, F⟩ := T.d_Stretch_coming
    exact ⟨_, T.m_Stretch_coming, (fn_Stretch_coming F T).mono (by decide)⟩
  split at h
  · rename_i e; subst e; cases h
    obtain ⟨fd, F⟩ := T.d_Sum_coming
    exact ⟨_, T.m_Sum_coming, (fn_Sum_coming F T).mono (by decide)⟩
  cases h
theorem mk_Maker_is_dealt (T : Txt WW K mg) : MtK P WW K mg base "is_dealt" mt_Maker_is_dealt 1 := by
  refine ⟨fun c n sp h => ?_⟩
  unfold mt_Maker_is_dealt at h
  split at h
  · rename_i e; subst e; cases h
    obtain ⟨fd, F⟩ := T.d_Product_is_dealt
    exact ⟨_, T.m_Product_is_dealt, (fn_Maker_is_dealt F T).mono (by decide)⟩
  split at h
  · rename_i e; subst e; cases h
    obtain ⟨fd, F⟩ := T.d_Stretch_is_dealt
    exact ⟨_, T.m_Stretch_is_dealt, (fn_Maker_is_dealt F T).mono (by decide)⟩
  split at h
  · rename_i e; subst e; cases h
    obtain ⟨fd, F⟩ := T.d_Sum_is_dealt
    exact ⟨_, T.m_Sum_is_dealt, (fn_Maker_is_dealt F T).mono (by decide)⟩
  cases h
theorem sc_Maker_told : FnScope ["self", "ware", "count", "side"] ["self", "ware", "count"] (defScope s_Maker_told) := ⟨rfl, rfl, rfl, by decide +kernel, rfl, by decide +kernel, by decide +kernel⟩
theorem ok_Maker_told {f : Addr} {fd : FuncData} (F : FunD K "told" "Maker.told" (defArgs s_Maker_told) (defBody s_Maker_told) (defScope s_Maker_told) [] [] f fd) (T : Txt WW K mg) : FnOk P WW K mg base (L2.CX P WW) 3 f fd ["self", "ware", "count"] (lSp K 3 sp_Maker_told) := by
  unfold sp_Maker_told
  refine fn_body (k := 2) (m := m_Maker_told) F sc_Maker_told (fun cdv A outer s H E w hr cx => ?_)
  have S := sc_Maker_told
  have hu64 := hr.units
  have hu1 := hu_of hr
  unfold m_Maker_told
  exact (jss_cons (js_set S.nd (je_call cx (Fn_need_ware T) T.g_need_ware (hr.mono (by decide)) (ja_cons (je_var (i := 1)) ja_nil)))
    (jss_cons (js_expr (je_call cx (Fn_need_count T) T.g_need_count (hr.mono (by decide)) (ja_cons (je_var (i := 2)) ja_nil)))
    (jss_cons (js_if (jt_not (jt_val (je_methK cx (mk_Maker_is_dealt T) (hr.mono (by decide)) (je_var (i := 0)) (ja_cons (je_var (i := 3)) (ja_cons (je_var (i := 2)) ja_nil)))))
    (jss_one (js_raise cx T.x_TooMuch T.g_TooMuch))
    jss_nil)
    (jss_one (js_ret (je_callB (callN_min2 cx.calm) T.f_min (ja_cons (je_methK cx (mk_Maker_coming T) (hr.mono (by decide)) (je_var (i := 0)) (ja_cons (je_var (i := 3)) (ja_cons (je_var (i := 2)) ja_nil))) (ja_cons (je_ix (ixN_seqv hu1) (je_fld (je_var (i := 0))) (je_op opN_sub je_int (je_var (i := 3)))) ja_nil))))))))
theorem fn_Maker_told {f : Addr} {fd : FuncData} (F : FunD K "told" "Maker.told" (defArgs s_Maker_told) (defBody s_Maker_told) (defScope s_Maker_told) [] [] f fd) (T : Txt WW K mg) : Fn P WW K mg base 3 f 3 sp_Maker_told :=
  ⟨⟨fd, ["self", "ware", "count"], rfl, ok_Maker_told F T, F.bindsN fun _ _ _ _ _ _ us hl => match us, hl with | [_, _, _], _ => rfl⟩, F.kp⟩
theorem mk_Maker_told (T : Txt WW K mg) : MtK P WW K mg base "told" mt_Maker_told 3 := by
  refine ⟨fun c n sp h => ?_⟩
  unfold mt_Maker_told at h
  split at h
  · rename_i e; subst e; cases h
    obtain ⟨fd, F⟩ := T.d_Product_told
    exact ⟨_, T.m_Product_told, (fn_Maker_told F T).mono (by decide)⟩
  split at h
  · rename_i e; subst e; cases h
    obtain ⟨fd, F⟩ := T.d_Stretch_told
    exact ⟨_, T.m_Stretch_told, (fn_Maker_told F T).mono (by decide)⟩
  split at h
  · rename_i e; subst e; cases h
    obtain ⟨fd, F⟩ := T.d_Sum_told
    exact ⟨_, T.m_Sum_told, (fn_Maker_told F T).mono (by decide)⟩
  cases h
theorem sc_come_of : FnScope ["maker", "ware", "count", "found"] ["maker", "ware", "count"] (defScope s_come_of) := ⟨rfl, rfl, rfl, by decide +kernel, rfl, by decide +kernel, by decide +kernel⟩
theorem ok_come_of {f : Addr} {fd : FuncData} (F : FunD K "come_of" "come_of" (defArgs s_come_of) (defBody s_come_of) (defScope s_come_of) [] [] f fd) (T : Txt WW K mg) : FnOk P WW K mg base (L2.CX P WW) 4 f fd ["maker", "ware", "count"] (lSp K 3 sp_come_of) := by
  unfold sp_come_of
  refine fn_body (k := 3) (m := m_come_of) F sc_come_of (fun cdv A outer s H E w hr cx => ?_)
  have S := sc_come_of
  have hu64 := hr.units
  have hu1 := hu_of hr
  unfold m_come_of
  exact (jss_cons (js_if (jt_cmp (opN_eq hu64) (je_var (i := 2)) je_int (nomark _))
    (jss_one (js_ret je_int))
    jss_nil)
    (jss_cons (js_set S.nd je_non)
    (jss_cons (js_try_only cx T.kx T.g_TooMuch rfl rfl (fun H w pn xe hx cx => (jss_one (js_set S.nd (je_methK cx (mk_Maker_told T) (hr.mono (by decide)) (je_var (i := 0)) (ja_cons (je_var (i := 1)) (ja_cons (je_var (i := 2)) ja_nil))))))
    (fun H a pn => (jss_one (js_set S.nd je_non))))
    (jss_one (js_ret (je_var (i := 3)))))))
theorem fn_come_of {f : Addr} {fd : FuncData} (F : FunD K "come_of" "come_of" (defArgs s_come_of) (defBody s_come_of) (defScope s_come_of) [] [] f fd) (T : Txt WW K mg) : Fn P WW K mg base 4 f 3 sp_come_of :=
  ⟨⟨fd, ["maker", "ware", "count"], rfl, ok_come_of F T, F.bindsN fun _ _ _ _ _ _ us hl => match us, hl with | [_, _, _], _ => rfl⟩, F.kp⟩
theorem Fn_come_of (T : Txt WW K mg) : Fn P WW K mg base 4 (He.ga K "come_of") 3 sp_come_of := by
  obtain ⟨fd, F⟩ := T.d_come_of
  exact fn_come_of F T
theorem mk_Market_maker (T : Txt WW K mg) : MtK P WW K mg base "maker" mt_Market_maker 1 := by
  refine ⟨fun c n sp h => ?_⟩
  unfold mt_Market_maker at h
  split at h
  · rename_i e; subst e; cases h
    obtain ⟨fd, F⟩ := T.d_Market_maker
    exact ⟨_, T.m_Market_maker, (fn_Market_maker F T).mono (by decide)⟩
  cases h
theorem mk_Market_names (T : Txt WW K mg) : MtK P WW K mg base "names" mt_Market_names 1 := by
  refine ⟨fun c n sp h => ?_⟩
  unfold mt_Market_names at h
  split at h
  · rename_i e; subst e; cases h
    obtain ⟨fd, F⟩ := T.d_Market_names
    exact ⟨_, T.m_Market_names, (fn_Market_names F T).mono (by decide)⟩
  cases h
theorem sc_rows_of : FnScope ["market", "ware", "size", "many", "found", "name", "maker", "lots"] ["market", "ware", "size", "many"] (defScope s_rows_of) := ⟨rfl, rfl, rfl, by decide +kernel, rfl, by decide +kernel, by decide +kernel⟩
theorem ok_rows_of {f : Addr} {fd : FuncData} (F : FunD K "rows_of" "rows_of" (defArgs s_rows_of) (defBody s_rows_of) (defScope s_rows_of) [] [] f fd) (T : Txt WW K mg) : FnOk P WW K mg base (L2.CX P WW) 5 f fd ["market", "ware", "size", "many"] (lSp K 4 sp_rows_of) := by
  unfold sp_rows_of
  refine fn_body (k := 4) (m := m_rows_of) F sc_rows_of (fun cdv A outer s H E w hr cx => ?_)
  have S := sc_rows_of
  have hu64 := hr.units
  have hu1 := hu_of hr
  unfold m_rows_of
  exact (jss_cons (js_set S.nd (je_lst ja_nil))
    (jss_cons (js_for cx (je_methK0 cx (mk_Market_names T) (hr.mono (by decide)) (je_var (i := 0)) ) (jg_name S.nd)
    (jss_cons (js_set S.nd (je_methK cx (mk_Market_maker T) (hr.mono (by decide)) (je_var (i := 0)) (ja_cons (je_var (i := 5)) ja_nil)))
    (jss_one (js_expr (je_append (je_var (i := 4)) (ja_cons (je_lc (own := [("lots", 7)]) cx S.nd (ji_rng1 T.f_range (je_op opN_add (je_var (i := 3)) je_int)) (by rfl) (fun _ _ _ _ _ cx => (jgv_name S.nd (by decide))) (fun _ _ _ _ _ cx => jts_nil) (fun _ _ _ _ _ cx => (je_call cx (Fn_come_of T) T.g_come_of (hr.mono (by decide)) (ja_cons (je_var (i := 6)) (ja_cons (je_var (i := 1)) (ja_cons (je_op opN_mul (je_var (i := 2)) (je_var (i := 7))) ja_nil)))))) ja_nil))))))
    (jss_one (js_ret (je_var (i := 4))))))
theorem fn_rows_of {f : Addr} {fd : FuncData} (F : FunD K "rows_of" "rows_of" (defArgs s_rows_of) (defBody s_rows_of) (defScope s_rows_of) [] [] f fd) (T : Txt WW K mg) : Fn P WW K mg base 5 f 4 sp_rows_of :=
  ⟨⟨fd, ["market", "ware", "size", "many"], rfl, ok_rows_of F T, F.bindsN fun _ _ _ _ _ _ us hl => match us, hl with | [_, _, _, _], _ => rfl⟩, F.kp⟩
theorem Fn_rows_of (T : Txt WW K mg) : Fn P WW K mg base 5 (He.ga K "rows_of") 4 sp_rows_of := by
  obtain ⟨fd, F⟩ := T.d_rows_of
  exact fn_rows_of F T
theorem sc_best : FnScope ["market", "ware", "size", "many", "found"] ["market", "ware", "size", "many"] (defScope s_best) := ⟨rfl, rfl, rfl, by decide +kernel, rfl, by decide +kernel, by decide +kernel⟩
theorem ok_best {f : Addr} {fd : FuncData} (F : FunD K "best" "best" (defArgs s_best) (defBody s_best) (defScope s_best) [] [] f fd) (T : Txt WW K mg) : FnOk P WW K mg base (L2.CX P WW) 6 f fd ["market", "ware", "size", "many"] (lSp K 4 sp_best) := by
  unfold sp_best
  refine fn_body (k := 5) (m := m_best) F sc_best (fun cdv A outer s H E w hr cx => ?_)
  have S := sc_best
  have hu64 := hr.units
  have hu1 := hu_of hr
  unfold m_best
  exact (jss_cons (js_expr (je_call cx (Fn_need_ware T) T.g_need_ware (hr.mono (by decide)) (ja_cons (je_var (i := 1)) ja_nil)))
    (jss_cons (js_expr (je_call cx (Fn_need_count T) T.g_need_count (hr.mono (by decide)) (ja_cons (je_var (i := 2)) ja_nil)))
    (jss_cons (js_if (jt_w (jw_or (jt_not (jt_val (je_call cx (Fn_is_number T) T.g_is_number (hr.mono (by decide)) (ja_cons (je_var (i := 3)) ja_nil)))) (jw_or1 (jt_not (jt_chain opN_le opN_le je_int (je_var (i := 3)) (je_gint T.c_MOST_LOTS))))))
    (jss_one (js_raise cx T.x_BadCount T.g_BadCount))
    jss_nil)
    (jss_cons (js_set S.nd (je_ix (ixN_seqv hu1) (je_call cx (Fn_best_from T) T.g_best_from (hr.mono (by decide)) (ja_cons (je_call cx (Fn_rows_of T) T.g_rows_of (hr.mono (by decide)) (ja_cons (je_var (i := 0)) (ja_cons (je_var (i := 1)) (ja_cons (je_var (i := 2)) (ja_cons (je_var (i := 3)) ja_nil))))) (ja_cons (je_var (i := 3)) ja_nil))) (je_var (i := 3))))
    (jss_cons (js_if (jt_cmp opN_isN (je_var (i := 4)) je_non (nomark _))
    (jss_one (js_raise cx T.x_NoParting T.g_NoParting))
    jss_nil)
    (jss_one (js_ret (je_ix (ixN_seqv hu1) (je_var (i := 4)) je_int))))))))
theorem fn_best {f : Addr} {fd : FuncData} (F : FunD K "best" "best" (defArgs s_best) (defBody s_best) (defScope s_best) [] [] f fd) (T : Txt WW K mg) : Fn P WW K mg base 6 f 4 sp_best :=
  ⟨⟨fd, ["market", "ware", "size", "many"], rfl, ok_best F T, F.bindsN fun _ _ _ _ _ _ us hl => match us, hl with | [_, _, _, _], _ => rfl⟩, F.kp⟩
theorem Fn_best (T : Txt WW K mg) : Fn P WW K mg base 6 (He.ga K "best") 4 sp_best := by
  obtain ⟨fd, F⟩ := T.d_best
  exact fn_best F T
theorem sc__law_best : FnScope ["_law_market_here", "_law_ware", "_law_size", "_law_many", "_law_found", "_law_caught", "e"] ["_law_market_here", "_law_ware", "_law_size", "_law_many"] (defScope s__law_best) := ⟨rfl, rfl, rfl, by decide +kernel, rfl, by decide +kernel, by decide +kernel⟩
theorem ok__law_best {f : Addr} {fd : FuncData} (F : FunD K "_law_best" "_law_best" (defArgs s__law_best) (defBody s__law_best) (defScope s__law_best) [] [] f fd) (T : Txt WW K mg) : FnOk P WW K mg base (L2.CX P WW) 7 f fd ["_law_market_here", "_law_ware", "_law_size", "_law_many"] (lSp K 4 sp__law_best) := by
  unfold sp__law_best
  refine fn_body (k := 6) (m := m__law_best) F sc__law_best (fun cdv A outer s H E w hr cx => ?_)
  have S := sc__law_best
  have hu64 := hr.units
  have hu1 := hu_of hr
  unfold m__law_best
  exact (jss_cons (js_set S.nd je_non)
    (jss_cons (js_set S.nd je_non)
    (jss_cons (js_try_keep (i := 6) (j := 5) cx T.kx T.g_MartError S.nd rfl rfl rfl (fun _ => rfl) (by decide) (fun H w pn xe hx cx => (jss_one (js_set S.nd (je_call cx (Fn_best T) T.g_best (hr.mono (by decide)) (ja_cons (je_var (i := 0)) (ja_cons (je_var (i := 1)) (ja_cons (je_var (i := 2)) (ja_cons (je_var (i := 3)) ja_nil)))))))) rfl rfl rfl (Or.inl rfl) (fun _ _ => rfl))
    (jss_one (js_ret (je_tup (ja_cons (je_var (i := 4)) (ja_cons (je_var (i := 5)) ja_nil))))))))
theorem fn__law_best {f : Addr} {fd : FuncData} (F : FunD K "_law_best" "_law_best" (defArgs s__law_best) (defBody s__law_best) (defScope s__law_best) [] [] f fd) (T : Txt WW K mg) : Fn P WW K mg base 7 f 4 sp__law_best :=
  ⟨⟨fd, ["_law_market_here", "_law_ware", "_law_size", "_law_many"], rfl, ok__law_best F T, F.bindsN fun _ _ _ _ _ _ us hl => match us, hl with | [_, _, _, _], _ => rfl⟩, F.kp⟩
theorem Fn__law_best (T : Txt WW K mg) : Fn P WW K mg base 7 (He.ga K "_law_best") 4 sp__law_best := by
  obtain ⟨fd, F⟩ := T.d__law_best
  exact fn__law_best F T
theorem sc__law_comes : FnScope ["_law_plain_here", "_law_side", "_law_count", "_law_have", "_law_fellow", "_law_top", "_law_bottom", "_law_counted", "_law_found", "_law_props", "_law_mine"] ["_law_plain_here", "_law_side", "_law_count"] (defScope s__law_comes) := ⟨rfl, rfl, rfl, by decide +kernel, rfl, by decide +kernel, by decide +kernel⟩
theorem ok__law_comes {f : Addr} {fd : FuncData} (F : FunD K "_law_comes" "_law_comes" (defArgs s__law_comes) (defBody s__law_comes) (defScope s__law_comes) [] [] f fd) (T : Txt WW K mg) : FnOk P WW K mg base (L2.CX P WW) 1 f fd ["_law_plain_here", "_law_side", "_law_count"] (lSp K 3 sp__law_comes) := by
  unfold sp__law_comes
  refine fn_body (k := 0) (m := m__law_comes) F sc__law_comes (fun cdv A outer s H E w hr cx => ?_)
  have S := sc__law_comes
  have hu64 := hr.units
  have hu1 := hu_of hr
  unfold m__law_comes
  exact (jss_cons (js_set S.nd (je_ix (ixN_seqv hu1) (je_var (i := 0)) (je_op opN_add je_int (je_var (i := 1)))))
    (jss_cons (js_set S.nd (je_ix (ixN_seqv hu1) (je_var (i := 0)) (je_op opN_sub je_int (je_var (i := 1)))))
    (jss_cons (js_asg (je_ix (ixN_seqv hu1) (je_var (i := 0)) je_int) (jg_tup cx (jgs_cons (jg_name S.nd) (jgs_cons (jg_name S.nd) jgs_nil))))
    (jss_cons (js_set S.nd (je_op opN_mul (je_var (i := 2)) (je_op opN_sub (je_var (i := 6)) (je_var (i := 5)))))
    (jss_cons (js_if (jt_cmp (opN_eq hu64) (je_ix (ixN_seqv hu1) (je_var (i := 0)) je_int) je_str (nomark _))
    (jss_one (js_set S.nd (je_op opN_div (je_op opN_mul (je_var (i := 7)) (je_ix (ixN_seqv hu1) (je_ix (ixN_seqv hu1) (je_var (i := 0)) je_int) (je_op opN_sub je_int (je_var (i := 1))))) (je_op opN_mul (je_var (i := 6)) (je_ix (ixN_seqv hu1) (je_ix (ixN_seqv hu1) (je_var (i := 0)) je_int) (je_var (i := 1)))))))
    (jss_cons (js_set S.nd (je_if (jt_cmp (opN_eq hu64) (je_ix (ixN_seqv hu1) (je_var (i := 0)) je_int) je_str (nomark _)) (je_ix (ixN_seqv hu1) (je_var (i := 0)) je_int) (je_tup (ja_cons je_int (ja_cons je_int ja_nil)))))
    (jss_cons (js_set S.nd (je_op opN_mul (je_op opN_add (je_var (i := 3)) (je_ix (ixN_seqv hu1) (je_var (i := 9)) (je_var (i := 1)))) (je_var (i := 6))))
    (jss_one (js_set S.nd (je_op opN_div (je_op opN_mul (je_op opN_add (je_var (i := 4)) (je_ix (ixN_seqv hu1) (je_var (i := 9)) (je_op opN_sub je_int (je_var (i := 1))))) (je_var (i := 7))) (je_op opN_add (je_var (i := 10)) (je_var (i := 7)))))))))
    (jss_cons (js_if (jt_cmp opN_gt (je_op opN_add (je_var (i := 3)) (je_var (i := 2))) (je_op opN_pow je_int je_int) (nomark _))
    (jss_one (js_ret je_non))
    jss_nil)
    (jss_one (js_ret (je_callB (callN_min2 cx.calm) T.f_min (ja_cons (je_var (i := 8)) (ja_cons (je_var (i := 4)) ja_nil)))))))))))
theorem fn__law_comes {f : Addr} {fd : FuncData} (F : FunD K "_law_comes" "_law_comes" (defArgs s__law_comes) (defBody s__law_comes) (defScope s__law_comes) [] [] f fd) (T : Txt WW K mg) : Fn P WW K mg base 1 f 3 sp__law_comes :=
  ⟨⟨fd, ["_law_plain_here", "_law_side", "_law_count"], rfl, ok__law_comes F T, F.bindsN fun _ _ _ _ _ _ us hl => match us, hl with | [_, _, _], _ => rfl⟩, F.kp⟩
theorem Fn__law_comes (T : Txt WW K mg) : Fn P WW K mg base 1 (He.ga K "_law_comes") 3 sp__law_comes := by
  obtain ⟨fd, F⟩ := T.d__law_comes
  exact fn__law_comes F T
theorem sc__law_come : FnScope ["_law_plains", "_law_side", "_law_size", "_law_parting", "_law_found", "_law_plain_here", "_law_lots", "_law_more"] ["_law_plains", "_law_side", "_law_size", "_law_parting"] (defScope s__law_come) := ⟨rfl, rfl, rfl, by decide +kernel, rfl, by decide +kernel, by decide +kernel⟩
theorem ok__law_come {f : Addr} {fd : FuncData} (F : FunD K "_law_come" "_law_come" (defArgs s__law_come) (defBody s__law_come) (defScope s__law_come) [] [] f fd) (T : Txt WW K mg) : FnOk P WW K mg base (L2.CX P WW) 2 f fd ["_law_plains", "_law_side", "_law_size", "_law_parting"] (lSp K 4 sp__law_come) := by
  unfold sp__law_come
  refine fn_body (k := 1) (m := m__law_come) F sc__law_come (fun cdv A outer s H E w hr cx => ?_)
  have S := sc__law_come
  have hu64 := hr.units
  have hu1 := hu_of hr
  unfold m__law_come
  exact (jss_cons (js_set S.nd je_int)
    (jss_cons (js_forI cx (ji_zipW T.f_zip (je_var (i := 0)) (je_var (i := 3))) (jg_tup cx (jgs_cons (jg_name S.nd) (jgs_cons (jg_name S.nd) jgs_nil)))
    (jss_one (js_if (jt_cmp opN_gt (je_var (i := 6)) je_int (nomark _))
    (jss_cons (js_set S.nd (je_call cx (Fn__law_comes T) T.g__law_comes (hr.mono (by decide)) (ja_cons (je_var (i := 5)) (ja_cons (je_var (i := 1)) (ja_cons (je_op opN_mul (je_var (i := 2)) (je_var (i := 6))) ja_nil)))))
    (jss_cons (js_if (jt_cmp opN_isN (je_var (i := 7)) je_non (nomark _))
    (jss_one (js_ret je_non))
    jss_nil)
    (jss_one (js_set S.nd (je_op opN_add (je_var (i := 4)) (je_var (i := 7)))))))
    jss_nil)))
    (jss_one (js_ret (je_var (i := 4))))))
theorem fn__law_come {f : Addr} {fd : FuncData} (F : FunD K "_law_come" "_law_come" (defArgs s__law_come) (defBody s__law_come) (defScope s__law_come) [] [] f fd) (T : Txt WW K mg) : Fn P WW K mg base 2 f 4 sp__law_come :=
  ⟨⟨fd, ["_law_plains", "_law_side", "_law_size", "_law_parting"], rfl, ok__law_come F T, F.bindsN fun _ _ _ _ _ _ us hl => match us, hl with | [_, _, _, _], _ => rfl⟩, F.kp⟩
theorem Fn__law_come (T : Txt WW K mg) : Fn P WW K mg base 2 (He.ga K "_law_come") 4 sp__law_come := by
  obtain ⟨fd, F⟩ := T.d__law_come
  exact fn__law_come F T
theorem sc__law_others : FnScope ["_law_state", "_law_parting", "_law_many", "_law_found", "_law_k", "_law_alone", "_law_j", "_law_moved", "_law_drawn", "_law_lot_of", "_law_place"] ["_law_state", "_law_parting", "_law_many"] (defScope s__law_others) := ⟨rfl, rfl, rfl, by decide +kernel, rfl, by decide +kernel, by decide +kernel⟩
theorem ok__law_others {f : Addr} {fd : FuncData} (F : FunD K "_law_others" "_law_others" (defArgs s__law_others) (defBody s__law_others) (defScope s__law_others) [] [] f fd) (T : Txt WW K mg) : FnOk P WW K mg base (L2.CX P WW) 3 f fd ["_law_state", "_law_parting", "_law_many"] (lSp K 3 sp__law_others) := by
  unfold sp__law_others
  refine fn_body (k := 2) (m := m__law_others) F sc__law_others (fun cdv A outer s H E w hr cx => ?_)
  have S := sc__law_others
  have hu64 := hr.units
  have hu1 := hu_of hr
  unfold m__law_others
  exact (jss_cons (js_set S.nd (je_lst ja_nil))
    (jss_cons (js_forR1 cx T.f_range (je_callB callN_len T.f_len (ja_cons (je_var (i := 1)) ja_nil)) (jg_name S.nd)
    (jss_cons (js_set S.nd (je_op opN_mulL (je_lst (ja_cons je_int ja_nil)) (je_callB callN_len T.f_len (ja_cons (je_var (i := 1)) ja_nil))))
    (jss_cons (js_asg (je_var (i := 2)) (jg_ix hu1 (je_var (i := 5)) (je_var (i := 4))))
    (jss_cons (js_expr (je_append (je_var (i := 3)) (ja_cons (je_callTy callN_tuple T.f_tuple (ja_cons (je_var (i := 5)) ja_nil)) ja_nil)))
    (jss_one (js_forR1 cx T.f_range (je_callB callN_len T.f_len (ja_cons (je_var (i := 1)) ja_nil)) (jg_name S.nd)
    (jss_one (js_if (jt_w (jw_and (jt_cmp opN_gt (je_ix (ixN_seqv hu1) (je_var (i := 1)) (je_var (i := 4))) je_int (nomark _)) (jw_and1 (jt_cmp (opN_ne hu64) (je_var (i := 6)) (je_var (i := 4)) (nomark _)))))
    (jss_cons (js_set S.nd (je_callTy (callN_listD cx.calm) T.f_list (ja_cons (je_var (i := 1)) ja_nil)))
    (jss_cons (js_asg (je_op opN_sub (je_ix (ixN_seqv hu1) (je_var (i := 7)) (je_var (i := 4))) je_int) (jg_ix hu1 (je_var (i := 7)) (je_var (i := 4))))
    (jss_cons (js_asg (je_op opN_add (je_ix (ixN_seqv hu1) (je_var (i := 7)) (je_var (i := 6))) je_int) (jg_ix hu1 (je_var (i := 7)) (je_var (i := 6))))
    (jss_one (js_expr (je_append (je_var (i := 3)) (ja_cons (je_callTy callN_tuple T.f_tuple (ja_cons (je_var (i := 7)) ja_nil)) ja_nil)))))))
    jss_nil))))))))
    (jss_cons (js_forR1 cx T.f_range je_int (jg_name S.nd)
    (jss_cons (js_set S.nd (je_op opN_mulL (je_lst (ja_cons je_int ja_nil)) (je_callB callN_len T.f_len (ja_cons (je_var (i := 1)) ja_nil))))
    (jss_cons (js_forR1 cx T.f_range (je_var (i := 2)) (jg_name S.nd)
    (jss_cons (js_set S.nd (je_op opN_mod (je_call cx (Fn__law_next T) T.g__law_next (hr.mono (by decide)) (ja_cons (je_var (i := 0)) ja_nil)) (je_callB callN_len T.f_len (ja_cons (je_var (i := 1)) ja_nil))))
    (jss_one (js_asg (je_op opN_add (je_ix (ixN_seqv hu1) (je_var (i := 8)) (je_var (i := 10))) je_int) (jg_ix hu1 (je_var (i := 8)) (je_var (i := 10)))))))
    (jss_one (js_expr (je_append (je_var (i := 3)) (ja_cons (je_callTy callN_tuple T.f_tuple (ja_cons (je_var (i := 8)) ja_nil)) ja_nil)))))))
    (jss_one (js_ret (je_var (i := 3)))))))
theorem fn__law_others {f : Addr} {fd : FuncData} (F : FunD K "_law_others" "_law_others" (defArgs s__law_others) (defBody s__law_others) (defScope s__law_others) [] [] f fd) (T : Txt WW K mg) : Fn P WW K mg base 3 f 3 sp__law_others :=
  ⟨⟨fd, ["_law_state", "_law_parting", "_law_many"], rfl, ok__law_others F T, F.bindsN fun _ _ _ _ _ _ us hl => match us, hl with | [_, _, _], _ => rfl⟩, F.kp⟩
theorem Fn__law_others (T : Txt WW K mg) : Fn P WW K mg base 3 (He.ga K "_law_others") 3 sp__law_others := by
  obtain ⟨fd, F⟩ := T.d__law_others
  exact fn__law_others F T
theorem sc_gets : FnScope ["market", "ware", "size", "parting", "names", "lots", "found", "name"] ["market", "ware", "size", "parting"] (defScope s_gets) := ⟨rfl, rfl, rfl, by decide +kernel, rfl, by decide +kernel, by decide +kernel⟩
theorem ok_gets {f : Addr} {fd : FuncData} (F : FunD K "gets" "gets" (defArgs s_gets) (defBody s_gets) (defScope s_gets) [] [] f fd) (T : Txt WW K mg) : FnOk P WW K mg base (L2.CX P WW) 5 f fd ["market", "ware", "size", "parting"] (lSp K 4 sp_gets) := by
  unfold sp_gets
  refine fn_body (k := 4) (m := m_gets) F sc_gets (fun cdv A outer s H E w hr cx => ?_)
  have S := sc_gets
  have hu64 := hr.units
  have hu1 := hu_of hr
  unfold m_gets
  exact (jss_cons (js_expr (je_call cx (Fn_need_ware T) T.g_need_ware (hr.mono (by decide)) (ja_cons (je_var (i := 1)) ja_nil)))
    (jss_cons (js_expr (je_call cx (Fn_need_count T) T.g_need_count (hr.mono (by decide)) (ja_cons (je_var (i := 2)) ja_nil)))
    (jss_cons (js_set S.nd (je_methK0 cx (mk_Market_names T) (hr.mono (by decide)) (je_var (i := 0)) ))
    (jss_cons (js_if (jt_w (jw_or (jt_not (jt_val (je_callB (callN_isi T.kf) T.f_isinstance (ja_cons (je_var (i := 3)) (ja_cons (je_tyB T.f_tuple) ja_nil))))) (jw_or (jt_cmp (opN_ne hu64) (je_callB callN_len T.f_len (ja_cons (je_var (i := 3)) ja_nil)) (je_callB callN_len T.f_len (ja_cons (je_var (i := 4)) ja_nil)) (nomark _)) (jw_or1 (jt_not (jt_val (je_callB (callN_all cx.calm) T.f_all (ja_cons (je_lc (own := [("lots", 5)]) cx S.nd (ji_seq (je_var (i := 3))) (by rfl) (fun _ _ _ _ _ cx => (jgv_name S.nd (by decide))) (fun _ _ _ _ _ cx => jts_nil) (fun _ _ _ _ _ cx => (je_call cx (Fn_is_number T) T.g_is_number (hr.mono (by decide)) (ja_cons (je_var (i := 5)) ja_nil)))) ja_nil))))))))
    (jss_one (js_raise cx T.x_NoParting T.g_NoParting))
    jss_nil)
    (jss_cons (js_setLc (own := [("name", 7), ("lots", 5)]) cx S.nd (ji_zipW T.f_zip (je_var (i := 4)) (je_var (i := 3))) (by rfl) (fun _ _ _ _ _ cx => (jgv_tup cx (jgvs_cons (jgv_name S.nd (by decide)) (jgvs_cons (jgv_name S.nd (by decide)) jgvs_nil)))) (fun _ _ _ _ _ cx => jts_nil) (fun _ _ _ _ _ cx => (je_call cx (Fn_come_of T) T.g_come_of (hr.mono (by decide)) (ja_cons (je_methK cx (mk_Market_maker T) (hr.mono (by decide)) (je_var (i := 0)) (ja_cons (je_var (i := 7)) ja_nil)) (ja_cons (je_var (i := 1)) (ja_cons (je_op opN_mul (je_var (i := 2)) (je_var (i := 5))) ja_nil))))))
    (jss_cons (js_if (jt_cmp (opN_in hu1) je_non (je_var (i := 6)) (by rfl))
    (jss_one (js_raise cx T.x_NoParting T.g_NoParting))
    jss_nil)
    (jss_one (js_ret (je_callB (callN_sum cx.calm) T.f_sum (ja_cons (je_var (i := 6)) ja_nil))))))))))
theorem fn_gets {f : Addr} {fd : FuncData} (F : FunD K "gets" "gets" (defArgs s_gets) (defBody s_gets) (defScope s_gets) [] [] f fd) (T : Txt WW K mg) : Fn P WW K mg base 5 f 4 sp_gets :=
  ⟨⟨fd, ["market", "ware", "size", "parting"], rfl, ok_gets F T, F.bindsN fun _ _ _ _ _ _ us hl => match us, hl with | [_, _, _, _], _ => rfl⟩, F.kp⟩
theorem Fn_gets (T : Txt WW K mg) : Fn P WW K mg base 5 (He.ga K "gets") 4 sp_gets := by
  obtain ⟨fd, F⟩ := T.d_gets
  exact fn_gets F T
theorem sc__law_one_good : FnScope ["_law_state", "_law_market_here", "_law_plains", "_law_side", "_law_size", "_law_many", "_law_found", "_law_caught", "_law_begun", "_law_tried", "_law_other", "_law_one", "_law_most", "_law_more", "_law_further", "_law_refused"] ["_law_state", "_law_market_here", "_law_plains", "_law_side", "_law_size", "_law_many"] (defScope s__law_one_good) := ⟨rfl, rfl, rfl, by decide +kernel, rfl, by decide +kernel, by decide +kernel⟩
theorem ok__law_one_good {f : Addr} {fd : FuncData} (F : FunD K "_law_one_good" "_law_one_good" (defArgs s__law_one_good) (defBody s__law_one_good) (defScope s__law_one_good) [] [] f fd) (T : Txt WW K mg) : FnOk P WW K mg base (L2.CX P WW) 8 f fd ["_law_state", "_law_market_here", "_law_plains", "_law_side", "_law_size", "_law_many"] (lSp K 6 sp__law_one_good) := by
  unfold sp__law_one_good
  refine fn_body (k := 7) (m := m__law_one_good) F sc__law_one_good (fun cdv A outer s H E w hr cx => ?_)
  have S := sc__law_one_good
  have hu64 := hr.units
  have hu1 := hu_of hr
  unfold m__law_one_good
  exact (jss_cons (js_asg (je_call cx (Fn__law_best T) T.g__law_best (hr.mono (by decide)) (ja_cons (je_var (i := 1)) (ja_cons (je_ix (ixN_seqv hu1) (je_gtup T.t_WARES T.g_WARES) (je_var (i := 3))) (ja_cons (je_var (i := 4)) (ja_cons (je_var (i := 5)) ja_nil))))) (jg_tup cx (jgs_cons (jg_name S.nd) (jgs_cons (jg_name S.nd) jgs_nil))))
    (jss_cons (js_if (jt_cmp opN_notN (je_var (i := 7)) je_non (nomark _))
    (jss_cons (js_set S.nd (je_callTy callN_tuple T.f_tuple (ja_cons (je_op opN_add (je_lst (ja_cons (je_var (i := 5)) ja_nil)) (je_op opN_mulL (je_lst (ja_cons je_int ja_nil)) (je_op opN_sub (je_callB callN_len T.f_len (ja_cons (je_var (i := 2)) ja_nil)) je_int))) ja_nil)))
    (jss_cons (js_setLc (own := [("_law_other", 10)]) cx S.nd (ji_seq (je_call cx (Fn__law_others T) T.g__law_others (hr.mono (by decide)) (ja_cons (je_var (i := 0)) (ja_cons (je_var (i := 8)) (ja_cons (je_var (i := 5)) ja_nil))))) (by rfl) (fun _ _ _ _ _ cx => (jgv_name S.nd (by decide))) (fun _ _ _ _ _ cx => jts_nil) (fun _ _ _ _ _ cx => (je_call cx (Fn__law_come T) T.g__law_come (hr.mono (by decide)) (ja_cons (je_var (i := 2)) (ja_cons (je_var (i := 3)) (ja_cons (je_var (i := 4)) (ja_cons (je_var (i := 10)) ja_nil)))))))
    (jss_one (js_ret (je_and (je_callB (callN_isi T.kf) T.f_isinstance (ja_cons (je_var (i := 7)) (ja_cons (je_cls T.g_NoParting) ja_nil))) (je_one (je_cmp (opN_eq hu64) (je_lc (own := [("_law_one", 11)]) cx S.nd (ji_seq (je_var (i := 9))) (by rfl) (fun _ _ _ _ _ cx => (jgv_name S.nd (by decide))) (fun _ _ _ _ _ cx => (jts_one (jt_cmp opN_notN (je_var (i := 11)) je_non (nomark _)))) (fun _ _ _ _ _ cx => (je_var (i := 11)))) (je_lst ja_nil) (nomark _))))))))
    jss_nil)
    (jss_cons (js_if (jt_w (jw_or (jt_not (jt_val (je_callB (callN_isi T.kf) T.f_isinstance (ja_cons (je_var (i := 6)) (ja_cons (je_tyB T.f_tuple) ja_nil))))) (jw_or (jt_cmp (opN_ne hu64) (je_callB callN_len T.f_len (ja_cons (je_var (i := 6)) ja_nil)) (je_callB callN_len T.f_len (ja_cons (je_var (i := 2)) ja_nil)) (nomark _)) (jw_or (jt_cmp (opN_ne hu64) (je_callB (callN_sum1 cx.calm) T.f_sum (ja_cons (je_var (i := 6)) ja_nil)) (je_var (i := 5)) (nomark _)) (jw_or1 (jt_cmp opN_lt (je_callB (callN_minT cx.calm hu64) T.f_min (ja_cons (je_var (i := 6)) ja_nil)) je_int (nomark _)))))))
    (jss_one (js_ret je_bl))
    jss_nil)
    (jss_cons (js_set S.nd (je_call cx (Fn__law_come T) T.g__law_come (hr.mono (by decide)) (ja_cons (je_var (i := 2)) (ja_cons (je_var (i := 3)) (ja_cons (je_var (i := 4)) (ja_cons (je_var (i := 6)) ja_nil))))))
    (jss_cons (js_if (jt_w (jw_or (jt_cmp opN_isN (je_var (i := 12)) je_non (nomark _)) (jw_or1 (jt_cmp (opN_ne hu64) (je_call cx (Fn_gets T) T.g_gets (hr.mono (by decide)) (ja_cons (je_var (i := 1)) (ja_cons (je_ix (ixN_seqv hu1) (je_gtup T.t_WARES T.g_WARES) (je_var (i := 3))) (ja_cons (je_var (i := 4)) (ja_cons (je_var (i := 6)) ja_nil))))) (je_var (i := 12)) (nomark _)))))
    (jss_one (js_ret je_bl))
    jss_nil)
    (jss_cons (js_for cx (je_call cx (Fn__law_others T) T.g__law_others (hr.mono (by decide)) (ja_cons (je_var (i := 0)) (ja_cons (je_var (i := 6)) (ja_cons (je_var (i := 5)) ja_nil)))) (jg_name S.nd)
    (jss_cons (js_set S.nd (je_call cx (Fn__law_come T) T.g__law_come (hr.mono (by decide)) (ja_cons (je_var (i := 2)) (ja_cons (je_var (i := 3)) (ja_cons (je_var (i := 4)) (ja_cons (je_var (i := 10)) ja_nil))))))
    (jss_one (js_if (jt_w (jw_and (jt_cmp opN_notN (je_var (i := 13)) je_non (nomark _)) (jw_and1 (jt_cmp opN_gt (je_var (i := 13)) (je_var (i := 12)) (nomark _)))))
    (jss_one (js_ret je_bl))
    jss_nil))))
    (jss_cons (js_asg (je_call cx (Fn__law_best T) T.g__law_best (hr.mono (by decide)) (ja_cons (je_var (i := 1)) (ja_cons (je_ix (ixN_seqv hu1) (je_gtup T.t_WARES T.g_WARES) (je_var (i := 3))) (ja_cons (je_var (i := 4)) (ja_cons (je_callB (callN_min2 cx.calm) T.f_min (ja_cons je_int (ja_cons (je_op opN_add (je_var (i := 5)) je_int) ja_nil))) ja_nil))))) (jg_tup cx (jgs_cons (jg_name S.nd) (jgs_cons (jg_name S.nd) jgs_nil))))
    (jss_one (js_ret (je_or (je_cmp opN_notN (je_var (i := 15)) je_non (nomark _)) (je_one (je_cmp opN_ge (je_call cx (Fn__law_come T) T.g__law_come (hr.mono (by decide)) (ja_cons (je_var (i := 2)) (ja_cons (je_var (i := 3)) (ja_cons (je_var (i := 4)) (ja_cons (je_var (i := 14)) ja_nil))))) (je_var (i := 12)) (nomark _)))))))))))))
theorem fn__law_one_good {f : Addr} {fd : FuncData} (F : FunD K "_law_one_good" "_law_one_good" (defArgs s__law_one_good) (defBody s__law_one_good) (defScope s__law_one_good) [] [] f fd) (T : Txt WW K mg) : Fn P WW K mg base 8 f 6 sp__law_one_good :=
  ⟨⟨fd, ["_law_state", "_law_market_here", "_law_plains", "_law_side", "_law_size", "_law_many"], rfl, ok__law_one_good F T, F.bindsN fun _ _ _ _ _ _ us hl => match us, hl with | [_, _, _, _, _, _], _ => rfl⟩, F.kp⟩
theorem Fn__law_one_good (T : Txt WW K mg) : Fn P WW K mg base 8 (He.ga K "_law_one_good") 6 sp__law_one_good := by
  obtain ⟨fd, F⟩ := T.d__law_one_good
  exact fn__law_one_good F T
theorem sc_Market___init__ : FnScope ["self"] ["self"] (defScope s_Market___init__) := ⟨rfl, rfl, rfl, by decide +kernel, rfl, by decide +kernel, by decide +kernel⟩
theorem ok_Market___init__ {f : Addr} {fd : FuncData} (F : FunD K "__init__" "Market.__init__" (defArgs s_Market___init__) (defBody s_Market___init__) (defScope s_Market___init__) [] [] f fd) (T : Txt WW K mg) : FnOk P WW K mg base (L2.CX P WW) 1 f fd ["self"] (lSp K 1 sp_Market___init__) := by
  unfold sp_Market___init__
  refine fn_body (k := 0) (m := m_Market___init__) F sc_Market___init__ (fun cdv A outer s H E w hr cx => ?_)
  have S := sc_Market___init__
  have hu64 := hr.units
  have hu1 := hu_of hr
  unfold m_Market___init__
  exact (jss_cons (js_fld (je_var (i := 0)) je_dic0)
    (jss_one (js_fld (je_var (i := 0)) je_dic0)))
theorem fn_Market___init__ {f : Addr} {fd : FuncData} (F : FunD K "__init__" "Market.__init__" (defArgs s_Market___init__) (defBody s_Market___init__) (defScope s_Market___init__) [] [] f fd) (T : Txt WW K mg) : Fn P WW K mg base 1 f 1 sp_Market___init__ :=
  ⟨⟨fd, ["self"], rfl, ok_Market___init__ F T, F.bindsN fun _ _ _ _ _ _ us hl => match us, hl with | [_], _ => rfl⟩, F.kp⟩
theorem sc_is_name : FnScope ["word", "sign"] ["word"] (defScope s_is_name) := ⟨rfl, rfl, rfl, by decide +kernel, rfl, by decide +kernel, by decide +kernel⟩
theorem ok_is_name {f : Addr} {fd : FuncData} (F : FunD K "is_name" "is_name" (defArgs s_is_name) (defBody s_is_name) (defScope s_is_name) [] [] f fd) (T : Txt WW K mg) : FnOk P WW K mg base (L2.CX P WW) 1 f fd ["word"] (lSp K 1 sp_is_name) := by
  unfold sp_is_name
  refine fn_body (k := 0) (m := m_is_name) F sc_is_name (fun cdv A outer s H E w hr cx => ?_)
  have S := sc_is_name
  have hu64 := hr.units
  have hu1 := hu_of hr
  unfold m_is_name
  exact (jss_one (js_ret (je_and (je_chain opN_le opN_le je_int (je_callB callN_len T.f_len (ja_cons (je_var (i := 0)) ja_nil)) (je_gint T.c_MOST_SIGNS)) (je_one (je_callB (callN_all cx.calm) T.f_all (ja_cons (je_lc (own := [("sign", 1)]) cx S.nd (ji_seq (je_var (i := 0))) (by rfl) (fun _ _ _ _ _ cx => (jgv_name S.nd (by decide))) (fun _ _ _ _ _ cx => jts_nil) (fun _ _ _ _ _ cx => (je_cmp (opN_in hu1) (je_var (i := 1)) (je_gstr T.c_SMALL) (by rfl)))) ja_nil))))))
theorem fn_is_name {f : Addr} {fd : FuncData} (F : FunD K "is_name" "is_name" (defArgs s_is_name) (defBody s_is_name) (defScope s_is_name) [] [] f fd) (T : Txt WW K mg) : Fn P WW K mg base 1 f 1 sp_is_name :=
  ⟨⟨fd, ["word"], rfl, ok_is_name F T, F.bindsN fun _ _ _ _ _ _ us hl => match us, hl with | [_], _ => rfl⟩, F.kp⟩
theorem Fn_is_name (T : Txt WW K mg) : Fn P WW K mg base 1 (He.ga K "is_name") 1 sp_is_name := by
  obtain ⟨fd, F⟩ := T.d_is_name
  exact fn_is_name F T
theorem sc_number_in : FnScope ["word", "sign"] ["word"] (defScope s_number_in) := ⟨rfl, rfl, rfl, by decide +kernel, rfl, by decide +kernel, by decide +kernel⟩
theorem ok_number_in {f : Addr} {fd : FuncData} (F : FunD K "number_in" "number_in" (defArgs s_number_in) (defBody s_number_in) (defScope s_number_in) [] [] f fd) (T : Txt WW K mg) : FnOk P WW K mg base (L2.CX P WW) 1 f fd ["word"] (lSp K 1 sp_number_in) := by
  unfold sp_number_in
  refine fn_body (k := 0) (m := m_number_in) F sc_number_in (fun cdv A outer s H E w hr cx => ?_)
  have S := sc_number_in
  have hu64 := hr.units
  have hu1 := hu_of hr
  unfold m_number_in
  exact (jss_cons (js_if (jt_w (jw_or (jt_not (jt_chain opN_le opN_le je_int (je_callB callN_len T.f_len (ja_cons (je_var (i := 0)) ja_nil)) (je_gint T.c_MOST_FIGURES))) (jw_or1 (jt_not (jt_val (je_callB (callN_all cx.calm) T.f_all (ja_cons (je_lc (own := [("sign", 1)]) cx S.nd (ji_seq (je_var (i := 0))) (by rfl) (fun _ _ _ _ _ cx => (jgv_name S.nd (by decide))) (fun _ _ _ _ _ cx => jts_nil) (fun _ _ _ _ _ cx => (je_cmp (opN_in hu1) (je_var (i := 1)) (je_gstr T.c_FIGURES) (by rfl)))) ja_nil)))))))
    (jss_one (js_ret je_non))
    jss_nil)
    (jss_cons (js_if (jt_w (jw_and (jt_cmp (opN_eq hu64) (je_ix (ixN_seqv hu1) (je_var (i := 0)) je_int) je_str (nomark _)) (jw_and1 (jt_cmp (opN_ne hu64) (je_var (i := 0)) je_str (nomark _)))))
    (jss_one (js_ret je_non))
    jss_nil)
    (jss_one (js_ret (je_callTy callN_int T.f_int (ja_cons (je_var (i := 0)) ja_nil))))))
theorem fn_number_in {f : Addr} {fd : FuncData} (F : FunD K "number_in" "number_in" (defArgs s_number_in) (defBody s_number_in) (defScope s_number_in) [] [] f fd) (T : Txt WW K mg) : Fn P WW K mg base 1 f 1 sp_number_in :=
  ⟨⟨fd, ["word"], rfl, ok_number_in F T, F.bindsN fun _ _ _ _ _ _ us hl => match us, hl with | [_], _ => rfl⟩, F.kp⟩
theorem Fn_number_in (T : Txt WW K mg) : Fn P WW K mg base 1 (He.ga K "number_in") 1 sp_number_in := by
  obtain ⟨fd, F⟩ := T.d_number_in
  exact fn_number_in F T
theorem sc_put_hand : FnScope ["market", "words", "purse"] ["market", "words"] (defScope s_put_hand) := ⟨rfl, rfl, rfl, by decide +kernel, rfl, by decide +kernel, by decide +kernel⟩
theorem ok_put_hand {f : Addr} {fd : FuncData} (F : FunD K "put_hand" "put_hand" (defArgs s_put_hand) (defBody s_put_hand) (defScope s_put_hand) [] [] f fd) (T : Txt WW K mg) : FnOk P WW K mg base (L2.CX P WW) 2 f fd ["market", "words"] (lSp K 2 sp_put_hand) := by
  unfold sp_put_hand
  refine fn_body (k := 1) (m := m_put_hand) F sc_put_hand (fun cdv A outer s H E w hr cx => ?_)
  have S := sc_put_hand
  have hu64 := hr.units
  have hu1 := hu_of hr
  unfold m_put_hand
  exact (jss_cons (js_if (jt_w (jw_or (jt_cmp (opN_ne hu64) (je_callB callN_len T.f_len (ja_cons (je_var (i := 1)) ja_nil)) je_int (nomark _)) (jw_or (jt_cmp (opN_eq hu64) (je_callB callN_len T.f_len (ja_cons (je_fld (je_var (i := 0))) ja_nil)) (je_gint T.c_MOST_HANDS) (nomark _)) (jw_or1 (jt_cmp (opN_eqX hu64) (je_fld (je_var (i := 0))) je_dic0 (nomark _))))))
    (jss_one (js_ret je_bl))
    jss_nil)
    (jss_cons (js_set S.nd (je_tup (ja_cons (je_call cx (Fn_number_in T) T.g_number_in (hr.mono (by decide)) (ja_cons (je_ix (ixN_seqv hu1) (je_var (i := 1)) je_int) ja_nil)) (ja_cons (je_call cx (Fn_number_in T) T.g_number_in (hr.mono (by decide)) (ja_cons (je_ix (ixN_seqv hu1) (je_var (i := 1)) je_int) ja_nil)) ja_nil))))
    (jss_cons (js_if (jt_w (jw_or (jt_cmp (opN_in hu1) je_non (je_var (i := 2)) (by rfl)) (jw_or1 (jt_cmp opN_gt (je_callB (callN_max1 cx.calm hu64) T.f_max (ja_cons (je_var (i := 2)) ja_nil)) (je_gint T.c_MOST_GRAINS) (nomark _)))))
    (jss_one (js_ret je_bl))
    jss_nil)
    (jss_cons (js_asg (je_var (i := 2)) (jg_ix hu1 (je_fld (je_var (i := 0))) (je_ix (ixN_seqv hu1) (je_var (i := 1)) je_int)))
    (jss_one (js_ret je_bl))))))
theorem fn_put_hand {f : Addr} {fd : FuncData} (F : FunD K "put_hand" "put_hand" (defArgs s_put_hand) (defBody s_put_hand) (defScope s_put_hand) [] [] f fd) (T : Txt WW K mg) : Fn P WW K mg base 2 f 2 sp_put_hand :=
  ⟨⟨fd, ["market", "words"], rfl, ok_put_hand F T, F.bindsN fun _ _ _ _ _ _ us hl => match us, hl with | [_, _], _ => rfl⟩, F.kp⟩
theorem Fn_put_hand (T : Txt WW K mg) : Fn P WW K mg base 2 (He.ga K "put_hand") 2 sp_put_hand := by
  obtain ⟨fd, F⟩ := T.d_put_hand
  exact fn_put_hand F T
theorem sc_Maker___init__ : FnScope ["self", "plain"] ["self", "plain"] (defScope s_Maker___init__) := ⟨rfl, rfl, rfl, by decide +kernel, rfl, by decide +kernel, by decide +kernel⟩
theorem ok_Maker___init__ {f : Addr} {fd : FuncData} (F : FunD K "__init__" "Maker.__init__" (defArgs s_Maker___init__) (defBody s_Maker___init__) (defScope s_Maker___init__) [] [] f fd) (T : Txt WW K mg) : FnOk P WW K mg base (L2.CX P WW) 1 f fd ["self", "plain"] (lSp K 2 sp_Maker___init__) := by
  unfold sp_Maker___init__
  refine fn_body (k := 0) (m := m_Maker___init__) F sc_Maker___init__ (fun cdv A outer s H E w hr cx => ?_)
  have S := sc_Maker___init__
  have hu64 := hr.units
  have hu1 := hu_of hr
  unfold m_Maker___init__
  exact (jss_cons (js_fld (je_var (i := 0)) (je_lst (ja_cons (je_ix (ixN_seqv hu1) (je_var (i := 1)) je_int) (ja_cons (je_ix (ixN_seqv hu1) (je_var (i := 1)) je_int) ja_nil))))
    (jss_cons (js_fld (je_var (i := 0)) (je_ix (ixN_seqv hu1) (je_var (i := 1)) je_int))
    (jss_cons (js_fld (je_var (i := 0)) (je_slice (je_var (i := 1)) (jo_some je_int) jo_none))
    (jss_cons (js_fld (je_var (i := 0)) (je_op opN_sub (je_ix (ixN_seqv hu1) (je_ix (ixN_seqv hu1) (je_var (i := 1)) je_int) je_int) (je_ix (ixN_seqv hu1) (je_ix (ixN_seqv hu1) (je_var (i := 1)) je_int) je_int)))
    (jss_one (js_fld (je_var (i := 0)) (je_ix (ixN_seqv hu1) (je_ix (ixN_seqv hu1) (je_var (i := 1)) je_int) je_int)))))))
theorem fn_Maker___init__ {f : Addr} {fd : FuncData} (F : FunD K "__init__" "Maker.__init__" (defArgs s_Maker___init__) (defBody s_Maker___init__) (defScope s_Maker___init__) [] [] f fd) (T : Txt WW K mg) : Fn P WW K mg base 1 f 2 sp_Maker___init__ :=
  ⟨⟨fd, ["self", "plain"], rfl, ok_Maker___init__ F T, F.bindsN fun _ _ _ _ _ _ us hl => match us, hl with | [_, _], _ => rfl⟩, F.kp⟩
theorem sc_is_among : FnScope ["thing", "least", "most"] ["thing", "least", "most"] (defScope s_is_among) := ⟨rfl, rfl, rfl, by decide +kernel, rfl, by decide +kernel, by decide +kernel⟩
theorem ok_is_among {f : Addr} {fd : FuncData} (F : FunD K "is_among" "is_among" (defArgs s_is_among) (defBody s_is_among) (defScope s_is_among) [] [] f fd) (T : Txt WW K mg) : FnOk P WW K mg base (L2.CX P WW) 2 f fd ["thing", "least", "most"] (lSp K 3 sp_is_among) := by
  unfold sp_is_among
  refine fn_body (k := 1) (m := m_is_among) F sc_is_among (fun cdv A outer s H E w hr cx => ?_)
  have S := sc_is_among
  have hu64 := hr.units
  have hu1 := hu_of hr
  unfold m_is_among
  exact (jss_one (js_ret (je_and (je_call cx (Fn_is_whole T) T.g_is_whole (hr.mono (by decide)) (ja_cons (je_var (i := 0)) ja_nil)) (je_one (je_chain opN_le opN_le (je_var (i := 1)) (je_var (i := 0)) (je_var (i := 2)))))))
theorem fn_is_among {f : Addr} {fd : FuncData} (F : FunD K "is_among" "is_among" (defArgs s_is_among) (defBody s_is_among) (defScope s_is_among) [] [] f fd) (T : Txt WW K mg) : Fn P WW K mg base 2 f 3 sp_is_among :=
  ⟨⟨fd, ["thing", "least", "most"], rfl, ok_is_among F T, F.bindsN fun _ _ _ _ _ _ us hl => match us, hl with | [_, _, _], _ => rfl⟩, F.kp⟩
theorem Fn_is_among (T : Txt WW K mg) : Fn P WW K mg base 2 (He.ga K "is_among") 3 sp_is_among := by
  obtain ⟨fd, F⟩ := T.d_is_among
  exact fn_is_among F T
theorem sc_is_pair : FnScope ["thing", "least", "most"] ["thing", "least", "most"] (defScope s_is_pair) := ⟨rfl, rfl, rfl, by decide +kernel, rfl, by decide +kernel, by decide +kernel⟩
theorem ok_is_pair {f : Addr} {fd : FuncData} (F : FunD K "is_pair" "is_pair" (defArgs s_is_pair) (defBody s_is_pair) (defScope s_is_pair) [] [] f fd) (T : Txt WW K mg) : FnOk P WW K mg base (L2.CX P WW) 3 f fd ["thing", "least", "most"] (lSp K 3 sp_is_pair) := by
  unfold sp_is_pair
  refine fn_body (k := 2) (m := m_is_pair) F sc_is_pair (fun cdv A outer s H E w hr cx => ?_)
  have S := sc_is_pair
  have hu64 := hr.units
  have hu1 := hu_of hr
  unfold m_is_pair
  exact (jss_cons (js_if (jt_w (jw_or (jt_not (jt_val (je_callB (callN_isi T.kf) T.f_isinstance (ja_cons (je_var (i := 0)) (ja_cons (je_tyB T.f_tuple) ja_nil))))) (jw_or1 (jt_cmp (opN_ne hu64) (je_callB callN_len T.f_len (ja_cons (je_var (i := 0)) ja_nil)) je_int (nomark _)))))
    (jss_one (js_ret je_bl))
    jss_nil)
    (jss_one (js_ret (je_and (je_call cx (Fn_is_among T) T.g_is_among (hr.mono (by decide)) (ja_cons (je_ix (ixN_seqv hu1) (je_var (i := 0)) je_int) (ja_cons (je_var (i := 1)) (ja_cons (je_var (i := 2)) ja_nil)))) (je_one (je_call cx (Fn_is_among T) T.g_is_among (hr.mono (by decide)) (ja_cons (je_ix (ixN_seqv hu1) (je_var (i := 0)) je_int) (ja_cons (je_var (i := 1)) (ja_cons (je_var (i := 2)) ja_nil)))))))))
theorem fn_is_pair {f : Addr} {fd : FuncData} (F : FunD K "is_pair" "is_pair" (defArgs s_is_pair) (defBody s_is_pair) (defScope s_is_pair) [] [] f fd) (T : Txt WW K mg) : Fn P WW K mg base 3 f 3 sp_is_pair :=
  ⟨⟨fd, ["thing", "least", "most"], rfl, ok_is_pair F T, F.bindsN fun _ _ _ _ _ _ us hl => match us, hl with | [_, _, _], _ => rfl⟩, F.kp⟩
theorem Fn_is_pair (T : Txt WW K mg) : Fn P WW K mg base 3 (He.ga K "is_pair") 3 sp_is_pair := by
  obtain ⟨fd, F⟩ := T.d_is_pair
  exact fn_is_pair F T
theorem sc_is_due : FnScope ["thing"] ["thing"] (defScope s_is_due) := ⟨rfl, rfl, rfl, by decide +kernel, rfl, by decide +kernel, by decide +kernel⟩
theorem ok_is_due {f : Addr} {fd : FuncData} (F : FunD K "is_due" "is_due" (defArgs s_is_due) (defBody s_is_due) (defScope s_is_due) [] [] f fd) (T : Txt WW K mg) : FnOk P WW K mg base (L2.CX P WW) 4 f fd ["thing"] (lSp K 1 sp_is_due) := by
  unfold sp_is_due
  refine fn_body (k := 3) (m := m_is_due) F sc_is_due (fun cdv A outer s H E w hr cx => ?_)
  have S := sc_is_due
  have hu64 := hr.units
  have hu1 := hu_of hr
  unfold m_is_due
  exact (jss_one (js_ret (je_and (je_call cx (Fn_is_pair T) T.g_is_pair (hr.mono (by decide)) (ja_cons (je_var (i := 0)) (ja_cons je_int (ja_cons (je_gint T.c_MOST_BOTTOM) ja_nil)))) (je_and (je_cmp opN_ge (je_ix (ixN_seqv hu1) (je_var (i := 0)) je_int) je_int (nomark _)) (je_one (je_cmp opN_le (je_op opN_mul je_int (je_ix (ixN_seqv hu1) (je_var (i := 0)) je_int)) (je_ix (ixN_seqv hu1) (je_var (i := 0)) je_int) (nomark _)))))))
theorem fn_is_due {f : Addr} {fd : FuncData} (F : FunD K "is_due" "is_due" (defArgs s_is_due) (defBody s_is_due) (defScope s_is_due) [] [] f fd) (T : Txt WW K mg) : Fn P WW K mg base 4 f 1 sp_is_due :=
  ⟨⟨fd, ["thing"], rfl, ok_is_due F T, F.bindsN fun _ _ _ _ _ _ us hl => match us, hl with | [_], _ => rfl⟩, F.kp⟩
theorem Fn_is_due (T : Txt WW K mg) : Fn P WW K mg base 4 (He.ga K "is_due") 1 sp_is_due := by
  obtain ⟨fd, F⟩ := T.d_is_due
  exact fn_is_due F T
theorem sc_is_plain : FnScope ["thing"] ["thing"] (defScope s_is_plain) := ⟨rfl, rfl, rfl, by decide +kernel, rfl, by decide +kernel, by decide +kernel⟩
theorem ok_is_plain {f : Addr} {fd : FuncData} (F : FunD K "is_plain" "is_plain" (defArgs s_is_plain) (defBody s_is_plain) (defScope s_is_plain) [] [] f fd) (T : Txt WW K mg) : FnOk P WW K mg base (L2.CX P WW) 5 f fd ["thing"] (lSp K 1 sp_is_plain) := by
  unfold sp_is_plain
  refine fn_body (k := 4) (m := m_is_plain) F sc_is_plain (fun cdv A outer s H E w hr cx => ?_)
  have S := sc_is_plain
  have hu64 := hr.units
  have hu1 := hu_of hr
  unfold m_is_plain
  exact (jss_cons (js_if (jt_w (jw_or (jt_not (jt_val (je_callB (callN_isi T.kf) T.f_isinstance (ja_cons (je_var (i := 0)) (ja_cons (je_tyB T.f_tuple) ja_nil))))) (jw_or (jt_not (jt_chain opN_le opN_le je_int (je_callB callN_len T.f_len (ja_cons (je_var (i := 0)) ja_nil)) je_int)) (jw_or1 (jt_not (jt_val (je_callB (callN_isi T.kf) T.f_isinstance (ja_cons (je_ix (ixN_seqv hu1) (je_var (i := 0)) je_int) (ja_cons (je_tyB T.f_str) ja_nil)))))))))
    (jss_one (js_ret je_bl))
    jss_nil)
    (jss_cons (js_if (jt_w (jw_or (jt_not (jt_val (je_call cx (Fn_is_pair T) T.g_is_pair (hr.mono (by decide)) (ja_cons (je_slice (je_var (i := 0)) (jo_some je_int) (jo_some je_int)) (ja_cons je_int (ja_cons (je_gint T.c_MOST) ja_nil)))))) (jw_or1 (jt_not (jt_val (je_call cx (Fn_is_due T) T.g_is_due (hr.mono (by decide)) (ja_cons (je_ix (ixN_seqv hu1) (je_var (i := 0)) je_int) ja_nil)))))))
    (jss_one (js_ret je_bl))
    jss_nil)
    (jss_cons (js_if (jt_cmp (opN_eq hu64) (je_ix (ixN_seqv hu1) (je_var (i := 0)) je_int) je_str (nomark _))
    (jss_one (js_ret (je_and (je_cmp (opN_eq hu64) (je_callB callN_len T.f_len (ja_cons (je_var (i := 0)) ja_nil)) je_int (nomark _)) (je_and (je_cmp opN_ge (je_ix (ixN_seqv hu1) (je_var (i := 0)) je_int) je_int (nomark _)) (je_one (je_cmp opN_ge (je_ix (ixN_seqv hu1) (je_var (i := 0)) je_int) je_int (nomark _)))))))
    jss_nil)
    (jss_cons (js_if (jt_cmp (opN_ne hu64) (je_callB callN_len T.f_len (ja_cons (je_var (i := 0)) ja_nil)) je_int (nomark _))
    (jss_one (js_ret je_bl))
    jss_nil)
    (jss_cons (js_if (jt_cmp (opN_eq hu64) (je_ix (ixN_seqv hu1) (je_var (i := 0)) je_int) je_str (nomark _))
    (jss_one (js_ret (je_call cx (Fn_is_pair T) T.g_is_pair (hr.mono (by decide)) (ja_cons (je_ix (ixN_seqv hu1) (je_var (i := 0)) je_int) (ja_cons je_int (ja_cons (je_gint T.c_MOST_RATE) ja_nil))))))
    jss_nil)
    (jss_cons (js_if (jt_w (jw_or (jt_cmp (opN_ne hu64) (je_ix (ixN_seqv hu1) (je_var (i := 0)) je_int) je_str (nomark _)) (jw_or1 (jt_not (jt_val (je_call cx (Fn_is_pair T) T.g_is_pair (hr.mono (by decide)) (ja_cons (je_ix (ixN_seqv hu1) (je_var (i := 0)) je_int) (ja_cons je_int (ja_cons (je_gint T.c_MOST) ja_nil)))))))))
    (jss_one (js_ret je_bl))
    jss_nil)
    (jss_one (js_ret (je_and (je_cmp opN_ge (je_op opN_add (je_ix (ixN_seqv hu1) (je_var (i := 0)) je_int) (je_ix (ixN_seqv hu1) (je_ix (ixN_seqv hu1) (je_var (i := 0)) je_int) je_int)) je_int (nomark _)) (je_one (je_cmp opN_ge (je_op opN_add (je_ix (ixN_seqv hu1) (je_var (i := 0)) je_int) (je_ix (ixN_seqv hu1) (je_ix (ixN_seqv hu1) (je_var (i := 0)) je_int) je_int)) je_int (nomark _))))))))))))
theorem fn_is_plain {f : Addr} {fd : FuncData} (F : FunD K "is_plain" "is_plain" (defArgs s_is_plain) (defBody s_is_plain) (defScope s_is_plain) [] [] f fd) (T : Txt WW K mg) : Fn P WW K mg base 5 f 1 sp_is_plain :=
  ⟨⟨fd, ["thing"], rfl, ok_is_plain F T, F.bindsN fun _ _ _ _ _ _ us hl => match us, hl with | [_], _ => rfl⟩, F.kp⟩
theorem Fn_is_plain (T : Txt WW K mg) : Fn P WW K mg base 5 (He.ga K "is_plain") 1 sp_is_plain := by
  obtain ⟨fd, F⟩ := T.d_is_plain
  exact fn_is_plain F T
theorem Fn_init_Product (T : Txt WW K mg) : Fn P WW K mg base 1 (He.ma K (He.ga K "Product") "__init__") 2 sp_Maker___init__ := by
  obtain ⟨fd, F⟩ := T.d_Product_init
  exact fn_Maker___init__ F T
theorem Fn_init_Stretch (T : Txt WW K mg) : Fn P WW K mg base 1 (He.ma K (He.ga K "Stretch") "__init__") 2 sp_Maker___init__ := by
  obtain ⟨fd, F⟩ := T.d_Stretch_init
  exact fn_Maker___init__ F T
theorem Fn_init_Sum (T : Txt WW K mg) : Fn P WW K mg base 1 (He.ma K (He.ga K "Sum") "__init__") 2 sp_Maker___init__ := by
  obtain ⟨fd, F⟩ := T.d_Sum_init
  exact fn_Maker___init__ F T
theorem sc_maker_of : FnScope ["plain"] ["plain"] (defScope s_maker_of) := ⟨rfl, rfl, rfl, by decide +kernel, rfl, by decide +kernel, by decide +kernel⟩
theorem ok_maker_of {f : Addr} {fd : FuncData} (F : FunD K "maker_of" "maker_of" (defArgs s_maker_of) (defBody s_maker_of) (defScope s_maker_of) [] [] f fd) (T : Txt WW K mg) : FnOk P WW K mg base (L2.CX P WW) 6 f fd ["plain"] (lSp K 1 sp_maker_of) := by
  unfold sp_maker_of
  refine fn_body (k := 5) (m := m_maker_of) F sc_maker_of (fun cdv A outer s H E w hr cx => ?_)
  have S := sc_maker_of
  have hu64 := hr.units
  have hu1 := hu_of hr
  unfold m_maker_of
  exact (jss_cons (js_if (jt_not (jt_val (je_call cx (Fn_is_plain T) T.g_is_plain (hr.mono (by decide)) (ja_cons (je_var (i := 0)) ja_nil))))
    (jss_one (js_raise cx T.x_BadMaker T.g_BadMaker))
    jss_nil)
    (jss_cons (js_if (jt_cmp (opN_eq hu64) (je_ix (ixN_seqv hu1) (je_var (i := 0)) je_int) je_str (nomark _))
    (jss_one (js_ret (je_make cx T.co_Product T.k_Product (Fn_init_Product T) T.g_Product (hr.mono (by decide)) (ja_cons (je_var (i := 0)) ja_nil))))
    jss_nil)
    (jss_cons (js_if (jt_cmp (opN_eq hu64) (je_ix (ixN_seqv hu1) (je_var (i := 0)) je_int) je_str (nomark _))
    (jss_one (js_ret (je_make cx T.co_Stretch T.k_Stretch (Fn_init_Stretch T) T.g_Stretch (hr.mono (by decide)) (ja_cons (je_var (i := 0)) ja_nil))))
    jss_nil)
    (jss_one (js_ret (je_make cx T.co_Sum T.k_Sum (Fn_init_Sum T) T.g_Sum (hr.mono (by decide)) (ja_cons (je_var (i := 0)) ja_nil)))))))
theorem fn_maker_of {f : Addr} {fd : FuncData} (F : FunD K "maker_of" "maker_of" (defArgs s_maker_of) (defBody s_maker_of) (defScope s_maker_of) [] [] f fd) (T : Txt WW K mg) : Fn P WW K mg base 6 f 1 sp_maker_of :=
  ⟨⟨fd, ["plain"], rfl, ok_maker_of F T, F.bindsN fun _ _ _ _ _ _ us hl => match us, hl with | [_], _ => rfl⟩, F.kp⟩
theorem Fn_maker_of (T : Txt WW K mg) : Fn P WW K mg base 6 (He.ga K "maker_of") 1 sp_maker_of := by
  obtain ⟨fd, F⟩ := T.d_maker_of
  exact fn_maker_of F T
theorem sc_made_or_none : FnScope ["plain", "found"] ["plain"] (defScope s_made_or_none) := ⟨rfl, rfl, rfl, by decide +kernel, rfl, by decide +kernel, by decide +kernel⟩
theorem ok_made_or_none {f : Addr} {fd : FuncData} (F : FunD K "made_or_none" "made_or_none" (defArgs s_made_or_none) (defBody s_made_or_none) (defScope s_made_or_none) [] [] f fd) (T : Txt WW K mg) : FnOk P WW K mg base (L2.CX P WW) 7 f fd ["plain"] (lSp K 1 sp_made_or_none) := by
  unfold sp_made_or_none
  refine fn_body (k := 6) (m := m_made_or_none) F sc_made_or_none (fun cdv A outer s H E w hr cx => ?_)
  have S := sc_made_or_none
  have hu64 := hr.units
  have hu1 := hu_of hr
  unfold m_made_or_none
  exact (jss_cons (js_try_only cx T.kx T.g_BadMaker rfl rfl (fun H w pn xe hx cx => (jss_one (js_set S.nd (je_call cx (Fn_maker_of T) T.g_maker_of (hr.mono (by decide)) (ja_cons (je_var (i := 0)) ja_nil)))))
    (fun H a pn => (jss_one (js_ret je_non))))
    (jss_one (js_ret (je_var (i := 1)))))
theorem fn_made_or_none {f : Addr} {fd : FuncData} (F : FunD K "made_or_none" "made_or_none" (defArgs s_made_or_none) (defBody s_made_or_none) (defScope s_made_or_none) [] [] f fd) (T : Txt WW K mg) : Fn P WW K mg base 7 f 1 sp_made_or_none :=
  ⟨⟨fd, ["plain"], rfl, ok_made_or_none F T, F.bindsN fun _ _ _ _ _ _ us hl => match us, hl with | [_], _ => rfl⟩, F.kp⟩
theorem Fn_made_or_none (T : Txt WW K mg) : Fn P WW K mg base 7 (He.ga K "made_or_none") 1 sp_made_or_none := by
  obtain ⟨fd, F⟩ := T.d_made_or_none
  exact fn_made_or_none F T
theorem sc_due_in : FnScope ["word", "ahead", "mark", "behind"] ["word"] (defScope s_due_in) := ⟨rfl, rfl, rfl, by decide +kernel, rfl, by decide +kernel, by decide +kernel⟩
theorem ok_due_in {f : Addr} {fd : FuncData} (F : FunD K "due_in" "due_in" (defArgs s_due_in) (defBody s_due_in) (defScope s_due_in) [] [] f fd) (T : Txt WW K mg) : FnOk P WW K mg base (L2.CX P WW) 2 f fd ["word"] (lSp K 1 sp_due_in) := by
  unfold sp_due_in
  refine fn_body (k := 1) (m := m_due_in) F sc_due_in (fun cdv A outer s H E w hr cx => ?_)
  have S := sc_due_in
  have hu64 := hr.units
  have hu1 := hu_of hr
  unfold m_due_in
  exact (jss_cons (js_asg (je_partition (je_var (i := 0)) je_str) (jg_tup cx (jgs_cons (jg_name S.nd) (jgs_cons (jg_name S.nd) (jgs_cons (jg_name S.nd) jgs_nil)))))
    (jss_cons (js_if (jt_w (jw_or (jt_cmp opN_isN (je_call cx (Fn_number_in T) T.g_number_in (hr.mono (by decide)) (ja_cons (je_var (i := 1)) ja_nil)) je_non (nomark _)) (jw_or1 (jt_cmp opN_isN (je_call cx (Fn_number_in T) T.g_number_in (hr.mono (by decide)) (ja_cons (je_var (i := 3)) ja_nil)) je_non (nomark _)))))
    (jss_one (js_ret je_non))
    jss_nil)
    (jss_one (js_ret (je_tup (ja_cons (je_call cx (Fn_number_in T) T.g_number_in (hr.mono (by decide)) (ja_cons (je_var (i := 1)) ja_nil)) (ja_cons (je_call cx (Fn_number_in T) T.g_number_in (hr.mono (by decide)) (ja_cons (je_var (i := 3)) ja_nil)) ja_nil)))))))
theorem fn_due_in {f : Addr} {fd : FuncData} (F : FunD K "due_in" "due_in" (defArgs s_due_in) (defBody s_due_in) (defScope s_due_in) [] [] f fd) (T : Txt WW K mg) : Fn P WW K mg base 2 f 1 sp_due_in :=
  ⟨⟨fd, ["word"], rfl, ok_due_in F T, F.bindsN fun _ _ _ _ _ _ us hl => match us, hl with | [_], _ => rfl⟩, F.kp⟩
theorem Fn_due_in (T : Txt WW K mg) : Fn P WW K mg base 2 (He.ga K "due_in") 1 sp_due_in := by
  obtain ⟨fd, F⟩ := T.d_due_in
  exact fn_due_in F T
theorem sc_plain_in : FnScope ["words", "numbers", "word", "due", "found"] ["words"] (defScope s_plain_in) := ⟨rfl, rfl, rfl, by decide +kernel, rfl, by decide +kernel, by decide +kernel⟩
theorem ok_plain_in {f : Addr} {fd : FuncData} (F : FunD K "plain_in" "plain_in" (defArgs s_plain_in) (defBody s_plain_in) (defScope s_plain_in) [] [] f fd) (T : Txt WW K mg) : FnOk P WW K mg base (L2.CX P WW) 3 f fd ["words"] (lSp K 1 sp_plain_in) := by
  unfold sp_plain_in
  refine fn_body (k := 2) (m := m_plain_in) F sc_plain_in (fun cdv A outer s H E w hr cx => ?_)
  have S := sc_plain_in
  have hu64 := hr.units
  have hu1 := hu_of hr
  unfold m_plain_in
  exact (jss_cons (js_if (jt_w (jw_or (jt_cmp opN_lt (je_callB callN_len T.f_len (ja_cons (je_var (i := 0)) ja_nil)) je_int (nomark _)) (jw_or1 (jt_cmp (opN_ne hu64) (je_tabget T.tb_SIZES T.g_SIZES (je_ix (ixN_seqv hu1) (je_var (i := 0)) je_int) je_int) (je_callB callN_len T.f_len (ja_cons (je_var (i := 0)) ja_nil)) (nomark _)))))
    (jss_one (js_ret je_non))
    jss_nil)
    (jss_cons (js_setLc (own := [("word", 2)]) cx S.nd (ji_seq (je_op opN_add (je_slice (je_var (i := 0)) (jo_some je_int) (jo_some je_int)) (je_slice (je_var (i := 0)) (jo_some je_int) jo_none))) (by rfl) (fun _ _ _ _ _ cx => (jgv_name S.nd (by decide))) (fun _ _ _ _ _ cx => jts_nil) (fun _ _ _ _ _ cx => (je_call cx (Fn_number_in T) T.g_number_in (hr.mono (by decide)) (ja_cons (je_var (i := 2)) ja_nil))))
    (jss_cons (js_set S.nd (je_call cx (Fn_due_in T) T.g_due_in (hr.mono (by decide)) (ja_cons (je_ix (ixN_seqv hu1) (je_var (i := 0)) je_int) ja_nil)))
    (jss_cons (js_if (jt_w (jw_or (jt_cmp (opN_in hu1) je_non (je_var (i := 1)) (by rfl)) (jw_or1 (jt_cmp opN_isN (je_var (i := 3)) je_non (nomark _)))))
    (jss_one (js_ret je_non))
    jss_nil)
    (jss_cons (js_set S.nd (je_tup (ja_cons (je_ix (ixN_seqv hu1) (je_var (i := 0)) je_int) (ja_cons (je_ix (ixN_seqv hu1) (je_var (i := 1)) je_int) (ja_cons (je_ix (ixN_seqv hu1) (je_var (i := 1)) je_int) (ja_cons (je_var (i := 3)) ja_nil))))))
    (jss_one (js_ret (je_if (jt_cmp (opN_eq hu64) (je_callB callN_len T.f_len (ja_cons (je_var (i := 0)) ja_nil)) je_int (nomark _)) (je_var (i := 4)) (je_op opN_add (je_var (i := 4)) (je_tup (ja_cons (je_tup (ja_cons (je_ix (ixN_seqv hu1) (je_var (i := 1)) je_int) (ja_cons (je_ix (ixN_seqv hu1) (je_var (i := 1)) je_int) ja_nil))) ja_nil)))))))))))
theorem fn_plain_in {f : Addr} {fd : FuncData} (F : FunD K "plain_in" "plain_in" (defArgs s_plain_in) (defBody s_plain_in) (defScope s_plain_in) [] [] f fd) (T : Txt WW K mg) : Fn P WW K mg base 3 f 1 sp_plain_in :=
  ⟨⟨fd, ["words"], rfl, ok_plain_in F T, F.bindsN fun _ _ _ _ _ _ us hl => match us, hl with | [_], _ => rfl⟩, F.kp⟩
theorem Fn_plain_in (T : Txt WW K mg) : Fn P WW K mg base 3 (He.ga K "plain_in") 1 sp_plain_in := by
  obtain ⟨fd, F⟩ := T.d_plain_in
  exact fn_plain_in F T
theorem sc_put_maker : FnScope ["market", "words", "plain", "maker"] ["market", "words"] (defScope s_put_maker) := ⟨rfl, rfl, rfl, by decide +kernel, rfl, by decide +kernel, by decide +kernel⟩
theorem ok_put_maker {f : Addr} {fd : FuncData} (F : FunD K "put_maker" "put_maker" (defArgs s_put_maker) (defBody s_put_maker) (defScope s_put_maker) [] [] f fd) (T : Txt WW K mg) : FnOk P WW K mg base (L2.CX P WW) 8 f fd ["market", "words"] (lSp K 2 sp_put_maker) := by
  unfold sp_put_maker
  refine fn_body (k := 7) (m := m_put_maker) F sc_put_maker (fun cdv A outer s H E w hr cx => ?_)
  have S := sc_put_maker
  have hu64 := hr.units
  have hu1 := hu_of hr
  unfold m_put_maker
  exact (jss_cons (js_set S.nd (je_call cx (Fn_plain_in T) T.g_plain_in (hr.mono (by decide)) (ja_cons (je_var (i := 1)) ja_nil)))
    (jss_cons (js_set S.nd (je_if (jt_cmp opN_isN (je_var (i := 2)) je_non (nomark _)) je_non (je_call cx (Fn_made_or_none T) T.g_made_or_none (hr.mono (by decide)) (ja_cons (je_var (i := 2)) ja_nil))))
    (jss_cons (js_if (jt_w (jw_or (jt_cmp opN_isN (je_var (i := 3)) je_non (nomark _)) (jw_or (jt_cmp (opN_eq hu64) (je_callB callN_len T.f_len (ja_cons (je_fld (je_var (i := 0))) ja_nil)) (je_gint T.c_MOST_MAKERS) (nomark _)) (jw_or1 (jt_cmp (opN_neX hu64) (je_fld (je_var (i := 0))) je_dic0 (nomark _))))))
    (jss_one (js_ret je_bl))
    jss_nil)
    (jss_cons (js_asg (je_var (i := 3)) (jg_ix hu1 (je_fld (je_var (i := 0))) (je_ix (ixN_seqv hu1) (je_var (i := 1)) je_int)))
    (jss_one (js_ret je_bl))))))
theorem fn_put_maker {f : Addr} {fd : FuncData} (F : FunD K "put_maker" "put_maker" (defArgs s_put_maker) (defBody s_put_maker) (defScope s_put_maker) [] [] f fd) (T : Txt WW K mg) : Fn P WW K mg base 8 f 2 sp_put_maker :=
  ⟨⟨fd, ["market", "words"], rfl, ok_put_maker F T, F.bindsN fun _ _ _ _ _ _ us hl => match us, hl with | [_, _], _ => rfl⟩, F.kp⟩
theorem Fn_put_maker (T : Txt WW K mg) : Fn P WW K mg base 8 (He.ga K "put_maker") 2 sp_put_maker := by
  obtain ⟨fd, F⟩ := T.d_put_maker
  exact fn_put_maker F T
theorem sc_is_put : FnScope ["market", "words"] ["market", "words"] (defScope s_is_put) := ⟨rfl, rfl, rfl, by decide +kernel, rfl, by decide +kernel, by decide +kernel⟩
theorem ok_is_put {f : Addr} {fd : FuncData} (F : FunD K "is_put" "is_put" (defArgs s_is_put) (defBody s_is_put) (defScope s_is_put) [] [] f fd) (T : Txt WW K mg) : FnOk P WW K mg base (L2.CX P WW) 9 f fd ["market", "words"] (lSp K 2 sp_is_put) := by
  unfold sp_is_put
  refine fn_body (k := 8) (m := m_is_put) F sc_is_put (fun cdv A outer s H E w hr cx => ?_)
  have S := sc_is_put
  have hu64 := hr.units
  have hu1 := hu_of hr
  unfold m_is_put
  exact (jss_cons (js_if (jt_w (jw_or (jt_cmp opN_lt (je_callB callN_len T.f_len (ja_cons (je_var (i := 1)) ja_nil)) je_int (nomark _)) (jw_or (jt_not (jt_val (je_call cx (Fn_is_name T) T.g_is_name (hr.mono (by decide)) (ja_cons (je_ix (ixN_seqv hu1) (je_var (i := 1)) je_int) ja_nil)))) (jw_or (jt_cmp (opN_in hu1) (je_ix (ixN_seqv hu1) (je_var (i := 1)) je_int) (je_fld (je_var (i := 0))) (by rfl)) (jw_or1 (jt_cmp (opN_in hu1) (je_ix (ixN_seqv hu1) (je_var (i := 1)) je_int) (je_fld (je_var (i := 0))) (by rfl)))))))
    (jss_one (js_ret je_bl))
    jss_nil)
    (jss_cons (js_if (jt_cmp (opN_eq hu64) (je_ix (ixN_seqv hu1) (je_var (i := 1)) je_int) je_str (nomark _))
    (jss_one (js_ret (je_call cx (Fn_put_maker T) T.g_put_maker (hr.mono (by decide)) (ja_cons (je_var (i := 0)) (ja_cons (je_var (i := 1)) ja_nil)))))
    jss_nil)
    (jss_one (js_ret (je_and (je_cmp (opN_eq hu64) (je_ix (ixN_seqv hu1) (je_var (i := 1)) je_int) je_str (nomark _)) (je_one (je_call cx (Fn_put_hand T) T.g_put_hand (hr.mono (by decide)) (ja_cons (je_var (i := 0)) (ja_cons (je_var (i := 1)) ja_nil)))))))))
theorem fn_is_put {f : Addr} {fd : FuncData} (F : FunD K "is_put" "is_put" (defArgs s_is_put) (defBody s_is_put) (defScope s_is_put) [] [] f fd) (T : Txt WW K mg) : Fn P WW K mg base 9 f 2 sp_is_put :=
  ⟨⟨fd, ["market", "words"], rfl, ok_is_put F T, F.bindsN fun _ _ _ _ _ _ us hl => match us, hl with | [_, _], _ => rfl⟩, F.kp⟩
theorem Fn_is_put (T : Txt WW K mg) : Fn P WW K mg base 9 (He.ga K "is_put") 2 sp_is_put := by
  obtain ⟨fd, F⟩ := T.d_is_put
  exact fn_is_put F T
theorem Fn_init_Market (T : Txt WW K mg) : Fn P WW K mg base 1 (He.ma K (He.ga K "Market") "__init__") 1 sp_Market___init__ := by
  obtain ⟨fd, F⟩ := T.d_Market_init
  exact fn_Market___init__ F T
theorem sc_read : FnScope ["text", "found", "number", "row"] ["text"] (defScope s_read) := ⟨rfl, rfl, rfl, by decide +kernel, rfl, by decide +kernel, by decide +kernel⟩
theorem ok_read {f : Addr} {fd : FuncData} (F : FunD K "read" "read" (defArgs s_read) (defBody s_read) (defScope s_read) [] [] f fd) (T : Txt WW K mg) : FnOk P WW K mg base (L2.CX P WW) 10 f fd ["text"] (lSp K 1 sp_read) := by
  unfold sp_read
  refine fn_body (k := 9) (m := m_read) F sc_read (fun cdv A outer s H E w hr cx => ?_)
  have S := sc_read
  have hu64 := hr.units
  have hu1 := hu_of hr
  unfold m_read
  exact (jss_cons (js_if (jt_not (jt_val (je_callB (callN_isi T.kf) T.f_isinstance (ja_cons (je_var (i := 0)) (ja_cons (je_tyB T.f_str) ja_nil)))))
    (jss_one (js_raiseX cx T.o_NoText (oi_NoText T) (hr.mono (by decide)) T.g_NoText je_int))
    jss_nil)
    (jss_cons (js_set S.nd (je_make0 cx T.co_Market T.k_Market (Fn_init_Market T) T.g_Market (hr.mono (by decide)) ))
    (jss_cons (js_forI cx (ji_enum T.f_enumerate (je_split (je_var (i := 0)) je_str)) (jg_tup cx (jgs_cons (jg_name S.nd) (jgs_cons (jg_name S.nd) jgs_nil)))
    (jss_one (js_if (jt_not (jt_val (je_call cx (Fn_is_put T) T.g_is_put (hr.mono (by decide)) (ja_cons (je_var (i := 1)) (ja_cons (je_split (je_var (i := 3)) je_str) ja_nil)))))
    (jss_one (js_raiseX cx T.o_NoText (oi_NoText T) (hr.mono (by decide)) T.g_NoText (je_op opN_add (je_var (i := 2)) je_int)))
    jss_nil)))
    (jss_one (js_ret (je_var (i := 1)))))))
theorem fn_read {f : Addr} {fd : FuncData} (F : FunD K "read" "read" (defArgs s_read) (defBody s_read) (defScope s_read) [] [] f fd) (T : Txt WW K mg) : Fn P WW K mg base 10 f 1 sp_read :=
  ⟨⟨fd, ["text"], rfl, ok_read F T, F.bindsN fun _ _ _ _ _ _ us hl => match us, hl with | [_], _ => rfl⟩, F.kp⟩
theorem Fn_read (T : Txt WW K mg) : Fn P WW K mg base 10 (He.ga K "read") 1 sp_read := by
  obtain ⟨fd, F⟩ := T.d_read
  exact fn_read F T
theorem mk_Maker_plain (T : Txt WW K mg) : MtK P WW K mg base "plain" mt_Maker_plain 2 := by
  refine ⟨fun c n sp h => ?_⟩
  unfold mt_Maker_plain at h
  split at h
  · rename_i e; subst e; cases h
    obtain ⟨fd, F⟩ := T.d_Product_plain
    exact ⟨_, T.m_Product_plain, (fn_Maker_plain F T).mono (by decide)⟩
  split at h
  · rename_i e; subst e; cases h
    obtain ⟨fd, F⟩ := T.d_Stretch_plain
    exact ⟨_, T.m_Stretch_plain, (fn_Maker_plain F T).mono (by decide)⟩
  split at h
  · rename_i e; subst e; cases h
    obtain ⟨fd, F⟩ := T.d_Sum_plain
    exact ⟨_, T.m_Sum_plain, (fn_Maker_plain F T).mono (by decide)⟩
  cases h
theorem sc_law : FnScope ["_law_script", "_law_state", "_law_text", "_law_makers", "_law_purses", "_law_market_here", "_law_plains", "_law_turn", "_law_side", "_law_size", "_law_name"] ["_law_script"] (defScope s_law) := ⟨rfl, rfl, rfl, by decide +kernel, rfl, by decide +kernel, by decide +kernel⟩
theorem ok_law {f : Addr} {fd : FuncData} (F : FunD K "law" "law" (defArgs s_law) (defBody s_law) (defScope s_law) [] [] f fd) (T : Txt WW K mg) : FnOk P WW K mg base (L2.CX P WW) 11 f fd ["_law_script"] (lSp K 1 sp_law) := by
  unfold sp_law
  refine fn_body (k := 10) (m := m_law) F sc_law (fun cdv A outer s H E w hr cx => ?_)
  have S := sc_law
  have hu64 := hr.units
  have hu1 := hu_of hr
  unfold m_law
  exact (jss_cons (js_set S.nd (je_disp (jps_cons (je_var (i := 0)) (jps_cons (je_callTy (callN_listD cx.calm) T.f_list (ja_cons (je_var (i := 0)) ja_nil)) (jps_cons je_int jps_nil)))))
    (jss_cons (js_asg (je_call cx (Fn__law_market T) T.g__law_market (hr.mono (by decide)) (ja_cons (je_var (i := 1)) (ja_cons (je_ix (ixN_seqv hu1) (je_lst (ja_cons (je_op opN_pow je_int je_int) (ja_cons je_int (ja_cons (je_op opN_pow je_int je_int) ja_nil)))) (je_op opN_mod (je_call cx (Fn__law_next T) T.g__law_next (hr.mono (by decide)) (ja_cons (je_var (i := 1)) ja_nil)) je_int)) (ja_cons je_int ja_nil)))) (jg_tup cx (jgs_cons (jg_name S.nd) (jgs_cons (jg_name S.nd) (jgs_cons (jg_name S.nd) jgs_nil)))))
    (jss_cons (js_set S.nd (je_call cx (Fn_read T) T.g_read (hr.mono (by decide)) (ja_cons (je_var (i := 2)) ja_nil)))
    (jss_cons (js_set S.nd (je_listVals cx.calm T.f_list (je_var (i := 3))))
    (jss_cons (js_forR1 cx T.f_range (je_op opN_add je_int (je_callB (callN_min2 cx.calm) T.f_min (ja_cons je_int (ja_cons (je_op opN_div (je_callB callN_len T.f_len (ja_cons (je_var (i := 0)) ja_nil)) je_int) ja_nil)))) (jg_name S.nd)
    (jss_cons (js_set S.nd (je_op opN_mod (je_call cx (Fn__law_next T) T.g__law_next (hr.mono (by decide)) (ja_cons (je_var (i := 1)) ja_nil)) je_int))
    (jss_cons (js_set S.nd (je_op opN_add je_int (je_call cx (Fn__law_great T) T.g__law_great (hr.mono (by decide)) (ja_cons (je_var (i := 1)) (ja_cons (je_ix (ixN_seqv hu1) (je_lst (ja_cons (je_op opN_pow je_int je_int) (ja_cons je_int (ja_cons (je_op opN_pow je_int je_int) ja_nil)))) (je_op opN_mod (je_call cx (Fn__law_next T) T.g__law_next (hr.mono (by decide)) (ja_cons (je_var (i := 1)) ja_nil)) je_int)) ja_nil)))))
    (jss_one (js_if (jt_not (jt_val (je_call cx (Fn__law_one_good T) T.g__law_one_good (hr.mono (by decide)) (ja_cons (je_var (i := 1)) (ja_cons (je_var (i := 5)) (ja_cons (je_var (i := 6)) (ja_cons (je_var (i := 8)) (ja_cons (je_var (i := 9)) (ja_cons (je_op opN_add je_int (je_op opN_mod (je_call cx (Fn__law_next T) T.g__law_next (hr.mono (by decide)) (ja_cons (je_var (i := 1)) ja_nil)) je_int)) ja_nil)))))))))
    (jss_one (js_ret je_bl))
    jss_nil)))))
    (jss_one (js_ret (je_cmp (opN_eq hu64) (je_lock (je_lc (own := [("_law_name", 10)]) cx S.nd (ji_keys (je_var (i := 3))) (by rfl) (fun _ _ _ _ _ cx => (jgv_name S.nd (by decide))) (fun _ _ _ _ _ cx => jts_nil) (fun _ _ _ _ _ cx => (je_methK0 cx (mk_Maker_plain T) (hr.mono (by decide)) (je_methK cx (mk_Market_maker T) (hr.mono (by decide)) (je_var (i := 5)) (ja_cons (je_var (i := 10)) ja_nil)) )))) (je_var (i := 6)) (nomark _)))))))))
theorem fn_law {f : Addr} {fd : FuncData} (F : FunD K "law" "law" (defArgs s_law) (defBody s_law) (defScope s_law) [] [] f fd) (T : Txt WW K mg) : Fn P WW K mg base 11 f 1 sp_law :=
  ⟨⟨fd, ["_law_script"], rfl, ok_law F T, F.bindsN fun _ _ _ _ _ _ us hl => match us, hl with | [_], _ => rfl⟩, F.kp⟩
theorem Fn_law (T : Txt WW K mg) : Fn P WW K mg base 11 (He.ga K "law") 1 sp_law := by
  obtain ⟨fd, F⟩ := T.d_law
  exact fn_law F T
end
end K25

namespace K25
open PySem N L2
set_option maxHeartbeats 4000000
local macro_rules | `(tactic| simp_arith [$args,*]) => `(tactic| simp -implicitDefEqProofs only [↓u_mLam, ↓u_mAct, ↓u_mM1, ↓u_nJoin, ↓u_nSplit, ↓u_nPart, ↓u_mTabGet, ↓u_sRaiseX, ↓u_iKeysN, ↓u_iValsN, ↓u_iItemsN, ↓u_nListD, ↓u_mListVals, ↓u_nExtend, ↓u_nEqX, ↓u_nNeX, ↓u_nEqL, ↓u_nNeL, ↓u_mMethD, ↓u_mOrT, ↓u_nMulS, ↓u_nMulL, ↓u_nEqG, ↓u_nNeG, lokOf, dic1, ↓u_mOp, ↓u_mTst, ↓u_mVar, ↓u_mC, ↓u_mAnd, ↓u_mOr, ↓u_mNot, ↓u_mAndV, ↓u_mOrV, ↓u_mNotV, ↓u_mIf, ↓u_mChain, ↓u_mNil, ↓u_mCons, ↓u_mTup, ↓u_mLst, ↓u_mDic0, ↓u_nAdd, ↓u_nInt, ↓u_nInt0, ↓u_nIsN, ↓u_nNotN, ↓u_nEq, ↓u_nNe, ↓u_nNin, ↓u_nIx, ↓u_mNoPart, ↓u_mPart, ↓u_nSl, ↓u_mSl, ↓u_nRev, ↓u_mUn, ↓u_nNeg, ↓u_nFld, ↓u_sFldN, ↓u_mCallB, ↓u_nLen, ↓u_nMax2, ↓u_nMin2, ↓u_nAbs, ↓u_nInt1, ↓u_nStr1, ↓u_nList1, ↓u_nTuple1, ↓u_mCall, ↓u_mMeth, ↓u_mMake, ↓u_spOf, ↓u_sNext, ↓u_sSeq, ↓u_sBreak, ↓u_sCont, ↓u_sDrop, ↓u_sRet, ↓u_sIf, ↓u_gNm, ↓u_gsNil, ↓u_gsCons, ↓u_gTp, ↓u_sAsg, ↓u_sSet, ↓u_nSet, ↓u_gIx, ↓u_sAug, ↓u_nAdd', ↓u_nGet, ↓u_sAugS, ↓u_nWalk, ↓u_sFor, ↓u_sForR1, ↓u_sForR2, ↓u_sRaise, ↓u_sTryO, ↓u_sTryK, ↓u_nTupIndex, ↓u_mTupIndex, ↓u_nIndex, ↓u_mLm, ↓u_nAppend, ↓u_nIndexL, ↓u_mDisp, ↓u_sFldAugN, ↓u_nSub, ↓u_nMul, ↓u_nDiv, ↓u_nMod, ↓u_nPow, ↓u_nLt, ↓u_nLe, ↓u_nGt, ↓u_nGe, ↓u_nIn, ↓nth, ↓startN, ↓mPairs, ↓u_mLc, u_nwipe0, u_nwipe1, ↓u_mYes, ↓u_iWalk, ↓u_nWalkA, ↓u_iRg1, ↓u_iRg2, ↓u_nLstAt, ↓u_iEnumN, ↓u_iZipN, ↓u_iZipW, ↓u_sForI, ↓u_nSum, ↓u_nAll, ↓u_nMaxL, ↓u_nIsC, ↓u_nRevP, u_nMax1L, u_nMax1T, u_nSum1T, u_nSum1L, u_nMinT, ↓u_sPar, lstOf, lenD, seqOf, dicOf, keyD, isNonD, eqT_ii, eqT_ss, eqT_bb, eqT_nn, eqT_ni, eqT_in, eqT_nb, eqT_bn, eqT_ns, eqT_sn, eqT_is, eqT_si, Nat.zero_add, Nat.reduceAdd, Nat.zero_le, sl_0, sm_0, sl_1, sm_1, sl_2, sm_2, sl_3, sm_3, sl_4, sm_4, sl_5, sm_5, sl_6, sm_6, sl_7, sm_7, sl_8, sm_8, sl_9, sm_9, sl_10, sm_10, sl_11, sm_11, sl_12, sm_12, List.set_cons_zero, List.set_cons_succ, List.map_cons, List.map_nil, List.length_cons, List.length_nil, true_and, $args,*])
local macro_rules | `(tactic| simp_arith! [$args,*]) => `(tactic| simp -implicitDefEqProofs only [u_runF, u_spOf, $args,*])
/-! ### makers -/
inductive Kd where | pr | st | su
structure Mk where
  k : Kd
  s : Int
  c : Int
  t : Int
  b : Int
  x : Int
  y : Int
def Mk.more (m : Mk) : List D := match m.k with
  | .pr => []
  | _ => [.tup [.int m.x, .int m.y]]
def Mk.word (m : Mk) : Str := match m.k with
  | .pr => "product"
  | .st => "stretch"
  | .su => "sum"
def Mk.cn (m : Mk) : Str := match m.k with
  | .pr => "Product"
  | .st => "Stretch"
  | .su => "Sum"
def Mk.d (m : Mk) : D := .tup (.str m.word :: .int m.s :: .int m.c :: .tup [.int m.t, .int m.b] :: m.more)
/-- a due -/
structure Due (t b : Int) : Prop where
  t0 : 0 ≤ t
  b1 : 1 ≤ b
  b2 : b ≤ 10000
  tb : 10 * t ≤ b
structure Mk.Ok (m : Mk) : Prop where
  s0 : 0 ≤ m.s
  s1 : m.s ≤ 1000000000000
  c0 : 0 ≤ m.c
  c1 : m.c ≤ 1000000000000
  due : Due m.t m.b
  pr : m.k = .pr → 1 ≤ m.s ∧ 1 ≤ m.c
  st : m.k = .st → 0 ≤ m.x ∧ m.x ≤ 1000000000000 ∧ 0 ≤ m.y ∧ m.y ≤ 1000000000000 ∧ 1 ≤ m.s + m.x ∧ 1 ≤ m.c + m.y
  su : m.k = .su → 1 ≤ m.x ∧ m.x ≤ 1000000 ∧ 1 ≤ m.y ∧ m.y ≤ 1000000
theorem is_whole_int {i : Int} {S : Sto} {Q : NQ} {E} {T : TgQ Q E} : runF sp_is_whole [.int i] S Q E T = Q (.bl true) S := by
  simp_arith! [sp_is_whole, m_is_whole]
  simp_arith [↓isi_int_int, ↓isi_int_bool]
  rfl
theorem is_among_int {i a b : Int} {S : Sto} {Q : NQ} {E} {T : TgQ Q E} : runF sp_is_among [.int i, .int a, .int b] S Q E T = Q (.bl (decide (a ≤ i) && decide (i ≤ b))) S := by
  simp_arith! [sp_is_among, m_is_among]
  simp_arith [↓is_whole_int, true_and]
  cases decide (a ≤ i) <;> rfl
theorem is_pair_int {i j a b : Int} {S : Sto} {Q : NQ} {E} {T : TgQ Q E} : runF sp_is_pair [.tup [.int i, .int j], .int a, .int b] S Q E T = Q (.bl ((decide (a ≤ i) && decide (i ≤ b)) && (decide (a ≤ j) && decide (j ≤ b)))) S := by
  simp_arith! [sp_is_pair, m_is_pair]
  simp_arith [↓isi_tup_tuple, ↓is_among_int, true_and, Bool.not_true, ↓atI_0, ↓atI_1, Nat.zero_add, Nat.reduceAdd, Int.cast_ofNat_Int, decide_true]
  generalize (decide (a ≤ i) && decide (i ≤ b)) = u
  cases u
  · rfl
  · rfl
theorem is_due_int {t b : Int} {S : Sto} {Q : NQ} {E} {T : TgQ Q E} : runF sp_is_due [.tup [.int t, .int b]] S Q E T = Q (.bl (((decide (0 ≤ t) && decide (t ≤ 10000)) && (decide (0 ≤ b) && decide (b ≤ 10000))) && (decide (1 ≤ b) && decide (10 * t ≤ b)))) S := by
  simp_arith! [sp_is_due, m_is_due]
  simp_arith [↓is_pair_int, true_and, ↓atI_0, ↓atI_1]
  have hm : MulOk 10 t := .inl (by decide)
  simp only [hm, true_and]
  cases (decide (0 ≤ t) && decide (t ≤ 10000)) <;> cases (decide (0 ≤ b) && decide (b ≤ 10000)) <;> cases decide (1 ≤ b) <;> rfl
theorem is_due_ok {t b : Int} (h : Due t b) {S : Sto} {Q : NQ} {E} {T : TgQ Q E} : runF sp_is_due [.tup [.int t, .int b]] S Q E T = Q (.bl true) S := by
  rw [is_due_int]
  obtain ⟨h1, h2, h3, h4⟩ := h
  have e1 : 0 ≤ b := by omega
  have e2 : t ≤ 10000 := by omega
  simp only [h1, h2, h3, h4, e1, e2, decide_true, Bool.and_self]
theorem is_plain_ok {m : Mk} (h : m.Ok) {S : Sto} {Q : NQ} {E} {T : TgQ Q E} : runF sp_is_plain [m.d] S Q E T = Q (.bl true) S := by
  obtain ⟨s0, s1, c0, c1, du, hp, hs, hu⟩ := h
  obtain ⟨k, s, c, t, b, x, y⟩ := m
  dsimp only at *
  simp_arith! [sp_is_plain, m_is_plain]
  unfold Mk.d
  cases k with
  | pr =>
    obtain ⟨h1, h2⟩ := hp rfl
    simp_arith [Mk.more, Mk.word, ↓isi_tup_tuple, ↓isi_str_str, ↓is_due_ok du, ↓is_pair_int, true_and, Bool.not_true, ↓atI_0, ↓atI_1, ↓atI_2, ↓atI_3, ↓atI_4, ↓cut_13, ofString_inj, decide_true, s0, s1, c0, c1, h1, h2, Bool.and_self, Nat.zero_add, Nat.reduceAdd, Int.cast_ofNat_Int, Int.reduceLE, Int.reduceEq, decide_false, Bool.not_false]
  | st =>
    obtain ⟨h1, h2, h3, h4, h5, h6⟩ := hs rfl
    have n1 : ("stretch" = "product") = False := by decide
    have n2 : ("stretch" = "sum") = False := by decide
    simp_arith [Mk.more, Mk.word, ↓isi_tup_tuple, ↓isi_str_str, ↓is_due_ok du, ↓is_pair_int, true_and, Bool.not_true, ↓atI_0, ↓atI_1, ↓atI_2, ↓atI_3, ↓atI_4, ↓cut_13, ofString_inj, decide_true, s0, s1, c0, c1, h1, h2, h3, h4, h5, h6, n1, n2, Bool.and_self, Nat.zero_add, Nat.reduceAdd, Int.cast_ofNat_Int, Int.reduceLE, Int.reduceEq, decide_false, Bool.not_false]
  | su =>
    obtain ⟨h1, h2, h3, h4⟩ := hu rfl
    have n1 : ("sum" = "product") = False := by decide
    simp_arith [Mk.more, Mk.word, ↓isi_tup_tuple, ↓isi_str_str, ↓is_due_ok du, ↓is_pair_int, true_and, Bool.not_true, ↓atI_0, ↓atI_1, ↓atI_2, ↓atI_3, ↓atI_4, ↓cut_13, ofString_inj, decide_true, s0, s1, c0, c1, h1, h2, h3, h4, n1, Bool.and_self, Nat.zero_add, Nat.reduceAdd, Int.cast_ofNat_Int, Int.reduceLE, Int.reduceEq, decide_false, Bool.not_false]

/-! ### wares -/
def wr (side : Int) : Str := if side = 0 then "salt" else "cloth"
theorem need_ware_ok {i : Int} (h : i = 0 ∨ i = 1) {S : Sto} {Q : NQ} {E} {T : TgQ Q E} : runF sp_need_ware [.str (wr i)] S Q E T = Q (.int i) S := by
  simp_arith! [sp_need_ware, m_need_ware]
  unfold wr c_WARES
  rcases h with rfl | rfl
  · simp_arith [↓isi_str_str, if_pos, Bool.not_true, flatD, eqF, List.all_cons, List.all_nil, List.any_cons, List.any_nil, ofString_beq, true_and, Bool.and_self, List.findIdx?_cons, ofString_inj, decide_true, if_true, beq_self_eq_true, Bool.true_or]
    rfl
  · have n1 : ((1 : Int) = 0) = False := by decide
    have n2 : ("salt" = "cloth") = False := by decide
    have n3 : ("salt" == "cloth") = false := by decide
    simp_arith [↓isi_str_str, n1, n2, n3, if_false, Bool.not_true, flatD, eqF, List.all_cons, List.all_nil, List.any_cons, List.any_nil, ofString_beq, true_and, Bool.and_self, List.findIdx?_cons, ofString_inj, decide_true, decide_false, if_true, beq_self_eq_true, Bool.true_or, Bool.or_true, Bool.false_or]
    rfl
theorem need_count_ok {i : Int} (h : 1 ≤ i) {S : Sto} {Q : NQ} {E} {T : TgQ Q E} : runF sp_need_count [.int i] S Q E T = Q .non S := by
  simp_arith! [sp_need_count, m_need_count]
  have e : decide (i < 1) = false := decide_eq_false (by omega)
  simp_arith [↓is_whole_int, true_and, Bool.not_true, e]
/-! ### a maker at its address -/
@[irreducible] def mFs (m : Mk) (q : Addr) : List (Str × D) := [("stock", .ref q), ("due", .tup [.int m.t, .int m.b]), ("more", .tup m.more), ("rest", .int (m.b - m.t)), ("parts", .int m.b)]
theorem mFs_stock {m : Mk} {q : Addr} : (mFs m q).lookup ("stock" : Str) = some (.ref q) := by unfold mFs; simp [List.lookup, ofString_beq]
theorem mFs_due {m : Mk} {q : Addr} : (mFs m q).lookup ("due" : Str) = some (.tup [.int m.t, .int m.b]) := by unfold mFs; simp [List.lookup, ofString_beq]
theorem mFs_more {m : Mk} {q : Addr} : (mFs m q).lookup ("more" : Str) = some (.tup m.more) := by unfold mFs; simp [List.lookup, ofString_beq]
theorem mFs_rest {m : Mk} {q : Addr} : (mFs m q).lookup ("rest" : Str) = some (.int (m.b - m.t)) := by unfold mFs; simp [List.lookup, ofString_beq]
theorem mFs_parts {m : Mk} {q : Addr} : (mFs m q).lookup ("parts" : Str) = some (.int m.b) := by unfold mFs; simp [List.lookup, ofString_beq]
theorem mFs_no {m : Mk} {q : Addr} {f : String} (h : f ≠ "stock" ∧ f ≠ "due" ∧ f ≠ "more" ∧ f ≠ "rest" ∧ f ≠ "parts") : (mFs m q).lookup (f : Str) = none := by
  obtain ⟨h1, h2, h3, h4, h5⟩ := h
  have h1 := beq_eq_false_iff_ne.mpr h1
  have h2 := beq_eq_false_iff_ne.mpr h2
  have h3 := beq_eq_false_iff_ne.mpr h3
  have h4 := beq_eq_false_iff_ne.mpr h4
  have h5 := beq_eq_false_iff_ne.mpr h5
  unfold mFs; simp only [List.lookup, ofString_beq, h1, h2, h3, h4, h5]
structure MkAt (p q : Addr) (m : Mk) (S : Sto) : Prop where
  ins : S p = some (.ins m.cn (mFs m q))
  lst : S q = some (.lst [.int m.s, .int m.c])
  ne : p ≠ q
theorem MkAt.up {p q : Addr} {m : Mk} {S S' : Sto} {A : List Addr} (h : MkAt p q m S) (u : Upd A S S') (hp : p ∉ A) (hq : q ∉ A) : MkAt p q m S' := ⟨u p _ hp h.ins, u q _ hq h.lst, h.ne⟩
def Mk.stk (m : Mk) (i : Int) : Int := if i = 0 then m.s else m.c
def Mk.px (m : Mk) : Int := match m.k with | .st => m.x | _ => 0
def Mk.py (m : Mk) : Int := match m.k with | .st => m.y | _ => 0
def Mk.gr (m : Mk) (i : Int) : Int := if i = 0 then m.s + m.px else m.c + m.py
def Mk.rt (m : Mk) (i : Int) : Int := if i = 0 then m.x else m.y
def Mk.got (m : Mk) (i n : Int) : Int := match m.k with
  | .su => n * (m.b - m.t) * m.rt (1 - i) / (m.b * m.rt i)
  | _ => m.gr (1 - i) * (n * (m.b - m.t)) / (m.gr i * m.b + n * (m.b - m.t))
def mn (a b : Int) : Int := if b < a then b else a
def Mk.comes (m : Mk) (i n : Int) : Int := mn (m.got i n) (m.stk (1 - i))
def Mk.deal (m : Mk) (i n : Int) : Mk := if i = 0 then { m with s := m.s + n, c := m.c - m.comes 0 n } else { m with c := m.c + n, s := m.s - m.comes 1 n }
def Sd (i : Int) : Prop := i = 0 ∨ i = 1
theorem at_sd {α : Type} {x y : α} {i : Int} (h : Sd i) : atI [x, y] i = some (if i = 0 then x else y) := by rcases h with rfl | rfl <;> rfl
theorem at_sd' {α : Type} {x y : α} {i : Int} (h : Sd i) : atI [x, y] (1 - i) = some (if 1 - i = 0 then x else y) := by rcases h with rfl | rfl <;> rfl
theorem int_if {c : Prop} [Decidable c] {x y : Int} : (if c then D.int x else D.int y) = D.int (if c then x else y) := by split <;> rfl
theorem haves_ok {p q : Addr} {m : Mk} {S : Sto} {Q : NQ} {E} {T : TgQ Q E} (h : MkAt p q m S) : runF sp_Maker_haves [.ref p] S Q E T = Q (.tup [.int m.s, .int m.c]) S := by
  simp_arith! [sp_Maker_haves, m_Maker_haves]
  simp_arith [h.ins, h.lst, mFs_stock, atI_0, atI_1]
theorem propped_ok {p q : Addr} {m : Mk} {S : Sto} {Q : NQ} {E} {T : TgQ Q E} (h : MkAt p q m S) (hk : m.k = .st) : runF sp_Stretch_propped [.ref p] S Q E T = Q (.tup [.int (m.s + m.px), .int (m.c + m.py)]) S := by
  simp_arith! [sp_Stretch_propped, m_Stretch_propped]
  have e1 : m.more = [.tup [.int m.x, .int m.y]] := by unfold Mk.more; rw [hk]
  have e2 : m.px = m.x := by unfold Mk.px; rw [hk]
  have e3 : m.py = m.y := by unfold Mk.py; rw [hk]
  simp_arith [h.ins, h.lst, mFs_stock, mFs_more, e1, e2, e3, atI_0, atI_1]
/-- what a deal asks for -/
structure Ask0 (m : Mk) (i n : Int) : Prop where
  ok : m.Ok
  sd : Sd i
  n1 : 1 ≤ n
  n2 : n ≤ 100000000000000
structure Asks (m : Mk) (i n : Int) : Prop extends Ask0 m i n where
  top : m.stk i + n ≤ 1000000000000
theorem Mk.Ok.px {m : Mk} (h : m.Ok) : 0 ≤ m.px ∧ m.px ≤ 1000000000000 ∧ 0 ≤ m.py ∧ m.py ≤ 1000000000000 := by
  have := h.st
  obtain ⟨k, s, c, t, b, x, y⟩ := m
  cases k
  · refine ⟨Int.le_refl _, ?_, Int.le_refl _, ?_⟩ <;> exact (by decide : (0 : Int) ≤ 1000000000000)
  · obtain ⟨h1, h2, h3, h4, _⟩ := this rfl
    exact ⟨h1, h2, h3, h4⟩
  · refine ⟨Int.le_refl _, ?_, Int.le_refl _, ?_⟩ <;> exact (by decide : (0 : Int) ≤ 1000000000000)
theorem Mk.Ok.gr {m : Mk} (h : m.Ok) (i : Int) : 0 ≤ m.gr i ∧ m.gr i ≤ 2000000000000 := by
  have h1 := h.s0; have h2 := h.s1; have h3 := h.c0; have h4 := h.c1; have h5 := h.px
  unfold Mk.gr
  split <;> omega
theorem Ask0.den {m : Mk} {i n : Int} (h : Ask0 m i n) : 0 < m.gr i * m.b + n * (m.b - m.t) ∧ m.gr i * m.b + n * (m.b - m.t) < 2 ^ 64 ∧ 0 ≤ n * (m.b - m.t) ∧ n * (m.b - m.t) ≤ 1000000000000000000 := by
  have g := h.ok.gr i
  have n1 := h.n1; have n2 := h.n2
  obtain ⟨t0, b1, b2, tb⟩ := h.ok.due
  have r1 : 1 ≤ m.b - m.t := by omega
  have r2 : m.b - m.t ≤ 10000 := by omega
  have a1 : 1 * 1 ≤ n * (m.b - m.t) := Int.mul_le_mul n1 r1 (by decide) (by omega)
  have a2 : n * (m.b - m.t) ≤ 100000000000000 * 10000 := Int.mul_le_mul n2 r2 (by omega) (by decide)
  have a3 : 0 ≤ m.gr i * m.b := Int.mul_nonneg g.1 (by omega)
  have a4 : m.gr i * m.b ≤ 2000000000000 * 10000 := Int.mul_le_mul g.2 b2 (by omega) (by decide)
  omega
theorem prod_ok {p q : Addr} {m : Mk} {i n : Int} {S : Sto} {Q : NQ} {E} {T : TgQ Q E} (h : MkAt p q m S) (a : Asks m i n) : runF sp_product_coming [.ref p, .tup [.int (m.s + m.px), .int (m.c + m.py)], .int i, .int n] S Q E T = Q (.int (m.gr (1 - i) * (n * (m.b - m.t)) / (m.gr i * m.b + n * (m.b - m.t)))) S := by
  simp_arith! [sp_product_coming, m_product_coming]
  obtain ⟨t0, b1, b2, tb⟩ := a.ok.due
  have d := a.den
  have n1 := a.n1; have n2 := a.n2
  have e1 : N.MulOk n (m.b - m.t) := mul_ok_l (by omega) (by omega)
  have e2 : N.MulOk (m.gr (1 - i)) (n * (m.b - m.t)) := mul_ok_r (by omega) (by omega)
  have e3 : N.MulOk (m.gr i) m.b := mul_ok_r (by omega) (by omega)
  have e4 : DivOk (m.gr (1 - i) * (n * (m.b - m.t))) (m.gr i * m.b + n * (m.b - m.t)) := div_ok d.1 d.2.1
  have f1 : atI [D.int (m.s + m.px), D.int (m.c + m.py)] i = some (.int (m.gr i)) := by rw [at_sd a.sd, int_if]; rfl
  have f2 : atI [D.int (m.s + m.px), D.int (m.c + m.py)] (1 - i) = some (.int (m.gr (1 - i))) := by rw [at_sd' a.sd, int_if]; rfl
  simp_arith [h.ins, mFs_rest, mFs_parts, e1, e2, e3, e4, f1, f2]
/-! #### the methods by kind -/
theorem cn_pr {m : Mk} (h : m.k = .pr) : m.cn = "Product" := by unfold Mk.cn; rw [h]
theorem cn_st {m : Mk} (h : m.k = .st) : m.cn = "Stretch" := by unfold Mk.cn; rw [h]
theorem cn_su {m : Mk} (h : m.k = .su) : m.cn = "Sum" := by unfold Mk.cn; rw [h]
theorem mt_haves {m : Mk} : mt_Maker_haves m.cn = some (1, sp_Maker_haves) := by
  obtain ⟨k, s, c, t, b, x, y⟩ := m
  cases k <;> simp [Mk.cn, mt_Maker_haves, ofString_inj]
theorem mt_propped : mt_Maker_propped "Stretch" = some (1, sp_Stretch_propped) := by simp [mt_Maker_propped]
def Mk.fc (m : Mk) : NSp := match m.k with | .pr => sp_Product_coming | .st => sp_Stretch_coming | .su => sp_Sum_coming
theorem mt_coming {m : Mk} : mt_Maker_coming m.cn = some (3, m.fc) := by
  obtain ⟨k, s, c, t, b, x, y⟩ := m
  cases k <;> simp [Mk.cn, Mk.fc, mt_Maker_coming, ofString_inj]
theorem mt_is_dealt {m : Mk} : mt_Maker_is_dealt m.cn = some (3, sp_Maker_is_dealt) := by
  obtain ⟨k, s, c, t, b, x, y⟩ := m
  cases k <;> simp [Mk.cn, mt_Maker_is_dealt, ofString_inj]
theorem mt_told {m : Mk} : mt_Maker_told m.cn = some (3, sp_Maker_told) := by
  obtain ⟨k, s, c, t, b, x, y⟩ := m
  cases k <;> simp [Mk.cn, mt_Maker_told, ofString_inj]
theorem coming_ok {p q : Addr} {m : Mk} {i n : Int} {S : Sto} {Q : NQ} {E} {T : TgQ Q E} (h : MkAt p q m S) (a : Asks m i n) : runF m.fc [.ref p, .int i, .int n] S Q E T = Q (.int (m.got i n)) S := by
  have key : ∀ k, m.k = k → runF m.fc [.ref p, .int i, .int n] S Q E T = Q (.int (m.got i n)) S := by
    intro k hk
    cases k with
    | pr =>
      have e1 : m.px = 0 := by unfold Mk.px; rw [hk]
      have e2 : m.py = 0 := by unfold Mk.py; rw [hk]
      have e3 := @prod_ok p q m i n S
      simp only [e1, e2, Int.add_zero] at e3
      have e4 : m.got i n = m.gr (1 - i) * (n * (m.b - m.t)) / (m.gr i * m.b + n * (m.b - m.t)) := by unfold Mk.got; rw [hk]
      have e5 : m.fc = sp_Product_coming := by unfold Mk.fc; rw [hk]
      rw [e4, e5]
      simp_arith! [sp_Product_coming, m_Product_coming]
      simp_arith [h.ins, mt_haves, haves_ok h, e3 h a, mFs_no (m := m) (q := q) (f := "haves") (by decide)]
    | st =>
      have e4 : m.got i n = m.gr (1 - i) * (n * (m.b - m.t)) / (m.gr i * m.b + n * (m.b - m.t)) := by unfold Mk.got; rw [hk]
      have e5 : m.fc = sp_Stretch_coming := by unfold Mk.fc; rw [hk]
      rw [e4, e5]
      simp_arith! [sp_Stretch_coming, m_Stretch_coming]
      simp_arith [h.ins, cn_st hk, mt_propped, propped_ok h hk, prod_ok h a, mFs_no (m := m) (q := q) (f := "propped") (by decide)]
    | su =>
      have e4 : m.got i n = n * (m.b - m.t) * m.rt (1 - i) / (m.b * m.rt i) := by unfold Mk.got; rw [hk]
      have e5 : m.fc = sp_Sum_coming := by unfold Mk.fc; rw [hk]
      rw [e4, e5]
      have e6 : m.more = [.tup [.int m.x, .int m.y]] := by unfold Mk.more; rw [hk]
      have f1 : atI [D.int m.x, D.int m.y] i = some (.int (m.rt i)) := by rw [at_sd a.sd, int_if]; rfl
      have f2 : atI [D.int m.x, D.int m.y] (1 - i) = some (.int (m.rt (1 - i))) := by rw [at_sd' a.sd, int_if]; rfl
      obtain ⟨t0, b1, b2, tb⟩ := a.ok.due
      obtain ⟨x0, x1, y0, y1⟩ := a.ok.su hk
      have r : ∀ i, 1 ≤ m.rt i ∧ m.rt i ≤ 1000000 := by intro i; unfold Mk.rt; split <;> omega
      have n1 := a.n1; have n2 := a.n2
      have d1 : 1 * 1 ≤ m.b * m.rt i := Int.mul_le_mul b1 (r i).1 (by decide) (by omega)
      have d2 : m.b * m.rt i ≤ 10000 * 1000000 := Int.mul_le_mul b2 (r i).2 (by have := (r i).1; omega) (by decide)
      have g1 : N.MulOk n (m.b - m.t) := mul_ok_l (by omega) (by omega)
      have g2 : N.MulOk (n * (m.b - m.t)) (m.rt (1 - i)) := mul_ok_r (by have := (r (1 - i)).1; omega) (by have := (r (1 - i)).2; omega)
      have g3 : N.MulOk m.b (m.rt i) := mul_ok_l (by omega) (by omega)
      have g4 : DivOk (n * (m.b - m.t) * m.rt (1 - i)) (m.b * m.rt i) := div_ok (by omega) (by omega)
      simp_arith! [sp_Sum_coming, m_Sum_coming]
      simp_arith [h.ins, mFs_more, mFs_rest, mFs_parts, e6, atI_0, f1, f2, g1, g2, g3, g4]
  exact key _ rfl
theorem is_dealt_ok {p q : Addr} {m : Mk} {i n : Int} {S : Sto} {Q : NQ} {E} {T : TgQ Q E} (h : MkAt p q m S) (hs : Sd i) : runF sp_Maker_is_dealt [.ref p, .int i, .int n] S Q E T = Q (.bl (decide (m.stk i + n ≤ 1000000000000))) S := by
  simp_arith! [sp_Maker_is_dealt, m_Maker_is_dealt]
  have f1 : atI [D.int m.s, D.int m.c] i = some (.int (m.stk i)) := by rw [at_sd hs, int_if]; rfl
  simp_arith [h.ins, h.lst, mFs_stock, f1]
theorem told_ok {p q : Addr} {m : Mk} {i n : Int} {S : Sto} {Q : NQ} {E} {T : TgQ Q E} (h : MkAt p q m S) (a : Asks m i n) : runF sp_Maker_told [.ref p, .str (wr i), .int n] S Q E T = Q (.int (m.comes i n)) S := by
  simp_arith! [sp_Maker_told, m_Maker_told]
  have f2 : atI [D.int m.s, D.int m.c] (1 - i) = some (.int (m.stk (1 - i))) := by rw [at_sd' a.sd, int_if]; rfl
  have f3 : decide (m.stk i + n ≤ 1000000000000) = true := decide_eq_true a.top
  simp_arith [need_ware_ok a.sd, need_count_ok a.n1, h.ins, h.lst, mFs_stock, mt_is_dealt, mt_coming, is_dealt_ok h a.sd, f3, coming_ok h a, f2, mFs_no (m := m) (q := q) (f := "is_dealt") (by decide), mFs_no (m := m) (q := q) (f := "coming") (by decide), Bool.not_true]
  rfl
theorem deal_fs {m : Mk} {i n : Int} {q : Addr} : mFs (m.deal i n) q = mFs m q := by
  unfold Mk.deal
  by_cases hi : i = 0
  · rw [if_pos hi]; unfold mFs Mk.more; rfl
  · rw [if_neg hi]; unfold mFs Mk.more; rfl
theorem deal_cn {m : Mk} {i n : Int} : (m.deal i n).cn = m.cn := by
  unfold Mk.deal
  by_cases hi : i = 0
  · rw [if_pos hi]; rfl
  · rw [if_neg hi]; rfl
/-! ### the tuple of a maker -/
theorem eqT_d {m : Mk} {S : Sto} : eqT S m.d m.d = some true := by
  obtain ⟨k, s, c, t, b, x, y⟩ := m
  cases k
  · exact eqT_tup (ps := [.str "product", .int s, .int c, .tuple [.int t, .int b]]) rfl (by simp [PyData.canLayAll0, PyData.canLay0, str_ok]) (by simp [PyData.depthAll, PyData.depth])
  · exact eqT_tup (ps := [.str "stretch", .int s, .int c, .tuple [.int t, .int b], .tuple [.int x, .int y]]) rfl (by simp [PyData.canLayAll0, PyData.canLay0, str_ok]) (by simp [PyData.depthAll, PyData.depth])
  · exact eqT_tup (ps := [.str "sum", .int s, .int c, .tuple [.int t, .int b], .tuple [.int x, .int y]]) rfl (by simp [PyData.canLayAll0, PyData.canLay0, str_ok]) (by simp [PyData.depthAll, PyData.depth])
def Mk.fn (m : Mk) : NSp := match m.k with | .pr => sp_Maker_called | .st => sp_Stretch_called | .su => sp_Sum_called
theorem mt_called {m : Mk} : mt_Maker_called m.cn = some (1, m.fn) := by
  obtain ⟨k, s, c, t, b, x, y⟩ := m
  cases k <;> simp [Mk.cn, Mk.fn, mt_Maker_called, ofString_inj]
theorem called_ok {p : Addr} {m : Mk} {S : Sto} {Q : NQ} {E} {T : TgQ Q E} : runF m.fn [.ref p] S Q E T = Q (.str m.word) S := by
  obtain ⟨k, s, c, t, b, x, y⟩ := m
  cases k
  · show runF sp_Maker_called [.ref p] S Q E T = Q (.str "product") S
    simp_arith! [sp_Maker_called, m_Maker_called]
    simp_arith []
  · show runF sp_Stretch_called [.ref p] S Q E T = Q (.str "stretch") S
    simp_arith! [sp_Stretch_called, m_Stretch_called]
    simp_arith []
  · show runF sp_Sum_called [.ref p] S Q E T = Q (.str "sum") S
    simp_arith! [sp_Sum_called, m_Sum_called]
    simp_arith []
theorem mt_plain {m : Mk} : mt_Maker_plain m.cn = some (1, sp_Maker_plain) := by
  obtain ⟨k, s, c, t, b, x, y⟩ := m
  cases k <;> simp [Mk.cn, mt_Maker_plain, ofString_inj]
theorem more_len {m : Mk} : ((0 + 1 + 1 + 1 + 1 + m.more.length ≤ sizeLine) = True) := by
  refine eq_true ?_
  have : m.more.length ≤ 1 := by unfold Mk.more; split <;> simp
  have : (5 : Nat) ≤ sizeLine := by decide
  omega
theorem get_plain_ok {p q : Addr} {m : Mk} {S : Sto} {Q : NQ} {E} {T : TgQ Q E} (h : MkAt p q m S) : runF sp_Maker_plain [.ref p] S Q E T = Q m.d S := by
  simp_arith! [sp_Maker_plain, m_Maker_plain]
  unfold Mk.d
  have := @more_len m
  simp only [Nat.zero_add, Nat.reduceAdd] at this
  simp_arith [h.ins, h.lst, mt_called, called_ok, mFs_stock, mFs_due, mFs_more, atI_0, atI_1, mFs_no (m := m) (q := q) (f := "called") (by decide), List.cons_append, List.nil_append, this]
/-! ### numbers drawn -/
theorem mixed_ok {c k : Int} (h0 : 0 ≤ k) (h1 : k < 1000) {S : Sto} {Q : NQ} {E} {T : TgQ Q E} (h : ∀ v, 0 ≤ v → v < 2147483647 → Q (.int v) S) : runF sp__law_mixed [.int c, .int k] S Q E T := by
  simp_arith! [sp__law_mixed, m__law_mixed]
  have e1 : N.MulOk 2 k := .inl (by decide)
  have e2 : N.MulOk (2 * k) k := .inl (by omega)
  have e3 : 0 ≤ k * k ∧ k * k < 1000000 := ⟨Int.mul_nonneg h0 h0, by have := Int.mul_le_mul (by omega : k ≤ 999) (by omega : k ≤ 999) h0 (by omega : (0 : Int) ≤ 999); omega⟩
  have e4 : 2 * k * k = 2 * (k * k) := Int.mul_assoc _ _ _
  have e5 : N.MulOk c (48271 + 2 * k * k) := .inr (.inl (by omega))
  have e6 : N.MulOk 69621 k := .inl (by decide)
  have e7 : ∀ z, N.MulOk z 69621 := fun z => .inr (.inl (by decide))
  have e8 : (0 : Int) < 2147483647 := by decide
  have e9 : (0 : Int) < 2147483629 := by decide
  simp_arith [e1, e2, e5, e6, e7, e8, e9, true_and]
  have := mod_lt (i := (c * (48271 + 2 * k * k) + 69621 * k + 11) % 2147483647 * 69621) e9
  exact h _ this.1 (by omega)
theorem next_ok {a b : Addr} {ns : List Int} {S : Sto} {Q : NQ} {E} {T : TgQ Q E} (h : LSt a b ns S) (k : ∀ v S', 0 ≤ v → v < 2147483647 → LSt a b ns S' → Upd [a, b] S S' → Q (.int v) S') : runF sp__law_next [.ref a] S Q E T := by
  obtain ⟨ab, n, ls, h1, h2, h3⟩ := h
  simp_arith! [sp__law_next, m__law_next]
  have e0 : N.MulOk 7919 (n + 1) := .inl (by decide)
  have e1 : (0 : Int) < 1000 := by decide
  have m1 := mod_lt (i := n + 1) e1
  have e2 : (0 : Int) < 2147483647 := by decide
  have e3 : (0 : Int) < 2 := by decide
  have hb : ∀ o, put S a o b = S b := fun o => put_ne (Ne.symm ab)
  simp_arith [h1, put_same, stD_cells, stD_at, stD_left, stD_put, stD_len, true_and, Nat.zero_le]
  intro p hp
  have pa : p ≠ a := fun z => by rw [z, put_same] at hp; cases hp
  have pb : p ≠ b := fun z => by rw [z, hb, h2] at hp; cases hp
  have ua : Upd [a, b] S (put S a (.dic (stD (ns.map D.int) b (n + 1)))) := Upd.at (by simp)
  have u1 := ua.trans (Upd.new (A := [a, b]) (o := .lst []) hp)
  have la : ∀ o, put (put S a o) p (.lst []) a = some o := fun o => by rw [put_ne (Ne.symm pa), put_same]
  have lb : ∀ o, put (put S a o) p (.lst []) b = some (.lst (ls.map D.int)) := fun o => by rw [put_ne (Ne.symm pb), hb, h2]
  have L1 : LSt a b ns (put (put S a (.dic (stD (ns.map D.int) b (n + 1)))) p (.lst [])) := ⟨ab, n + 1, ls, la _, lb _, h3⟩
  rw [eqT_rol_nil put_same]
  by_cases hn : ns = []
  · simp_arith [hn, decide_true, e0, e1, true_and]
    subst hn
    exact mixed_ok m1.1 m1.2 fun v v0 v1 => k v _ v0 v1 L1 u1
  have hl : (0 : Int) < ns.length := by
    cases ns with
    | nil => exact absurd rfl hn
    | cons _ _ => simp only [List.length_cons]; omega
  have mi := mod_lt (i := n + 1) hl
  obtain ⟨v0, f1, -⟩ := idx_some (ns := ns) (i := 0) (by decide) hl
  obtain ⟨v1, f2, -⟩ := idx_some mi.1 mi.2
  obtain ⟨v2, f3, f4⟩ := idx_some (ns := ls) mi.1 (by omega)
  simp_arith [hn, decide_false, la, lb, stD_cells, stD_at, stD_left, List.length_map, hl, true_and, f1, f2, f3, e0, e1, e2, e3, flatD, eqF, List.all_cons, List.all_nil, List.any_cons, List.any_nil, Bool.and_self, Bool.or_false]
  have last : ∀ S', LSt a b ns S' → Upd [a, b] S S' → runF sp__law_mixed [D.int (v1 + 7919 * (n + 1)), D.int ((n + 1) % 1000)] S' Q E T := fun S' l u => mixed_ok m1.1 m1.2 fun v v0 v1 => k v _ v0 v1 l u
  cases decide (v0 % 2 = 1)
  · simp_arith [la, lb, stD_cells, stD_at, stD_left, List.length_map, hl, true_and, f1, f2, f3, e0, e1]
    exact last _ L1 u1
  · simp_arith [la, lb, stD_cells, stD_at, stD_left, List.length_map, hl, true_and, f1, f2, f3, e0, e1]
    cases (!((0 : Int) == v2 || -1 == v2))
    · simp_arith [la, lb, stD_cells, stD_at, stD_left, List.length_map, hl, true_and, f1, f2, f3, e0, e1]
      exact last _ L1 u1
    · have d1 : DivOk v2 2147483647 := div_ok (by decide) (by decide)
      simp_arith [la, lb, stD_cells, stD_at, stD_left, List.length_map, hl, true_and, f1, f2, f3, e0, e1, e2, d1]
      have hx : ixN ls.length ((n + 1) % ns.length) = some ((n + 1) % ns.length).toNat := ixN_in mi.1 (by omega)
      obtain ⟨ls', g1, g2⟩ := f4 (v2 / 2147483647)
      simp only [hx, g1]
      have mv := mod_lt (i := v2) e2
      refine k _ _ mv.1 mv.2 ⟨ab, n + 1, ls', ?_, put_same, by omega⟩ (u1.trans (Upd.at (by simp)))
      rw [put_ne ab]; exact la _
structure Dr (a b : Addr) (ns : List Int) (S S' : Sto) : Prop where
  l : LSt a b ns S'
  u : Upd [a, b] S S'
theorem Dr.trans {a b : Addr} {ns : List Int} {S S1 S2 : Sto} (h : Dr a b ns S S1) (k : Dr a b ns S1 S2) : Dr a b ns S S2 := ⟨k.l, h.u.trans k.u⟩
theorem Dr.new {a b : Addr} {ns : List Int} {S S1 : Sto} {p : Addr} {o : Ob} (h : Dr a b ns S S1) (hp : S1 p = none) : Dr a b ns S (put S1 p o) := ⟨h.l.up (A := []) (Upd.new hp) (by simp) (by simp), h.u.trans (Upd.new hp)⟩
theorem nx_ok {a b : Addr} {ns : List Int} {S0 S : Sto} {Q : NQ} {E} {T : TgQ Q E} (h : Dr a b ns S0 S) (k : ∀ v S', 0 ≤ v → v < 2147483647 → Dr a b ns S0 S' → Q (.int v) S') : runF sp__law_next [.ref a] S Q E T := next_ok h.l fun v S' v0 v1 l u => k v S' v0 v1 (h.trans ⟨l, u⟩)
theorem great_ok {a b : Addr} {ns : List Int} {S0 S : Sto} {Q : NQ} {E} {T : TgQ Q E} {most : Int} (h0 : 0 ≤ most) (h : Dr a b ns S0 S) (k : ∀ v S', 0 ≤ v → v ≤ most → Dr a b ns S0 S' → Q (.int v) S') : runF sp__law_great [.ref a, .int most] S Q E T := by
  simp_arith! [sp__law_great, m__law_great]
  try simp_arith []
  refine nx_ok h fun v S1 v0 v1 d1 => ?_
  have e1 : N.MulOk v 2147483629 := mul_ok_r (by decide) (by decide)
  simp_arith [e1]
  refine nx_ok d1 fun w S2 w0 w1 d2 => ?_
  have e2 : 0 < most + 1 := by omega
  have e3 : (0 : Int) < 50 := by decide
  have e4 : (0 : Int) < 10000 := by decide
  have e5 : PowOk 10 6 := ⟨by decide, by decide, by decide⟩
  have e6 : (0 : Int) < 10 ^ (6 : Int).toNat := by decide
  have e7 : (0 : Int) < 1000 := by decide
  have e8 : (0 : Int) < 6 := by decide
  simp_arith [e2, e3, e4, e5, e6, e7, e8]
  intro p hp
  have m := mod_lt (i := v) e8
  simp_arith [put_same, e8]
  generalize (v * 2147483629 + w) = z
  obtain ⟨u, f, -⟩ := idx_some (ns := [z % (most + 1), z % 50, z % 10000, most - z % 50, 10 ^ (6 : Int).toNat + z % 10 ^ (6 : Int).toNat, z % 1000]) m.1 (by simpa using m.2)
  simp only [List.map_cons, List.map_nil] at f
  simp_arith [f]
  refine k _ _ ?_ ?_ (d2.new hp) <;> (repeat' split) <;> omega
theorem due_of_ok {a b : Addr} {ns : List Int} {S0 S : Sto} {Q : NQ} {E} {T : TgQ Q E} (h : Dr a b ns S0 S) (k : ∀ t b' S', Due t b' → Dr a b ns S0 S' → Q (.tup [.int t, .int b']) S') : runF sp__law_due_of [.ref a] S Q E T := by
  simp_arith! [sp__law_due_of, m__law_due_of]
  try simp_arith []
  intro p hp
  have h1 := h.new (o := .lst [.tup [.int 0, .int 1], .tup [.int 3, .int 1000], .tup [.int 1, .int 10], .tup [.int 0, .int 10000], .tup [.int 1, .int 10000], .tup [.int 1000, .int 10000], .tup [.int 7, .int 100], .tup [.int 30, .int 10000]]) hp
  refine next_ok h1.l fun v S1 v0 v1 l u => ?_
  have e8 : (0 : Int) < 8 := by decide
  have m := mod_lt (i := v) e8
  have np : p ∉ [a, b] := by
    obtain ⟨_, n, ls, q1, q2, _⟩ := h.l
    simp only [List.mem_cons, List.not_mem_nil, or_false, not_or]
    exact ⟨(fun z => by rw [z, q1] at hp; cases hp), (fun z => by rw [z, q2] at hp; cases hp)⟩
  have g := u p _ np put_same
  simp_arith [g, e8]
  have d := h1.trans ⟨l, u⟩
  have c : v % 8 = 0 ∨ v % 8 = 1 ∨ v % 8 = 2 ∨ v % 8 = 3 ∨ v % 8 = 4 ∨ v % 8 = 5 ∨ v % 8 = 6 ∨ v % 8 = 7 := by omega
  rcases c with c | c | c | c | c | c | c | c <;> rw [c] <;> exact k _ _ _ ⟨by decide, by decide, by decide, by decide⟩ d
def mx (a b : Int) : Int := if b > a then b else a
theorem ok_pr {s c t b : Int} (s0 : 0 ≤ s) (s1 : s ≤ 1000000000000) (c0 : 0 ≤ c) (c1 : c ≤ 1000000000000) (du : Due t b) : (Mk.mk .pr (if s > 1 then s else 1) (if c > 1 then c else 1) t b 0 0).Ok := by
  refine ⟨?_, ?_, ?_, ?_, du, fun _ => ⟨?_, ?_⟩, nofun, nofun⟩ <;> dsimp only <;> split <;> omega
theorem ok_st {s c t b x y : Int} (s0 : 0 ≤ s) (s1 : s ≤ 1000000000000) (c0 : 0 ≤ c) (c1 : c ≤ 1000000000000) (x0 : 0 ≤ x) (x1 : x ≤ 1000000000000) (y0 : 0 ≤ y) (y1 : y ≤ 1000000000000) (du : Due t b) : (Mk.mk .st s c t b (if x > 1 - (if s < 1 then s else 1) then x else 1 - (if s < 1 then s else 1)) (if y > 1 - (if c < 1 then c else 1) then y else 1 - (if c < 1 then c else 1))).Ok := by
  refine ⟨s0, s1, c0, c1, du, nofun, fun _ => ⟨?_, ?_, ?_, ?_, ?_, ?_⟩, nofun⟩ <;> dsimp only <;> (repeat' split) <;> omega
theorem ok_su {s c t b x y : Int} (s0 : 0 ≤ s) (s1 : s ≤ 1000000000000) (c0 : 0 ≤ c) (c1 : c ≤ 1000000000000) (x0 : 0 ≤ x) (x1 : x ≤ 999999) (y0 : 0 ≤ y) (y1 : y ≤ 999999) (du : Due t b) : (Mk.mk .su s c t b (1 + x) (1 + y)).Ok := by
  refine ⟨s0, s1, c0, c1, du, nofun, nofun, fun _ => ⟨?_, ?_, ?_, ?_⟩⟩ <;> dsimp only <;> omega
theorem plain_ok {a b : Addr} {ns : List Int} {S0 S : Sto} {Q : NQ} {E} {T : TgQ Q E} {most : Int} (h0 : 1 ≤ most) (h1 : most ≤ 1000000000000) (h : Dr a b ns S0 S) (k : ∀ (m : Mk) S', m.Ok → Dr a b ns S0 S' → Q m.d S') : runF sp__law_plain [.ref a, .int most] S Q E T := by
  simp_arith! [sp__law_plain, m__law_plain]
  have e3 : (0 : Int) < 3 := by decide
  have e5 : PowOk 10 12 := ⟨by decide, by decide, by decide⟩
  have e6 : (10 : Int) ^ (12 : Int).toNat = 1000000000000 := by decide
  have m0 : 0 ≤ most := by omega
  try simp_arith []
  refine nx_ok h fun v S1 v0 v1 d1 => ?_
  have mv := mod_lt (i := v) e3
  simp_arith [e3, e5, e6]
  refine due_of_ok d1 fun t b' S2 du d2 => ?_
  try simp_arith [e5, e6]
  refine great_ok m0 d2 fun s S3 s0 s1 d3 => ?_
  try simp_arith [e5, e6]
  refine great_ok m0 d3 fun c S4 c0 c1 d4 => ?_
  try simp_arith [e5, e6]
  have s2 := Int.le_trans s1 h1
  have c2 := Int.le_trans c1 h1
  by_cases w0 : v % 3 = 0
  · simp_arith [w0, decide_true]
    exact k _ S4 (ok_pr s0 s2 c0 c2 du) d4
  by_cases w1 : v % 3 = 1
  · simp_arith [w0, w1, decide_true, decide_false]
    refine great_ok (by decide) d4 fun x S5 x0 x1 d5 => ?_
    try simp_arith [e5, e6]
    refine great_ok (by decide) d5 fun y S6 y0 y1 d6 => ?_
    try simp_arith [e5, e6]
    exact k _ S6 (ok_st s0 s2 c0 c2 x0 x1 y0 y1 du) d6
  · simp_arith [w0, w1, decide_true, decide_false]
    refine great_ok (by decide) d4 fun x S5 x0 x1 d5 => ?_
    try simp_arith [e5, e6]
    refine great_ok (by decide) d5 fun y S6 y0 y1 d6 => ?_
    try simp_arith [e5, e6]
    exact k _ S6 (ok_su s0 s2 c0 c2 x0 x1 y0 y1 du) d6
/-! ### a maker is made -/
theorem init_ok {p : Addr} {m : Mk} {c : Str} {S : Sto} {Q : NQ} {E} {T : TgQ Q E} (h : S p = some (.ins c [])) (k : ∀ q S', S q = none → S' p = some (.ins c (mFs m q)) → S' q = some (.lst [.int m.s, .int m.c]) → Upd [p] S S' → Q .non S') : runF sp_Maker___init__ [.ref p, m.d] S Q E T := by
  simp_arith! [sp_Maker___init__, m_Maker___init__]
  unfold Mk.d
  have t : ∀ n, n < 12 → n < 1000 := by omega
  have z0 : (0 < 1000) = True := eq_true (by decide)
  have z1 : (1 < 1000) = True := eq_true (by decide)
  have z2 : (2 < 1000) = True := eq_true (by decide)
  have z3 : (3 < 1000) = True := eq_true (by decide)
  have z4 : (4 < 1000) = True := eq_true (by decide)
  have p1 : ∀ v, putD "stock" v [] = ([("stock", v)] : List (Str × D)) := fun v => rfl
  have p2 : ∀ v a, putD "due" v [("stock", a)] = ([("stock", a), ("due", v)] : List (Str × D)) := fun v a => by simp [putD, ofString_inj]
  have p3 : ∀ v a b, putD "more" v [("stock", a), ("due", b)] = ([("stock", a), ("due", b), ("more", v)] : List (Str × D)) := fun v a b => by simp [putD, ofString_inj]
  have p4 : ∀ v a b c, putD "rest" v [("stock", a), ("due", b), ("more", c)] = ([("stock", a), ("due", b), ("more", c), ("rest", v)] : List (Str × D)) := fun v a b c => by simp [putD, ofString_inj]
  have p5 : ∀ v a b c d, putD "parts" v [("stock", a), ("due", b), ("more", c), ("rest", d)] = ([("stock", a), ("due", b), ("more", c), ("rest", d), ("parts", v)] : List (Str × D)) := fun v a b c d => by simp [putD, ofString_inj]
  simp_arith [atI_0, atI_1, atI_2, atI_3]
  intro q hq
  have qp : q ≠ p := fun z => by rw [z, h] at hq; cases hq
  have la : ∀ o, put S q o p = some (.ins c []) := fun o => by rw [put_ne (Ne.symm qp), h]
  simp_arith [la, put_same, z0, z1, z2, z3, z4, p1, p2, p3, p4, p5, atI_0, atI_1, atI_2, atI_3, cut_4]
  refine k q _ hq (put_same.trans (by unfold mFs; rfl)) ?_ ?_
  · simp only [put_ne qp, put_same]
  · exact (Upd.new hq).trans ((Upd.at (by simp)).trans ((Upd.at (by simp)).trans ((Upd.at (by simp)).trans ((Upd.at (by simp)).trans (Upd.at (by simp))))))
theorem make_up {p q : Addr} {S S' : Sto} {o : Ob} (hp : S p = none) (u : Upd [p] (put S p o) S') : Keeps S S' := by
  intro a o' _ e
  have : a ≠ p := fun z => by rw [z, hp] at e; cases e
  exact u a o' (by simpa using this) (by rw [put_ne this]; exact e)
theorem maker_of_ok {m : Mk} (o : m.Ok) {S : Sto} {Q : NQ} {E} {T : TgQ Q E} (k : ∀ p q S', S p = none → S q = none → MkAt p q m S' → Keeps S S' → Q (.ref p) S') : runF sp_maker_of [m.d] S Q E T := by
  have fin : ∀ (E' : Str → Option Addr → Sto → Prop) (x : Addr), S x = none → ∀ T', runF sp_Maker___init__ [.ref x, m.d] (put S x (.ins m.cn [])) (fun v S2 => isNonD v = true ∧ Q (.ref x) S2) E' T' := by
    intro E' x hx T'
    refine init_ok put_same fun q S' hq e1 e2 u => ⟨rfl, ?_⟩
    have qx : q ≠ x := fun z => by rw [z, put_same] at hq; cases hq
    rw [put_ne qx] at hq
    exact k x q S' hx hq ⟨e1, e2, Ne.symm qx⟩ (make_up (q := q) hx u)
  simp_arith! [sp_maker_of, m_maker_of]
  obtain ⟨kd, s, c, t, b, x, y⟩ := m
  have n1 : ("stretch" = "product") = False := by decide
  have n2 : ("sum" = "product") = False := by decide
  have n3 : ("sum" = "stretch") = False := by decide
  have e0 : atI (match (Mk.mk kd s c t b x y).d with | .tup ds => ds | _ => []) 0 = some (.str (Mk.mk kd s c t b x y).word) := by unfold Mk.d; exact atI_0 _ _
  have pl := fun (Q : NQ) (E : Str → Option Addr → Sto → Prop) (T : TgQ Q E) => is_plain_ok o (S := S) (Q := Q) (E := E) (T := T)
  cases kd with
  | pr =>
    unfold Mk.d Mk.word Mk.more at *
    unfold Mk.cn at fin
    dsimp only at *
    simp_arith [pl, Bool.not_true, atI_0, ofString_inj, decide_true]
    exact fun x hx => fin _ x hx _
  | st =>
    unfold Mk.d Mk.word Mk.more at *
    unfold Mk.cn at fin
    dsimp only at *
    simp_arith [pl, Bool.not_true, atI_0, ofString_inj, decide_true, n1, decide_false]
    exact fun x hx => fin _ x hx _
  | su =>
    unfold Mk.d Mk.word Mk.more at *
    unfold Mk.cn at fin
    dsimp only at *
    simp_arith [pl, Bool.not_true, atI_0, ofString_inj, decide_true, n2, n3, decide_false]
    exact fun x hx => fin _ x hx _
/-! ### keeps, worth -/
def Mk.ws (m : Mk) : Int := match m.k with | .su => m.x | _ => m.s + m.px
def Mk.wc (m : Mk) : Int := match m.k with | .su => m.y | _ => m.c + m.py
def Mk.kp (m : Mk) : Int := match m.k with | .su => m.x * m.c + m.y * m.s | _ => (m.s + m.px) * (m.c + m.py)
theorem Mk.Ok.w1 {m : Mk} (h : m.Ok) : 1 ≤ m.ws ∧ 1 ≤ m.wc := by
  obtain ⟨s0, s1, c0, c1, du, hp, hs, hu⟩ := h
  obtain ⟨k, s, c, t, b, x, y⟩ := m
  cases k
  · have := hp rfl
    simp only [Mk.ws, Mk.wc, Mk.px, Mk.py] at *; omega
  · have := hs rfl
    simp only [Mk.ws, Mk.wc, Mk.px, Mk.py] at *; omega
  · have := hu rfl
    simp only [Mk.ws, Mk.wc, Mk.px, Mk.py] at *; omega
theorem Asks.got {m : Mk} {i n : Int} (h : Asks m i n) : 0 ≤ m.got i n ∧ (m.k ≠ .su → m.got i n < m.gr (1 - i)) := by
  have g := h.ok.gr
  have d := h.den
  obtain ⟨t0, b1, b2, tb⟩ := h.ok.due
  have hs := h.sd
  have key : ∀ k, m.k = k → 0 ≤ m.got i n ∧ (m.k ≠ .su → m.got i n < m.gr (1 - i)) := by
    intro k hk
    have w : k ≠ .su → 1 ≤ m.gr i ∧ 1 ≤ m.gr (1 - i) := by
      intro z
      have w := h.ok.w1
      have g1 : m.ws = m.s + m.px := by unfold Mk.ws; rw [hk]; cases k <;> first | rfl | exact absurd rfl z
      have g2 : m.wc = m.c + m.py := by unfold Mk.wc; rw [hk]; cases k <;> first | rfl | exact absurd rfl z
      rw [g1, g2] at w
      unfold Mk.gr
      rcases hs with rfl | rfl
      · rw [if_pos rfl, if_neg (by decide)]; exact w
      · rw [if_neg (by decide), if_pos (by decide)]; exact ⟨w.2, w.1⟩
    have pd : k ≠ .su → m.got i n = m.gr (1 - i) * (n * (m.b - m.t)) / (m.gr i * m.b + n * (m.b - m.t)) → 0 ≤ m.got i n ∧ (m.k ≠ .su → m.got i n < m.gr (1 - i)) := by
      intro z e
      obtain ⟨w1, w2⟩ := w z
      have d0 : 1 * 1 ≤ m.gr i * m.b := Int.mul_le_mul w1 b1 (by decide) (by omega)
      rw [e]
      exact ⟨share_nn (by omega) (by omega) d.2.2.1, fun _ => share_lt w2 (by omega) d.2.2.1⟩
    cases k with
    | pr => exact pd (by intro z; cases z) (by unfold Mk.got; rw [hk])
    | st => exact pd (by intro z; cases z) (by unfold Mk.got; rw [hk])
    | su =>
      refine ⟨?_, fun z => absurd hk z⟩
      obtain ⟨x0, x1, y0, y1⟩ := h.ok.su hk
      have r : ∀ i, 0 ≤ m.rt i := by intro i; unfold Mk.rt; split <;> omega
      have e4 : m.got i n = n * (m.b - m.t) * m.rt (1 - i) / (m.b * m.rt i) := by unfold Mk.got; rw [hk]
      rw [e4]
      exact Int.ediv_nonneg (Int.mul_nonneg d.2.2.1 (r _)) (Int.mul_nonneg (by omega) (r _))
  exact key _ rfl
theorem Asks.comes {m : Mk} {i n : Int} (h : Asks m i n) : 0 ≤ m.comes i n ∧ m.comes i n ≤ m.stk (1 - i) ∧ (m.k ≠ .su → m.comes i n < m.gr (1 - i)) := by
  have g := h.got
  have s0 := h.ok.s0; have c0 := h.ok.c0
  have st : 0 ≤ m.stk (1 - i) := by unfold Mk.stk; split <;> omega
  unfold Mk.comes mn
  split
  · refine ⟨st, Int.le_refl _, fun z => ?_⟩
    have := g.2 z; omega
  · exact ⟨g.1, by omega, g.2⟩
theorem Asks.ok' {m : Mk} {i n : Int} (h : Asks m i n) : (m.deal i n).Ok := by
  have g := h.comes
  have n1 := h.n1
  have tp := h.top
  obtain ⟨s0, s1, c0, c1, du, hp, hs, hu⟩ := h.ok
  have sd := h.sd
  have st0 : m.stk 0 = m.s := rfl
  have st1 : m.stk 1 = m.c := rfl
  have gr0 : m.gr 0 = m.s + m.px := rfl
  have gr1 : m.gr 1 = m.c + m.py := rfl
  rcases sd with rfl | rfl
  · have e : m.deal 0 n = { m with s := m.s + n, c := m.c - m.comes 0 n } := rfl
    have j : (1 : Int) - 0 = 1 := by decide
    rw [j, st1, gr1] at g
    rw [st0] at tp
    rw [e]
    refine ⟨?_, ?_, ?_, ?_, du, fun hk => ?_, fun hk => ?_, hu⟩ <;> dsimp only at *
    · omega
    · omega
    · omega
    · omega
    · have g3 := g.2.2 (by rw [hk]; intro z; cases z)
      have e2 : m.py = 0 := by unfold Mk.py; rw [hk]
      have := hp hk; omega
    · have g3 := g.2.2 (by rw [hk]; intro z; cases z)
      have e2 : m.py = m.y := by unfold Mk.py; rw [hk]
      have := hs hk; omega
  · have e : m.deal 1 n = { m with c := m.c + n, s := m.s - m.comes 1 n } := rfl
    have j : (1 : Int) - 1 = 0 := by decide
    rw [j, st0, gr0] at g
    rw [st1] at tp
    rw [e]
    refine ⟨?_, ?_, ?_, ?_, du, fun hk => ?_, fun hk => ?_, hu⟩ <;> dsimp only at *
    · omega
    · omega
    · omega
    · omega
    · have g3 := g.2.2 (by rw [hk]; intro z; cases z)
      have e2 : m.px = 0 := by unfold Mk.px; rw [hk]
      have := hp hk; omega
    · have g3 := g.2.2 (by rw [hk]; intro z; cases z)
      have e2 : m.px = m.x := by unfold Mk.px; rw [hk]
      have := hs hk; omega
theorem Mk.Ok.sb {m : Mk} (o : m.Ok) (i : Int) : 0 ≤ m.stk i ∧ m.stk i ≤ 1000000000000 := by
  have := o.s0; have := o.s1; have := o.c0; have := o.c1
  unfold Mk.stk; split <;> omega
/-! ### short words -/
theorem at_wares {i : Int} (h : Sd i) : atI (c_WARES.map D.str) i = some (.str (wr i)) := by rcases h with rfl | rfl <;> rfl
theorem md (m : Mk) : m.d = .tup (.str m.word :: .int m.s :: .int m.c :: .tup [.int m.t, .int m.b] :: m.more) := id rfl
theorem at_1s {m : Mk} {i : Int} {w : D} {r : List D} (h : Sd i) : atI (w :: .int m.s :: .int m.c :: r) (1 + i) = some (.int (m.stk i)) := by
  rcases h with rfl | rfl
  · exact atI_1 _ _ _
  · exact atI_2 _ _ _ _
theorem at_2s {m : Mk} {i : Int} {w : D} {r : List D} (h : Sd i) : atI (w :: .int m.s :: .int m.c :: r) (2 - i) = some (.int (m.stk (1 - i))) := by
  rcases h with rfl | rfl
  · exact atI_2 _ _ _ _
  · exact atI_1 _ _ _
theorem Mk.Ok.g1 {m : Mk} (h : m.Ok) (hk : m.k ≠ .su) (i : Int) : 1 ≤ m.gr i := by
  have w := h.w1
  have a : m.ws = m.s + m.px := by unfold Mk.ws; split <;> first | rfl | (rename_i z; exact absurd z hk)
  have b : m.wc = m.c + m.py := by unfold Mk.wc; split <;> first | rfl | (rename_i z; exact absurd z hk)
  unfold Mk.gr
  split <;> omega
theorem stk_set {m : Mk} {i n : Int} (sd : Sd i) : (m.deal i n).stk i = m.stk i + n ∧ (m.deal i n).stk (1 - i) = m.stk (1 - i) - m.comes i n := by
  rcases sd with rfl | rfl <;> exact ⟨rfl, rfl⟩
/-! ### what the law reckons -/
theorem law_comes_ok {m : Mk} {i n : Int} {S : Sto} {Q : NQ} {E} {T : TgQ Q E} (a : Ask0 m i n) : runF sp__law_comes [m.d, .int i, .int n] S Q E T = Q (if 1000000000000 < m.stk i + n then .non else .int (m.comes i n)) S := by
  have key : ∀ k, m.k = k → runF sp__law_comes [m.d, .int i, .int n] S Q E T = Q (if 1000000000000 < m.stk i + n then .non else .int (m.comes i n)) S := by
    intro k hk
    obtain ⟨t0, b1, b2, tb⟩ := a.ok.due
    have d := a.den
    have n1 := a.n1; have n2 := a.n2
    have e0 : PowOk 10 12 := ⟨by decide, by decide, by decide⟩
    have e00 : (10 : Int) ^ (12 : Int).toNat = 1000000000000 := by decide
    have e1 : N.MulOk n (m.b - m.t) := mul_ok_l (by omega) (by omega)
    have s1 : ∀ (r : List D) (w : D), atI (w :: .int m.s :: .int m.c :: r) (1 + i) = some (.int (m.stk i)) := fun r w => at_1s a.sd
    have s2 : ∀ (r : List D) (w : D), atI (w :: .int m.s :: .int m.c :: r) (2 - i) = some (.int (m.stk (1 - i))) := fun r w => at_2s a.sd
    have u1 : ("product" = "sum") = False := by decide
    have u2 : ("product" = "stretch") = False := by decide
    have u3 : ("stretch" = "sum") = False := by decide
    have last : ∀ v : Int, v = m.got i n → (match decide (1000000000000 < m.stk i + n) with | true => Q .non S | false => Q (.int (if m.stk (1 - i) < v then m.stk (1 - i) else v)) S) = Q (if 1000000000000 < m.stk i + n then .non else .int (m.comes i n)) S := by
      intro v hv
      by_cases h : 1000000000000 < m.stk i + n
      · rw [decide_eq_true h, if_pos h]
      · rw [decide_eq_false h, if_neg h, hv]; rfl
    have pd : k ≠ .su → m.got i n = m.gr (1 - i) * (n * (m.b - m.t)) / (m.gr i * m.b + n * (m.b - m.t)) → N.MulOk (m.gr i) m.b ∧ N.MulOk (m.gr (1 - i)) (n * (m.b - m.t)) ∧ DivOk (m.gr (1 - i) * (n * (m.b - m.t))) (m.gr i * m.b + n * (m.b - m.t)) := fun _ _ => ⟨mul_ok_r (by omega) (by omega), mul_ok_r (by omega) (by omega), div_ok d.1 d.2.1⟩
    cases k with
    | pr =>
      have e4 : m.got i n = m.gr (1 - i) * (n * (m.b - m.t)) / (m.gr i * m.b + n * (m.b - m.t)) := by unfold Mk.got; rw [hk]
      obtain ⟨f1, f2, f3⟩ := pd (by intro z; cases z) e4
      have w : m.word = "product" := by unfold Mk.word; rw [hk]
      have x1 : m.px = 0 := by unfold Mk.px; rw [hk]
      have x2 : m.py = 0 := by unfold Mk.py; rw [hk]
      have g : ∀ i, m.stk i + 0 = m.gr i := by intro i; unfold Mk.stk Mk.gr; rw [x1, x2]; split <;> rfl
      have z : (if i = 0 then (0 : Int) else 0) = 0 := by split <;> rfl
      have z' : (if 1 - i = 0 then (0 : Int) else 0) = 0 := by split <;> rfl
      have c1 : atI [D.int 0, D.int 0] i = some (.int 0) := by rw [at_sd a.sd, int_if, z]
      have c2 : atI [D.int 0, D.int 0] (1 - i) = some (.int 0) := by rw [at_sd' a.sd, int_if, z']
      have l := last _ e4.symm
      simp_arith! [sp__law_comes, m__law_comes]
      unfold Mk.d
      simp_arith [w, s1, s2, atI_0, atI_3, ofString_inj, u1, u2, decide_false, e0, e00, e1, c1, c2, g, f1, f2, f3]
      exact l
    | st =>
      have e4 : m.got i n = m.gr (1 - i) * (n * (m.b - m.t)) / (m.gr i * m.b + n * (m.b - m.t)) := by unfold Mk.got; rw [hk]
      obtain ⟨f1, f2, f3⟩ := pd (by intro z; cases z) e4
      have w : m.word = "stretch" := by unfold Mk.word; rw [hk]
      have mo : m.more = [.tup [.int m.x, .int m.y]] := by unfold Mk.more; rw [hk]
      have x1 : m.px = m.x := by unfold Mk.px; rw [hk]
      have x2 : m.py = m.y := by unfold Mk.py; rw [hk]
      have g : ∀ i, m.stk i + m.rt i = m.gr i := by intro i; unfold Mk.stk Mk.gr Mk.rt; rw [x1, x2]; split <;> rfl
      have c1 : atI [D.int m.x, D.int m.y] i = some (.int (m.rt i)) := by rw [at_sd a.sd, int_if]; rfl
      have c2 : atI [D.int m.x, D.int m.y] (1 - i) = some (.int (m.rt (1 - i))) := by rw [at_sd' a.sd, int_if]; rfl
      have l := last _ e4.symm
      simp_arith! [sp__law_comes, m__law_comes]
      unfold Mk.d
      simp_arith [w, mo, s1, s2, atI_0, atI_3, atI_4, ofString_inj, u3, decide_false, decide_true, e0, e00, e1, c1, c2, g, f1, f2, f3]
      exact l
    | su =>
      have e4 : m.got i n = n * (m.b - m.t) * m.rt (1 - i) / (m.b * m.rt i) := by unfold Mk.got; rw [hk]
      have w : m.word = "sum" := by unfold Mk.word; rw [hk]
      have mo : m.more = [.tup [.int m.x, .int m.y]] := by unfold Mk.more; rw [hk]
      have c1 : atI [D.int m.x, D.int m.y] i = some (.int (m.rt i)) := by rw [at_sd a.sd, int_if]; rfl
      have c2 : atI [D.int m.x, D.int m.y] (1 - i) = some (.int (m.rt (1 - i))) := by rw [at_sd' a.sd, int_if]; rfl
      obtain ⟨x0, x1, y0, y1⟩ := a.ok.su hk
      have r : ∀ i, 1 ≤ m.rt i ∧ m.rt i ≤ 1000000 := by intro i; unfold Mk.rt; split <;> omega
      have d1 : 1 * 1 ≤ m.b * m.rt i := Int.mul_le_mul b1 (r i).1 (by decide) (by omega)
      have d2 : m.b * m.rt i ≤ 10000 * 1000000 := Int.mul_le_mul b2 (r i).2 (by have := (r i).1; omega) (by decide)
      have g2 : N.MulOk (n * (m.b - m.t)) (m.rt (1 - i)) := mul_ok_r (by have := (r (1 - i)).1; omega) (by have := (r (1 - i)).2; omega)
      have g3 : N.MulOk m.b (m.rt i) := mul_ok_l (by omega) (by omega)
      have g4 : DivOk (n * (m.b - m.t) * m.rt (1 - i)) (m.b * m.rt i) := div_ok (by omega) (by omega)
      have l := last _ e4.symm
      simp_arith! [sp__law_comes, m__law_comes]
      unfold Mk.d
      simp_arith [w, mo, s1, s2, atI_0, atI_3, atI_4, ofString_inj, decide_true, e0, e00, e1, c1, c2, g2, g3, g4]
      exact l
  exact key _ rfl
/-! ### a deal that is too much -/
theorem told_bad {p q : Addr} {m : Mk} {i n : Int} {S : Sto} {Q : NQ} {E} {T : TgQ Q E} (h : MkAt p q m S) (hs : Sd i) (hn : 1 ≤ n) (ht : ¬ m.stk i + n ≤ 1000000000000) : runF sp_Maker_told [.ref p, .str (wr i), .int n] S Q E T = E "TooMuch" none S := by
  simp_arith! [sp_Maker_told, m_Maker_told]
  have f3 : decide (m.stk i + n ≤ 1000000000000) = false := decide_eq_false ht
  simp_arith [need_ware_ok hs, need_count_ok hn, h.ins, h.lst, mFs_stock, mt_is_dealt, is_dealt_ok h hs, f3, mFs_no (m := m) (q := q) (f := "is_dealt") (by decide), Bool.not_false]
/-! #### worth -/
theorem ltN_mod {x y : Nat} : ((x : Int) % (y : Int)) = ((x % y : Nat) : Int) := rfl
theorem least_loop (Z : NEnds) (a b : Option D) (S : Sto) : ∀ (y x : Nat) (r : Option D), (∀ r', Z.nx [a, b, some (.int (Nat.gcd x y : Nat)), some (.int 0), r'] S) → ∃ n, whileN (mTst (mOp nGt (mVar 3) (mC (.int 0)))) (sSeq (sSet 4 (mOp nMod (mVar 2) (mVar 3))) (sSeq (sSet 2 (mVar 3)) (sSet 3 (mVar 4)))) Z n [a, b, some (.int x), some (.int y), r] S := by
  intro y
  induction y using Nat.strongRecOn with
  | _ y ih =>
    intro x r h
    by_cases hy : y = 0
    · subst hy
      refine ⟨1, ?_⟩
      have e : decide ((0 : Int) < ((0 : Nat) : Int)) = false := by decide
      rw [u_whileN]
      simp_arith [e]
      have := h r
      rwa [Nat.gcd_zero_right] at this
    · have y0 : 0 < y := Nat.pos_of_ne_zero hy
      obtain ⟨n, hn⟩ := ih (x % y) (Nat.mod_lt _ y0) y (some (.int ((x % y : Nat) : Int))) (fun r' => by
        have e : Nat.gcd y (x % y) = Nat.gcd x y := by rw [Nat.gcd_comm y, ← Nat.gcd_rec, Nat.gcd_comm]
        rw [e]; exact h r')
      refine ⟨n + 1, ?_⟩
      have e : decide ((0 : Int) < (y : Int)) = true := decide_eq_true (by omega)
      have e2 : (0 : Int) < (y : Int) := by omega
      rw [u_whileN]
      simp_arith [e, e2]
      exact hn
theorem nat_of {i : Int} (h : 0 ≤ i) : ∃ n : Nat, i = n := ⟨i.toNat, by omega⟩
theorem Mk.Ok.w2 {m : Mk} (h : m.Ok) : m.ws < 2 ^ 60 ∧ m.wc < 2 ^ 60 := by
  obtain ⟨s0, s1, c0, c1, du, hp, hs, hu⟩ := h
  obtain ⟨k, s, c, t, b, x, y⟩ := m
  cases k
  · simp only [Mk.ws, Mk.wc, Mk.px, Mk.py] at *; omega
  · have := hs rfl
    simp only [Mk.ws, Mk.wc, Mk.px, Mk.py] at *; omega
  · have := hu rfl
    simp only [Mk.ws, Mk.wc, Mk.px, Mk.py] at *; omega
def Mk.g (m : Mk) : Nat := Nat.gcd m.wc.toNat m.ws.toNat
theorem low_gcd {x y : Int} (x1 : 1 ≤ x) (y1 : 1 ≤ y) : ∃ u v : Nat, x / (Nat.gcd x.toNat y.toNat : Nat) = (u : Int) ∧ y / (Nat.gcd x.toNat y.toNat : Nat) = (v : Int) ∧ Nat.gcd u v = 1 ∧ (u : Int) * y = x * v ∧ 0 < v := by
  obtain ⟨n, rfl⟩ := nat_of (i := x) (by omega)
  obtain ⟨k, rfl⟩ := nat_of (i := y) (by omega)
  simp only [Int.toNat_natCast]
  have g0 : 0 < Nat.gcd n k := Nat.gcd_pos_of_pos_right _ (by omega)
  have d1 := Nat.gcd_dvd_left n k
  have d2 := Nat.gcd_dvd_right n k
  obtain ⟨u, hu⟩ := d1
  obtain ⟨v, hv⟩ := d2
  have e1 : n / Nat.gcd n k = u := by
    have := Nat.mul_div_cancel_left u g0
    rwa [← hu] at this
  have e2 : k / Nat.gcd n k = v := by
    have := Nat.mul_div_cancel_left v g0
    rwa [← hv] at this
  have e3 : Nat.gcd n k = Nat.gcd n k * Nat.gcd u v := by
    rw [← Nat.gcd_mul_left, ← hu, ← hv]
  have e4 : Nat.gcd u v = 1 := Nat.eq_of_mul_eq_mul_left g0 (by rw [← e3, Nat.mul_one])
  refine ⟨u, v, by rw [← e1]; rfl, by rw [← e2]; rfl, e4, ?_, Nat.pos_of_ne_zero fun z => by rw [z, Nat.mul_zero] at hv; omega⟩
  have : u * k = n * v := by
    have h1 : u * (Nat.gcd n k * v) = Nat.gcd n k * u * v := by rw [Nat.mul_left_comm, Nat.mul_assoc]
    rwa [← hu, ← hv] at h1
  exact_mod_cast this
/-! ### what is kept -/
theorem keep_pd {A B b r n out : Int} (hA : 0 ≤ A) (rb : r ≤ b) (hr : 1 ≤ r) (ho : 0 ≤ out) (h : out * (A * b + n * r) ≤ B * (n * r)) : out * (A + n) ≤ B * n := by
  have p1 : A * r ≤ A * b := Int.mul_le_mul_of_nonneg_left rb hA
  have p2 : out * (A * r + n * r) ≤ out * (A * b + n * r) := Int.mul_le_mul_of_nonneg_left (by omega) ho
  have p3 : out * (A * r + n * r) = (out * (A + n)) * r := by rw [← Int.add_mul, ← Int.mul_assoc]
  have p4 : B * (n * r) = (B * n) * r := (Int.mul_assoc _ _ _).symm
  rw [p3] at p2; rw [p4] at h
  exact Int.le_of_mul_le_mul_right (Int.le_trans p2 h) (by omega)
theorem keep_pd2 {A B n out : Int} (h : out * (A + n) ≤ B * n) : A * B ≤ (A + n) * (B - out) := by
  have e1 : (A + n) * (B - out) = A * B + n * B - (A + n) * out := by rw [Int.mul_sub, Int.add_mul]
  rw [e1, Int.mul_comm n B, Int.mul_comm (A + n) out]
  omega
theorem keep_su {b r n out R R' : Int} (rb : r ≤ b) (hb : 1 ≤ b) (hn : 1 ≤ n) (hR' : 1 ≤ R') (h : out * (b * R) ≤ n * r * R') : out * R ≤ n * R' := by
  have p1 : n * r ≤ n * b := Int.mul_le_mul_of_nonneg_left rb (by omega)
  have p2 : n * r * R' ≤ n * b * R' := Int.mul_le_mul_of_nonneg_right p1 (by omega)
  have p3 : out * (b * R) = (out * R) * b := by rw [Int.mul_comm b R, Int.mul_assoc]
  have p4 : n * b * R' = (n * R') * b := by rw [Int.mul_assoc, Int.mul_comm b R', Int.mul_assoc]
  rw [p3] at h; rw [p4] at p2
  exact Int.le_of_mul_le_mul_right (Int.le_trans h p2) (by omega)
theorem comes_le {m : Mk} {i n : Int} : m.comes i n ≤ m.got i n := by unfold Mk.comes mn; split <;> omega
/-- by the rule -/
theorem Asks.rule_pd {m : Mk} {i n : Int} (a : Asks m i n) (hk : m.k ≠ .su) : m.comes i n * (m.gr i + n) ≤ m.gr (1 - i) * n := by
  obtain ⟨t0, b1, b2, tb⟩ := a.ok.due
  have d := a.den
  have c := a.comes
  have e4 : m.got i n = m.gr (1 - i) * (n * (m.b - m.t)) / (m.gr i * m.b + n * (m.b - m.t)) := by unfold Mk.got; split <;> first | rfl | (rename_i z; exact absurd z hk)
  have l := @comes_le m i n
  rw [e4] at l
  refine keep_pd (r := m.b - m.t) (b := m.b) (a.ok.gr i).1 (by omega) (by omega) c.1 ?_
  exact (Int.le_ediv_iff_mul_le d.1).mp l
theorem Asks.rule_su {m : Mk} {i n : Int} (a : Asks m i n) (hk : m.k = .su) : m.comes i n * m.rt i ≤ n * m.rt (1 - i) := by
  obtain ⟨t0, b1, b2, tb⟩ := a.ok.due
  obtain ⟨x0, x1, y0, y1⟩ := a.ok.su hk
  have r : ∀ i, 1 ≤ m.rt i := by intro i; unfold Mk.rt; split <;> omega
  have e4 : m.got i n = n * (m.b - m.t) * m.rt (1 - i) / (m.b * m.rt i) := by unfold Mk.got; rw [hk]
  have l := @comes_le m i n
  rw [e4] at l
  refine keep_su (r := m.b - m.t) (b := m.b) (by omega) b1 a.n1 (r _) ?_
  exact (Int.le_ediv_iff_mul_le (Int.mul_pos (by omega) (by have := r i; omega))).mp l
theorem kp_su {m : Mk} (h : m.k = .su) : m.kp = m.x * m.c + m.y * m.s := by unfold Mk.kp; rw [h]
theorem kp_pd {m : Mk} (h : m.k ≠ .su) : m.kp = (m.s + m.px) * (m.c + m.py) := by unfold Mk.kp; split <;> first | rfl | (rename_i z; exact absurd z h)
theorem deal_0 {m : Mk} {n : Int} : m.deal 0 n = { m with s := m.s + n, c := m.c - m.comes 0 n } := rfl
theorem deal_1 {m : Mk} {n : Int} : m.deal 1 n = { m with c := m.c + n, s := m.s - m.comes 1 n } := rfl
theorem deal_k {m : Mk} {i n : Int} : (m.deal i n).k = m.k := by unfold Mk.deal; split <;> rfl
theorem Asks.keeps {m : Mk} {i n : Int} (a : Asks m i n) : m.kp ≤ (m.deal i n).kp := by
  by_cases hk : m.k = .su
  · have h := a.rule_su hk
    rw [kp_su hk, kp_su (by rw [deal_k, hk])]
    rcases a.sd with rfl | rfl
    · have j : (1 : Int) - 0 = 1 := by decide
      rw [j] at h
      have r0 : m.rt 0 = m.x := rfl
      have r1 : m.rt 1 = m.y := rfl
      rw [r0, r1] at h
      rw [deal_0]
      dsimp only
      rw [Int.mul_sub, Int.mul_add, Int.mul_comm m.x (m.comes 0 n), Int.mul_comm m.y n]
      omega
    · have j : (1 : Int) - 1 = 0 := by decide
      rw [j] at h
      have r0 : m.rt 0 = m.x := rfl
      have r1 : m.rt 1 = m.y := rfl
      rw [r0, r1] at h
      rw [deal_1]
      dsimp only
      rw [Int.mul_sub, Int.mul_add, Int.mul_comm m.y (m.comes 1 n), Int.mul_comm m.x n]
      omega
  · have h := a.rule_pd hk
    rw [kp_pd hk, kp_pd (by rw [deal_k]; exact hk)]
    have g0 : m.gr 0 = m.s + m.px := rfl
    have g1 : m.gr 1 = m.c + m.py := rfl
    rcases a.sd with rfl | rfl
    · have j : (1 : Int) - 0 = 1 := by decide
      rw [j, g0, g1] at h
      have q := keep_pd2 h
      have e1 : (m.deal 0 n).s + (m.deal 0 n).px = m.s + m.px + n := by rw [deal_0]; unfold Mk.px; dsimp only; omega
      have e2 : (m.deal 0 n).c + (m.deal 0 n).py = m.c + m.py - m.comes 0 n := by rw [deal_0]; unfold Mk.py; dsimp only; omega
      rw [e1, e2]; exact q
    · have j : (1 : Int) - 1 = 0 := by decide
      rw [j, g0, g1] at h
      have q := keep_pd2 h
      have e1 : (m.deal 1 n).s + (m.deal 1 n).px = m.s + m.px - m.comes 1 n := by rw [deal_1]; unfold Mk.px; dsimp only; omega
      have e2 : (m.deal 1 n).c + (m.deal 1 n).py = m.c + m.py + n := by rw [deal_1]; unfold Mk.py; dsimp only; omega
      rw [e1, e2, Int.mul_comm (m.s + m.px - m.comes 1 n), Int.mul_comm (m.s + m.px)]; exact q
/-- what never changes -/
structure Same (m m' : Mk) : Prop where
  k : m'.k = m.k
  t : m'.t = m.t
  b : m'.b = m.b
  x : m'.x = m.x
  y : m'.y = m.y
theorem Same.refl (m : Mk) : Same m m := ⟨rfl, rfl, rfl, rfl, rfl⟩
theorem Same.trans {m m1 m2 : Mk} (a : Same m m1) (b : Same m1 m2) : Same m m2 := ⟨b.k.trans a.k, b.t.trans a.t, b.b.trans a.b, b.x.trans a.x, b.y.trans a.y⟩
theorem Same.deal {m : Mk} {i n : Int} : Same m (m.deal i n) := by unfold Mk.deal; split <;> exact ⟨rfl, rfl, rfl, rfl, rfl⟩
theorem Same.px {m m' : Mk} (h : Same m m') : m'.px = m.px := by unfold Mk.px; rw [h.k, h.x]
theorem Same.py {m m' : Mk} (h : Same m m') : m'.py = m.py := by unfold Mk.py; rw [h.k, h.y]
theorem mul_strict {a b c d : Int} (h1 : a ≤ c) (h2 : b ≤ d) (a0 : 1 ≤ a) (b0 : 1 ≤ b) (h : c * d ≤ a * b) : a = c ∧ b = d := by
  have p1 : a * b ≤ c * b := Int.mul_le_mul_of_nonneg_right h1 (by omega)
  have p2 : c * b ≤ c * d := Int.mul_le_mul_of_nonneg_left h2 (by omega)
  have e1 : a * b = c * b := by omega
  have e2 : c * b = c * d := by omega
  exact ⟨Int.eq_of_mul_eq_mul_right (by omega) e1, Int.eq_of_mul_eq_mul_left (by omega) e2⟩
theorem nobody {m0 m : Mk} (h : Same m0 m) (o0 : m0.Ok) (o : m.Ok) (k : m0.kp ≤ m.kp) (hs : m.s ≤ m0.s) (hc : m.c ≤ m0.c) : m.s = m0.s ∧ m.c = m0.c := by
  by_cases hk : m0.k = .su
  · have hk' : m.k = .su := h.k.trans hk
    rw [kp_su hk, kp_su hk', h.x, h.y] at k
    obtain ⟨x0, x1, y0, y1⟩ := o0.su hk
    have p1 : m0.x * m.c ≤ m0.x * m0.c := Int.mul_le_mul_of_nonneg_left hc (by omega)
    have p2 : m0.y * m.s ≤ m0.y * m0.s := Int.mul_le_mul_of_nonneg_left hs (by omega)
    have e1 : m0.x * m.c = m0.x * m0.c := by omega
    have e2 : m0.y * m.s = m0.y * m0.s := by omega
    exact ⟨Int.eq_of_mul_eq_mul_left (by omega) e2, Int.eq_of_mul_eq_mul_left (by omega) e1⟩
  · have hk' : m.k ≠ .su := by rw [h.k]; exact hk
    rw [kp_pd hk, kp_pd hk', h.px, h.py] at k
    have g0 := o.g1 hk' 0; have g1 := o.g1 hk' 1
    have r0 : m.gr 0 = m.s + m.px := rfl
    have r1 : m.gr 1 = m.c + m.py := rfl
    rw [r0, h.px] at g0; rw [r1, h.py] at g1
    obtain ⟨a, b⟩ := mul_strict (a := m.s + m0.px) (b := m.c + m0.py) (c := m0.s + m0.px) (d := m0.c + m0.py) (by omega) (by omega) g0 g1 k
    exact ⟨by omega, by omega⟩
/-- the worth of salt falls where cloth comes in .. -/
theorem frac_le {u v u' v' c s c' s' : Int} (hs : 1 ≤ s) (hs' : 1 ≤ s') (hv : 0 < v) (hv' : 0 < v') (e : u * s = c * v) (e' : u' * s' = c' * v') (h : c' * s ≤ c * s') : u' * v ≤ u * v' := by
  have p : (c' * s) * (v * v') ≤ (c * s') * (v * v') := Int.mul_le_mul_of_nonneg_right h (Int.mul_nonneg (by omega) (by omega))
  have e1 : (c' * s) * (v * v') = (u' * v) * (s * s') := by
    calc (c' * s) * (v * v') = (c' * v') * (s * v) := by ac_rfl
      _ = (u' * s') * (s * v) := by rw [e']
      _ = (u' * v) * (s * s') := by ac_rfl
  have e2 : (c * s') * (v * v') = (u * v') * (s * s') := by
    calc (c * s') * (v * v') = (c * v) * (s' * v') := by ac_rfl
      _ = (u * s) * (s' * v') := by rw [e]
      _ = (u * v') * (s * s') := by ac_rfl
  rw [e1, e2] at p
  exact Int.le_of_mul_le_mul_right p (Int.mul_pos (by omega) (by omega))
theorem ws_su {m : Mk} (h : m.k = .su) : m.ws = m.x ∧ m.wc = m.y := by unfold Mk.ws Mk.wc; rw [h]; exact ⟨rfl, rfl⟩
theorem ws_pd {m : Mk} (h : m.k ≠ .su) : m.ws = m.s + m.px ∧ m.wc = m.c + m.py := by
  unfold Mk.ws Mk.wc
  split
  · rename_i z; exact absurd z h
  · exact ⟨rfl, rfl⟩
theorem Asks.goes {m : Mk} {i n : Int} (a : Asks m i n) : if i = 0 then (m.deal i n).wc * m.ws ≤ m.wc * (m.deal i n).ws else m.wc * (m.deal i n).ws ≤ (m.deal i n).wc * m.ws := by
  have n1 := a.n1
  have c := a.comes
  have w := a.ok.w1
  have w' := a.ok'.w1
  by_cases hk : m.k = .su
  · have e := ws_su hk
    have e' := ws_su (m := m.deal i n) (by rw [deal_k, hk])
    have s := @Same.deal m i n
    rw [e.1, e.2, e'.1, e'.2, s.x, s.y]
    split <;> exact Int.le_refl _
  · have e := ws_pd hk
    have e' := ws_pd (m := m.deal i n) (by rw [deal_k]; exact hk)
    have s := @Same.deal m i n
    rw [e.1, e.2] at w ⊢
    rw [e'.1, e'.2] at w' ⊢
    rcases a.sd with rfl | rfl
    · rw [if_pos rfl]
      have f1 : (m.deal 0 n).s = m.s + n := rfl
      have f2 : (m.deal 0 n).c = m.c - m.comes 0 n := rfl
      rw [s.px, s.py, f1, f2] at w' ⊢
      have p1 : (m.c - m.comes 0 n + m.py) * (m.s + m.px) ≤ (m.c + m.py) * (m.s + m.px) := Int.mul_le_mul_of_nonneg_right (by omega) (by omega)
      have p2 : (m.c + m.py) * (m.s + m.px) ≤ (m.c + m.py) * (m.s + n + m.px) := Int.mul_le_mul_of_nonneg_left (by omega) (by omega)
      omega
    · rw [if_neg (by decide)]
      have f1 : (m.deal 1 n).s = m.s - m.comes 1 n := rfl
      have f2 : (m.deal 1 n).c = m.c + n := rfl
      rw [s.px, s.py, f1, f2] at w' ⊢
      have p1 : (m.c + m.py) * (m.s - m.comes 1 n + m.px) ≤ (m.c + m.py) * (m.s + m.px) := Int.mul_le_mul_of_nonneg_left (by omega) (by omega)
      have p2 : (m.c + m.py) * (m.s + m.px) ≤ (m.c + n + m.py) * (m.s + m.px) := Int.mul_le_mul_of_nonneg_right (by omega) (by omega)
      omega
/-! ### a twin -/
/-! ### a deal that may be refused -/
theorem ct : catchOf CL "TooMuch" "MartError" = some true := by decide
/-! ### the least count -/
theorem ceil_le {t b n : Int} (h : 0 < b) : (t + b - 1) / b ≤ n ↔ t ≤ n * b := by
  have q : (t + b - 1) / b < n + 1 ↔ t + b - 1 < (n + 1) * b := Int.ediv_lt_iff_lt_mul h
  have e : (n + 1) * b = n * b + b := by rw [Int.add_mul, Int.one_mul]
  rw [e] at q
  omega
def cl (t b : Int) : Int := (t + b - 1) / b
def Mk.want (m : Mk) (i w : Int) : Option Int := match m.k with
  | .su => some (cl (w * m.b * m.rt i) ((m.b - m.t) * m.rt (1 - i)))
  | _ => if m.gr (1 - i) ≤ w then none else some (mx 1 (cl (w * m.gr i * m.b) ((m.b - m.t) * (m.gr (1 - i) - w))))
def Mk.least (m : Mk) (i w : Int) : Option Int := if m.stk (1 - i) < w then none else match m.want i w with
  | none => none
  | some f => if m.stk i + f ≤ 1000000000000 then some f else none
def optD : Option Int → D
  | none => .non
  | some f => .int f
theorem want_pd {w g0 g1 b r n : Int} (hw : 1 ≤ w) (h0 : 1 ≤ g0) (hb : 1 ≤ b) (hr : 1 ≤ r) (hn : 1 ≤ n) : w ≤ g1 * (n * r) / (g0 * b + n * r) ↔ ¬ g1 ≤ w ∧ mx 1 (cl (w * g0 * b) (r * (g1 - w))) ≤ n := by
  have p1 : 1 * 1 ≤ n * r := Int.mul_le_mul hn hr (by decide) (by omega)
  have p2 : 1 * 1 ≤ g0 * b := Int.mul_le_mul h0 hb (by decide) (by omega)
  have p3 : 1 * 1 ≤ w * (g0 * b) := Int.mul_le_mul hw (by omega) (by decide) (by omega)
  rw [Int.le_ediv_iff_mul_le (by omega), Int.mul_add]
  by_cases h : g1 ≤ w
  · have : g1 * (n * r) ≤ w * (n * r) := Int.mul_le_mul_of_nonneg_right h (by omega)
    constructor
    · intro z; omega
    · intro z; exact absurd h z.1
  · have q : 0 < r * (g1 - w) := Int.mul_pos (by omega) (by omega)
    have c := ceil_le (t := w * g0 * b) (n := n) q
    have e1 : w * g0 * b = w * (g0 * b) := Int.mul_assoc _ _ _
    have e2 : n * (r * (g1 - w)) = g1 * (n * r) - w * (n * r) := by rw [← Int.mul_assoc, Int.mul_comm, Int.sub_mul]
    have e3 : mx 1 (cl (w * g0 * b) (r * (g1 - w))) ≤ n ↔ cl (w * g0 * b) (r * (g1 - w)) ≤ n := by unfold mx; split <;> omega
    rw [e3]
    unfold cl
    rw [c, e1, e2]
    constructor
    · intro z; exact ⟨h, by omega⟩
    · intro z; omega
theorem want_iff {m : Mk} {i n w : Int} (a : Ask0 m i n) (hw : 1 ≤ w) : w ≤ m.got i n ↔ ∃ f, m.want i w = some f ∧ f ≤ n := by
  obtain ⟨t0, b1, b2, tb⟩ := a.ok.due
  have n1 := a.n1
  have pd : m.k ≠ .su → (w ≤ m.gr (1 - i) * (n * (m.b - m.t)) / (m.gr i * m.b + n * (m.b - m.t)) ↔ ∃ f, (if m.gr (1 - i) ≤ w then none else some (mx 1 (cl (w * m.gr i * m.b) ((m.b - m.t) * (m.gr (1 - i) - w))))) = some f ∧ f ≤ n) := by
    intro hk
    rw [want_pd hw (a.ok.g1 hk i) b1 (by omega) n1]
    by_cases h : m.gr (1 - i) ≤ w
    · rw [if_pos h]
      exact ⟨fun z => absurd h z.1, fun ⟨f, e, _⟩ => by cases e⟩
    · rw [if_neg h]
      exact ⟨fun z => ⟨_, rfl, z.2⟩, fun ⟨f, e, z⟩ => ⟨h, by cases e; exact z⟩⟩
  cases hk : m.k with
  | pr =>
    unfold Mk.got Mk.want
    rw [hk]
    exact pd (by rw [hk]; intro z; cases z)
  | st =>
    unfold Mk.got Mk.want
    rw [hk]
    exact pd (by rw [hk]; intro z; cases z)
  | su =>
    unfold Mk.got Mk.want
    rw [hk]
    dsimp only
    obtain ⟨x0, x1, y0, y1⟩ := a.ok.su hk
    have r : ∀ i, 1 ≤ m.rt i := by intro i; unfold Mk.rt; split <;> omega
    have p1 : 0 < m.b * m.rt i := Int.mul_pos (by omega) (by have := r i; omega)
    have p2 : 0 < (m.b - m.t) * m.rt (1 - i) := Int.mul_pos (by omega) (by have := r (1 - i); omega)
    have c := ceil_le (t := w * m.b * m.rt i) (n := n) p2
    rw [Int.le_ediv_iff_mul_le p1]
    have e1 : w * (m.b * m.rt i) = w * m.b * m.rt i := (Int.mul_assoc _ _ _).symm
    have e2 : n * (m.b - m.t) * m.rt (1 - i) = n * ((m.b - m.t) * m.rt (1 - i)) := Int.mul_assoc _ _ _
    rw [e1, e2]
    constructor
    · intro z; exact ⟨_, rfl, by unfold cl; exact c.mpr z⟩
    · rintro ⟨f, e, z⟩
      cases e
      exact c.mp z
theorem want_pos {m : Mk} {i w f : Int} (o : m.Ok) (hw : 1 ≤ w) (e : m.want i w = some f) : 1 ≤ f := by
  unfold Mk.want at e
  have key : ∀ c, 1 ≤ mx 1 c := by intro c; unfold mx; split <;> omega
  split at e
  · rename_i hk
    cases e
    obtain ⟨t0, b1, b2, tb⟩ := o.due
    obtain ⟨x0, x1, y0, y1⟩ := o.su hk
    have r : ∀ i, 1 ≤ m.rt i := by intro i; unfold Mk.rt; split <;> omega
    have p2 : 0 < (m.b - m.t) * m.rt (1 - i) := Int.mul_pos (by omega) (by have := r (1 - i); omega)
    have p3 : 0 < w * m.b * m.rt i := Int.mul_pos (Int.mul_pos (by omega) (by omega)) (by have := r i; omega)
    have c := ceil_le (t := w * m.b * m.rt i) (n := 0) p2
    rw [Int.zero_mul] at c
    unfold cl
    omega
  · split at e
    · cases e
    · cases e; exact key _
theorem comes_iff {m : Mk} {i n w : Int} (a : Ask0 m i n) (hw : 1 ≤ w) : w ≤ m.comes i n ↔ w ≤ m.stk (1 - i) ∧ ∃ f, m.want i w = some f ∧ f ≤ n := by
  rw [← want_iff a hw]
  unfold Mk.comes mn
  split <;> omega
theorem least_some {m : Mk} {i w f : Int} (o : m.Ok) (sd : Sd i) (hw : 1 ≤ w) (e : m.least i w = some f) : 1 ≤ f ∧ m.stk i + f ≤ 1000000000000 ∧ w ≤ m.comes i f ∧ (f ≠ 1 → m.comes i (f - 1) < w) := by
  unfold Mk.least at e
  have sb := o.sb i
  split at e
  · cases e
  · rename_i h1
    split at e
    · cases e
    · rename_i g eg
      split at e
      · rename_i h2
        cases e
        have f1 := want_pos o hw eg
        refine ⟨f1, h2, (comes_iff ⟨o, sd, f1, by omega⟩ hw).mpr ⟨by omega, _, eg, Int.le_refl _⟩, fun z => ?_⟩
        have := (comes_iff (m := m) (i := i) (n := f - 1) (w := w) ⟨o, sd, by omega, by omega⟩ hw).mp
        refine Int.not_le.mp fun y => ?_
        obtain ⟨_, f', e', l⟩ := this y
        rw [eg] at e'; cases e'; omega
      · cases e
theorem least_none {m : Mk} {i w n : Int} (o : m.Ok) (sd : Sd i) (hw : 1 ≤ w) (e : m.least i w = none) (hn : 1 ≤ n) (ht : m.stk i + n ≤ 1000000000000) : m.comes i n < w := by
  have sb := o.sb i
  refine Int.not_le.mp fun y => ?_
  obtain ⟨h1, f, h2, h3⟩ := (comes_iff ⟨o, sd, hn, by omega⟩ hw).mp y
  unfold Mk.least at e
  rw [if_neg (by omega), h2] at e
  dsimp only at e
  rw [if_pos (by omega)] at e
  cases e
/-! ### parted deals -/
def Mk.pp (m : Mk) (i : Int) : Int := if i = 0 then m.px else m.py
theorem gr_stk {m : Mk} {i : Int} : m.gr i = m.stk i + m.pp i := by unfold Mk.gr Mk.stk Mk.pp; split <;> rfl
theorem Same.pp {m m' : Mk} (h : Same m m') (i : Int) : m'.pp i = m.pp i := by unfold Mk.pp; rw [h.px, h.py]
theorem Same.rt {m m' : Mk} (h : Same m m') (i : Int) : m'.rt i = m.rt i := by unfold Mk.rt; rw [h.x, h.y]
structure Pd (m mt : Mk) (i t : Int) : Prop where
  o : mt.Ok
  s : Same m mt
  st : mt.stk i = m.stk i + t
  le : mt.stk (1 - i) ≤ m.stk (1 - i)
  su : m.k = .su → (m.stk (1 - i) - mt.stk (1 - i)) * (m.b * m.rt i) ≤ t * (m.b - m.t) * m.rt (1 - i)
  pd : m.k ≠ .su → m.gr (1 - i) * (m.gr i * m.b) ≤ mt.gr (1 - i) * (m.gr i * m.b + t * (m.b - m.t))
theorem Pd.refl {m : Mk} {i : Int} (o : m.Ok) : Pd m m i 0 := by
  refine ⟨o, .refl _, by omega, Int.le_refl _, fun _ => ?_, fun _ => ?_⟩
  · rw [Int.sub_self, Int.zero_mul, Int.zero_mul, Int.zero_mul]; exact Int.le_refl _
  · rw [Int.zero_mul, Int.add_zero]; exact Int.le_refl _
theorem got_su {m : Mk} {i n : Int} (hk : m.k = .su) : m.got i n = n * (m.b - m.t) * m.rt (1 - i) / (m.b * m.rt i) := by unfold Mk.got; rw [hk]
theorem got_pd {m : Mk} {i n : Int} (hk : m.k ≠ .su) : m.got i n = m.gr (1 - i) * (n * (m.b - m.t)) / (m.gr i * m.b + n * (m.b - m.t)) := by unfold Mk.got; split <;> first | rfl | (rename_i z; exact absurd z hk)
theorem Mk.Ok.rt1 {m : Mk} (o : m.Ok) (hk : m.k = .su) (i : Int) : 1 ≤ m.rt i ∧ m.rt i ≤ 1000000 := by
  obtain ⟨x0, x1, y0, y1⟩ := o.su hk
  unfold Mk.rt; split <;> omega
theorem Pd.step {m mt : Mk} {i t x : Int} (o : m.Ok) (h : Pd m mt i t) (ht : 0 ≤ t) (a : Asks mt i x) : Pd m (mt.deal i x) i (t + x) := by
  obtain ⟨e1, e2⟩ := stk_set (m := mt) (n := x) a.sd
  have c := a.comes
  have l := @comes_le mt i x
  obtain ⟨t0, b1, b2, tb⟩ := o.due
  refine ⟨a.ok', h.s.trans .deal, by rw [e1, h.st]; omega, by rw [e2]; have := h.le; omega, fun hk => ?_, fun hk => ?_⟩
  · have r := o.rt1 hk
    have hk' : mt.k = .su := h.s.k.trans hk
    rw [got_su hk', h.s.b, h.s.t, h.s.rt, h.s.rt] at l
    have q := (Int.le_ediv_iff_mul_le (Int.mul_pos (by omega) (by have := (r i).1; omega))).mp l
    have p := h.su hk
    rw [e2]
    have f1 : m.stk (1 - i) - (mt.stk (1 - i) - mt.comes i x) = (m.stk (1 - i) - mt.stk (1 - i)) + mt.comes i x := by omega
    rw [f1, Int.add_mul, Int.add_mul, Int.add_mul]
    omega
  · have hk' : mt.k ≠ .su := by rw [h.s.k]; exact hk
    have d := a.den
    rw [got_pd hk'] at l
    have q := (Int.le_ediv_iff_mul_le d.1).mp l
    rw [h.s.b, h.s.t] at q
    have p := h.pd hk
    have g1 : (mt.deal i x).gr (1 - i) = mt.gr (1 - i) - mt.comes i x := by rw [gr_stk, gr_stk, e2, (Same.deal).pp]; omega
    have g2 : mt.gr i = m.gr i + t := by rw [gr_stk, gr_stk, h.st, h.s.pp]; omega
    rw [g2] at q
    rw [g1, Int.sub_mul]
    have k1 : (m.gr i + t) * m.b = m.gr i * m.b + t * m.b := Int.add_mul _ _ _
    have k2 : t * (m.b - m.t) ≤ t * m.b := Int.mul_le_mul_of_nonneg_left (by omega) ht
    have k3 : (t + x) * (m.b - m.t) = t * (m.b - m.t) + x * (m.b - m.t) := Int.add_mul _ _ _
    have k4 : mt.comes i x * (m.gr i * m.b + (t + x) * (m.b - m.t)) ≤ mt.comes i x * ((m.gr i + t) * m.b + x * (m.b - m.t)) := Int.mul_le_mul_of_nonneg_left (by omega) c.1
    have k5 : mt.gr (1 - i) * (m.gr i * m.b + (t + x) * (m.b - m.t)) = mt.gr (1 - i) * (m.gr i * m.b + t * (m.b - m.t)) + mt.gr (1 - i) * (x * (m.b - m.t)) := by rw [k3, ← Int.mul_add]; congr 1; omega
    omega
theorem Pd.whole {m mt : Mk} {i n : Int} (h : Pd m mt i n) (a : Asks m i n) : m.stk (1 - i) - mt.stk (1 - i) ≤ m.comes i n := by
  obtain ⟨t0, b1, b2, tb⟩ := a.ok.due
  have sb := h.o.sb (1 - i)
  have key : m.stk (1 - i) - mt.stk (1 - i) ≤ m.got i n := by
    by_cases hk : m.k = .su
    · have r := a.ok.rt1 hk
      rw [got_su hk]
      exact (Int.le_ediv_iff_mul_le (Int.mul_pos (by omega) (by have := (r i).1; omega))).mpr (h.su hk)
    · rw [got_pd hk]
      refine (Int.le_ediv_iff_mul_le a.den.1).mpr ?_
      have p := h.pd hk
      have f : m.stk (1 - i) - mt.stk (1 - i) = m.gr (1 - i) - mt.gr (1 - i) := by rw [gr_stk, gr_stk, h.s.pp]; omega
      rw [f, Int.sub_mul, Int.mul_add]
      omega
  unfold Mk.comes mn
  split <;> omega
theorem kp_mono {m m' : Mk} (h : Same m m') (o : m.Ok) (o' : m'.Ok) (hs : m.s ≤ m'.s) (hc : m.c ≤ m'.c) : m.kp ≤ m'.kp := by
  by_cases hk : m.k = .su
  · have hk' : m'.k = .su := h.k.trans hk
    rw [kp_su hk, kp_su hk', h.x, h.y]
    obtain ⟨x0, x1, y0, y1⟩ := o.su hk
    have p1 : m.x * m.c ≤ m.x * m'.c := Int.mul_le_mul_of_nonneg_left hc (by omega)
    have p2 : m.y * m.s ≤ m.y * m'.s := Int.mul_le_mul_of_nonneg_left hs (by omega)
    omega
  · have hk' : m'.k ≠ .su := by rw [h.k]; exact hk
    rw [kp_pd hk, kp_pd hk', h.px, h.py]
    have px := o.px; have s0 := o.s0; have c0 := o.c0
    exact Int.mul_le_mul (by omega) (by omega) (by omega) (by omega)
theorem Pd.keeps {m mt : Mk} {i n : Int} (h : Pd m mt i n) (a : Asks m i n) : (m.deal i n).kp ≤ mt.kp := by
  obtain ⟨e1, e2⟩ := stk_set (m := m) (n := n) a.sd
  have w := h.whole a
  have st := h.st
  have s : Same (m.deal i n) mt := ⟨h.s.k.trans (Same.deal).k.symm, h.s.t.trans (Same.deal).t.symm, h.s.b.trans (Same.deal).b.symm, h.s.x.trans (Same.deal).x.symm, h.s.y.trans (Same.deal).y.symm⟩
  have q1 : (m.deal i n).stk i ≤ mt.stk i := by omega
  have q2 : (m.deal i n).stk (1 - i) ≤ mt.stk (1 - i) := by omega
  rcases a.sd with rfl | rfl
  · exact kp_mono s a.ok' h.o q1 q2
  · exact kp_mono s a.ok' h.o q2 q1
theorem Sd.fel {i : Int} (h : Sd i) : Sd (1 - i) := by unfold Sd at *; omega
theorem Asks.back {m : Mk} {i n : Int} (a : Asks m i n) (h1 : 1 ≤ m.comes i n) : Asks (m.deal i n) (1 - i) (m.comes i n) := by
  obtain ⟨e1, e2⟩ := stk_set (m := m) (n := n) a.sd
  have sb := a.ok.sb (1 - i)
  have c := a.comes
  exact ⟨⟨a.ok', a.sd.fel, h1, by omega⟩, by omega⟩
theorem Asks.back_le {m : Mk} {i n : Int} (a : Asks m i n) (h1 : 1 ≤ m.comes i n) : (m.deal i n).comes (1 - i) (m.comes i n) ≤ n := by
  have B := a.back h1
  obtain ⟨e1, e2⟩ := stk_set (m := m) (n := n) a.sd
  have j : 1 - (1 - i) = i := by omega
  by_cases hk : m.k = .su
  · have p := a.rule_su hk
    have q := B.rule_su ((Same.deal).k.trans hk)
    have r := a.ok.rt1 hk
    rw [j, (Same.deal).rt, (Same.deal).rt] at q
    exact Int.le_of_mul_le_mul_right (Int.le_trans q p) (by have := (r (1 - i)).1; omega)
  · have p := a.rule_pd hk
    have q := B.rule_pd (by rw [(Same.deal).k]; exact hk)
    have g := a.ok.g1 hk (1 - i)
    have g1 : (m.deal i n).gr (1 - i) + m.comes i n = m.gr (1 - i) := by rw [gr_stk, gr_stk, e2, (Same.deal).pp]; omega
    have g2 : (m.deal i n).gr i = m.gr i + n := by rw [gr_stk, gr_stk, e1, (Same.deal).pp]; omega
    rw [j, g1, g2, Int.mul_comm (m.gr i + n)] at q
    have e : (m.deal i n).comes (1 - i) (m.comes i n) * m.gr (1 - i) ≤ n * m.gr (1 - i) := by rw [Int.mul_comm n]; omega
    exact Int.le_of_mul_le_mul_right e (by omega)

/-! ### texts: words, numbers -/
theorem keeps_of {S S' : Sto} {p : Addr} (u : Upd [p] S S') (h : S p = Option.none) : Keeps S S' := fun a o _ e => u a o (by
  simp only [List.mem_cons, List.not_mem_nil, or_false]
  intro z
  rw [z, h] at e
  cases e) e
/-- a comprehension whose items may lay new things -/
theorem lc_keep (f : D → D) {g : NG} {tt : NT} {te : NE} {kp : Keep} {p : Addr} {e : N.Env} {S0 : Sto} {Q : Sto → Prop} (hk : ∀ S, Upd [p] S0 S → kp S) : ∀ {ds acc : List D} {S : Sto}, acc.length + ds.length ≤ sizeLine → Upd [p] S0 S → S p = some (.lst acc) →
    (∀ x ∈ ds, ∀ S (Y : D → Sto → Prop) (N : Sto → Prop), Upd [p] S0 S → (∀ S3, Keeps S S3 → Y (f x) S3) → g x e S fun e2 S2 => tt e2 S2 fun b S3 => match b with | true => te e2 S3 Y | false => N S3) →
    (∀ S', Upd [p] S0 S' → S' p = some (.lst (acc ++ ds.map f)) → Q S') → lcL g tt te kp p e ds S Q
  | [], acc, S, _, u, hp, _, q => q S u (by rw [List.map_nil, List.append_nil]; exact hp)
  | x :: xs, acc, S, hl, u, hp, h, q => by
    simp only [List.length_cons] at hl
    refine h x (by simp) S _ _ u fun S3 K3 => ?_
    have g3 := K3 _ _ (by simp) hp
    rw [g3]
    have u3 : Upd [p] S0 (N.put S3 p (.lst (acc ++ [f x]))) := (u.trans K3.up).trans (Upd.at (by simp))
    refine ⟨by omega, hk _ u3, lc_keep f hk (by simp only [List.length_append, List.length_cons, List.length_nil]; omega) u3 put_same (fun z hz => h z (by simp [hz])) fun S' u' hp' => q S' u' (by rw [hp', List.map_cons, List.append_assoc]; rfl)⟩
theorem runC_keep (f : D → D) {g : NG} {tt : NT} {te : NE} {kp : Keep} {p : Addr} {e : N.Env} {S0 : Sto} {Q : Sto → Prop} {T : TgC g tt te Q} {ds : List D} (hp : S0 p = Option.none) (hk : ∀ S, Keeps S0 S → kp S) (hl : ds.length ≤ sizeLine)
    (h : ∀ x ∈ ds, ∀ S (Y : D → Sto → Prop) (N : Sto → Prop), Keeps S0 S → (∀ S3, Keeps S S3 → Y (f x) S3) → g x e S fun e2 S2 => tt e2 S2 fun b S3 => match b with | true => te e2 S3 Y | false => N S3)
    (q : ∀ S', Keeps S0 S' → S' p = some (.lst (ds.map f)) → Q S') : runC g tt te kp p e ds (N.put S0 p (.lst [])) Q T :=
  lc_keep f (fun S u => hk S (keeps_of u hp)) (by simpa using hl) (Upd.at (by simp)) put_same (fun x hx S Y N u k => h x hx S Y N (keeps_of u hp) k) fun S' u' g' => q S' (keeps_of u' hp) (by simpa using g')
/-- the text of a number -/
def sh (n : Nat) : Str := Str.ofString (toString ((n : Nat) : Int))
theorem tl_sh (n : Nat) : TL.tl (sh n) = TL.numL n := TL.tl_num n
theorem sh_len {n k : Nat} (hk : 0 < k) (h : n < 10 ^ k) : (sh n).length ≤ k := by rw [TL.len_tl, tl_sh]; exact TL.numL_len hk h
theorem sh_pos (n : Nat) : 1 ≤ (sh n).length := by
  rw [TL.len_tl, tl_sh]
  have := TL.numL_ne n
  exact Nat.pos_of_ne_zero fun z => this (List.length_eq_zero_iff.mp z)
theorem numL_head : ∀ n : Nat, (TL.numL n)[0]? = some 48 → n = 0 := by
  intro n
  induction n using Nat.strongRecOn with
  | _ n ih =>
    intro h
    by_cases h10 : n < 10
    · rw [TL.numL_lt h10] at h
      simp at h
      exact h
    · rw [TL.numL_step (by omega)] at h
      have ne := TL.numL_ne (n / 10)
      rw [List.getElem?_append_left (Nat.pos_of_ne_zero fun z => ne (List.length_eq_zero_iff.mp z))] at h
      have := ih (n / 10) (by omega) h
      omega
theorem blsM : ∀ l : List Bool, blsOf (l.map D.bl) = some l
  | [] => rfl
  | b :: r => by
    show (blsOf (r.map D.bl)).map (b :: ·) = some (b :: r)
    rw [blsM r]; rfl
/-- which signs a text has -/
def allIn (z T : Str) : Bool := (TL.tl z).all fun c => decide (c ∈ TL.tl T)
def inF (T : Str) : D → Option D := fun x => match x with
  | .str c => some (.bl (decide (c.cps.getD 0 0 ∈ T.cps.toList)))
  | _ => Option.none
theorem inF_signs (z T : Str) : (signsD z).filterMap (inF T) = ((TL.tl z).map fun c => decide (c ∈ TL.tl T)).map D.bl := by
  unfold signsD TL.tl
  induction z.cps.toList with
  | nil => rfl
  | cons c r ih =>
    simp only [List.map_cons]
    show D.bl (decide (c ∈ T.cps.toList)) :: List.filterMap (inF T) (r.map fun c => .str ⟨#[c]⟩) = _
    rw [ih]
theorem all_id (l : List Nat) (f : Nat → Bool) : (l.map f).all id = l.all f := by
  induction l with
  | nil => rfl
  | cons c r ih => simp [ih]
structure NameOk (z : Str) : Prop where
  l1 : 1 ≤ z.length
  l2 : z.length ≤ 8
  all : allIn z "abcdefghijklmnopqrstuvwxyz" = true
theorem is_name_yes {z : Str} {S : Sto} {Q : NQ} {E} {T : TgQ Q E} (h : NameOk z) (k : ∀ S', Keeps S S' → Q (.bl true) S') : runF sp_is_name [.str z] S Q E T := by
  simp_arith! [sp_is_name, m_is_name]
  obtain ⟨l1, l2, al⟩ := h
  have sl : (64 : Nat) ≤ sizeLine := by decide
  have hl : z.length ≤ sizeLine := by omega
  have d1 : decide ((1 : Int) ≤ (z.length : Nat)) = true := decide_eq_true (by omega)
  have d2 : decide (((z.length : Nat) : Int) ≤ 8) = true := decide_eq_true (by omega)
  simp_arith [hl, if_pos, d1, d2]
  intro p hp
  refine runC_pure (inF "abcdefghijklmnopqrstuvwxyz") (fun _ => trivial) (by unfold signsD; rw [List.length_map, Array.length_toList]; exact hl) ?_ ?_
  · intro x hx l Y N hY
    unfold signsD at hx
    obtain ⟨c, _, rfl⟩ := List.mem_map.mp hx
    simp_arith []
    exact ⟨rfl, hY⟩
  rw [inF_signs]
  simp_arith [put_same]
  rw [blsM]
  dsimp only
  rw [all_id]
  have e : ((TL.tl z).all fun c => decide (c ∈ TL.tl "abcdefghijklmnopqrstuvwxyz")) = true := al
  rw [e]
  exact k _ (Upd.new hp)
theorem digits_in (n : Nat) : allIn (sh n) "0123456789" = true := by
  unfold allIn
  rw [tl_sh, List.all_eq_true]
  intro c hc
  have hd := TL.numL_digits n c hc
  apply decide_eq_true
  rw [TL.tl_ofString]
  have e : ("0123456789".toList.map Char.toNat) = [48, 49, 50, 51, 52, 53, 54, 55, 56, 57] := by decide
  rw [e]
  simp only [List.mem_cons, List.not_mem_nil, or_false]
  omega
theorem sh_zero {n : Nat} (h : (TL.tl (sh n))[0]? = some 48) : n = 0 := by
  rw [tl_sh] at h
  exact numL_head n h
theorem number_in_yes {n : Nat} {S : Sto} {Q : NQ} {E} {T : TgQ Q E} (hn : n < 10 ^ 13) (k : ∀ S', Keeps S S' → Q (.int n) S') : runF sp_number_in [.str (sh n)] S Q E T := by
  simp_arith! [sp_number_in, m_number_in]
  have sl : (64 : Nat) ≤ sizeLine := by decide
  have l1 := sh_pos n
  have l2 := sh_len (k := 13) (by decide) hn
  have hl : (sh n).length ≤ sizeLine := by omega
  have d1 : decide ((1 : Int) ≤ ((sh n).length : Nat)) = true := decide_eq_true (by omega)
  have d2 : decide ((((sh n).length : Nat) : Int) ≤ 13) = true := decide_eq_true (by omega)
  simp_arith [hl, if_pos, d1, d2, Bool.not_true]
  intro p hp
  refine runC_pure (inF "0123456789") (fun _ => trivial) (by unfold signsD; rw [List.length_map, Array.length_toList]; exact hl) ?_ ?_
  · intro x hx l Y N hY
    unfold signsD at hx
    obtain ⟨c, _, rfl⟩ := List.mem_map.mp hx
    simp_arith []
    exact ⟨rfl, hY⟩
  rw [inF_signs]
  simp_arith [put_same]
  rw [blsM]
  dsimp only
  rw [all_id]
  have e : ((TL.tl (sh n)).all fun c => decide (c ∈ TL.tl "0123456789")) = true := digits_in n
  rw [e]
  rw [Bool.not_true]
  dsimp only
  obtain ⟨c, hc⟩ : ∃ c, (TL.tl (sh n))[0]? = some c := ⟨_, List.getElem?_eq_getElem (by rw [← TL.len_tl]; omega)⟩
  have at0 : atI (sh n).cps.toList 0 = some c := by
    rw [atI_nat' (by decide)]
    exact hc
  refine ⟨hl, ?_⟩
  rw [at0]
  dsimp only
  have it : intText? (sh n) = some (n : Int) := TL.int_num (by rw [← tl_sh, ← TL.len_tl]; omega)
  have K := k _ (Upd.new (o := .lst (((TL.tl (sh n)).map fun c => decide (c ∈ TL.tl "0123456789")).map D.bl)) hp)
  by_cases hz : ({ cps := #[c] } : Str) = "0"
  · rw [decide_eq_true hz]
    have c48 : c = 48 := by
      have q := congrArg TL.tl hz
      rw [TL.tl_ofString] at q
      have e0 : ("0".toList.map Char.toNat) = [48] := by decide
      rw [e0] at q
      have q' : [c] = [48] := q
      exact (List.cons.inj q').1
    rw [c48] at hc
    have n0 := sh_zero hc
    subst n0
    have e1 : decide (sh 0 = "0") = true := by decide
    rw [e1]
    exact ⟨_, it, by omega, K⟩
  · rw [decide_eq_false hz]
    exact ⟨_, it, by omega, K⟩
theorem sh_free {n s : Nat} (h : s < 48 ∨ 57 < s) : s ∉ TL.tl (sh n) := by rw [tl_sh]; exact TL.numL_free h
def dueT (t b : Nat) : Str := sh t ++ "/" ++ sh b
theorem due_in_yes {t b : Nat} {S : Sto} {Q : NQ} {E} {T : TgQ Q E} (ht : t < 10 ^ 13) (hb : b < 10 ^ 13) (k : ∀ S', Keeps S S' → Q (.tup [.int t, .int b]) S') : runF sp_due_in [.str (dueT t b)] S Q E T := by
  simp_arith! [sp_due_in, m_due_in]
  have ep : Txt.partition (dueT t b) (Str.ofString "/") = (sh t, Str.ofString "/", sh b) := TL.partition_app (s := 47) (S := []) (by rw [TL.tl_ofString]; decide) (sh_free (by omega))
  have l1 := sh_len (k := 13) (by decide) ht
  have l2 := sh_len (k := 13) (by decide) hb
  have sl : (64 : Nat) ≤ sizeLine := by decide
  have hl : (dueT t b).length ≤ sizeLine := by
    unfold dueT
    rw [TL.len_tl, TL.tl_append, TL.tl_append, List.length_append, List.length_append, ← TL.len_tl, ← TL.len_tl, ← TL.len_tl]
    have : (Str.ofString "/").length = 1 := by decide
    omega
  have e1 : ((Str.ofString "/").length == 0) = false := by decide
  simp_arith [e1, hl]
  generalize Txt.partition (dueT t b) (Str.ofString "/") = pp at ep ⊢
  subst ep
  dsimp only
  refine number_in_yes ht fun S1 K1 => ?_
  simp_arith []
  refine number_in_yes hb fun S2 K2 => ?_
  simp_arith []
  refine number_in_yes ht fun S3 K3 => ?_
  try simp_arith []
  refine number_in_yes hb fun S4 K4 => ?_
  try simp_arith []
  exact k _ (((K1.trans K2).trans K3).trans K4)

/-! ### a maker's row is read -/
def shI (i : Int) : Str := Str.ofString (toString i)
theorem shI_nat {i : Int} (h : 0 ≤ i) : shI i = sh i.toNat := by
  have e : i = ((i.toNat : Nat) : Int) := by omega
  unfold sh
  rw [← e]
  rfl
theorem number_in_int {i : Int} {S : Sto} {Q : NQ} {E} {T : TgQ Q E} (h0 : 0 ≤ i) (h1 : i < 10000000000000) (k : ∀ S', Keeps S S' → Q (.int i) S') : runF sp_number_in [.str (shI i)] S Q E T := by
  rw [shI_nat h0]
  refine number_in_yes (by omega) fun S' K => ?_
  have e : ((i.toNat : Nat) : Int) = i := by omega
  rw [e]
  exact k S' K
def dueI (t b : Int) : Str := shI t ++ Str.ofString "/" ++ shI b
theorem due_in_int {t b : Int} {S : Sto} {Q : NQ} {E} {T : TgQ Q E} (d : Due t b) (k : ∀ S', Keeps S S' → Q (.tup [.int t, .int b]) S') : runF sp_due_in [.str (dueI t b)] S Q E T := by
  obtain ⟨t0, b1, b2, tb⟩ := d
  unfold dueI
  rw [shI_nat t0, shI_nat (by omega : 0 ≤ b)]
  refine due_in_yes (by omega) (by omega) fun S' K => ?_
  have e1 : ((t.toNat : Nat) : Int) = t := by omega
  have e2 : ((b.toNat : Nat) : Int) = b := by omega
  rw [e1, e2]
  exact k S' K
def Mk.tails (m : Mk) : List Str := match m.k with
  | .pr => []
  | _ => [shI m.x, shI m.y]
def mwords (nm : Str) (m : Mk) : List Str := Str.ofString "maker" :: nm :: m.word :: shI m.s :: shI m.c :: dueI m.t m.b :: m.tails
theorem cutW {a b c d e f : D} (r : List D) : cutD (a :: b :: c :: d :: e :: f :: r) (some 3) (some 5) = [d, e] ∧ cutD (a :: b :: c :: d :: e :: f :: r) (some 6) Option.none = r := by
  constructor
  · unfold cutD
    have h1 : HT.sIx (a :: b :: c :: d :: e :: f :: r).length 0 (some 3) = 3 := (HT.sIx_nat _ _ 3).trans (Nat.min_eq_left (by simp only [List.length_cons]; omega))
    have h2 : HT.sIx (a :: b :: c :: d :: e :: f :: r).length (a :: b :: c :: d :: e :: f :: r).length (some 5) = 5 := (HT.sIx_nat _ _ 5).trans (Nat.min_eq_left (by simp only [List.length_cons]; omega))
    rw [h1, h2]; rfl
  · unfold cutD
    have h1 : HT.sIx (a :: b :: c :: d :: e :: f :: r).length 0 (some 6) = 6 := (HT.sIx_nat _ _ 6).trans (Nat.min_eq_left (by simp only [List.length_cons]; omega))
    rw [h1, HT.sIx_none]
    simp
/-- the number that a text writes -/
def decN (d : D) : D := match d with
  | .str z => (match intText? z with
    | some n => .int n
    | Option.none => .non)
  | _ => .non
theorem decN_sh {i : Int} (h0 : 0 ≤ i) (h1 : i < 10000000000000) : decN (.str (shI i)) = .int i := by
  unfold decN
  have l := sh_len (n := i.toNat) (k := 13) (by decide) (by omega)
  have it : intText? (shI i) = some i := by
    rw [shI_nat h0]
    have e : ((i.toNat : Nat) : Int) = i := by omega
    have := TL.int_num (n := i.toNat) (by rw [← tl_sh, ← TL.len_tl]; omega)
    rw [e] at this
    exact (show intText? (sh i.toNat) = some i from by unfold sh; rw [e]; exact this)
  dsimp only
  rw [it]
theorem plain_in_yes {p : Addr} {nm : Str} {m : Mk} {S : Sto} {Q : NQ} {E} {T : TgQ Q E} (o : m.Ok) (hp : S p = some (.lst ((mwords nm m).map D.str))) (k : ∀ S', Keeps S S' → Q m.d S') : runF sp_plain_in [.ref p] S Q E T := by
  simp_arith! [sp_plain_in, m_plain_in]
  have q1 := o.s0; have q2 := o.s1; have q3 := o.c0; have q4 := o.c1
  cases hk : m.k with
  | pr =>
    have ew : m.word = "product" := by unfold Mk.word; rw [hk]
    have et : m.tails = [] := by unfold Mk.tails; rw [hk]
    have hp' : S p = some (.lst [.str "maker", .str nm, .str "product", .str (shI m.s), .str (shI m.c), .str (dueI m.t m.b)]) := by rw [hp]; unfold mwords; rw [ew, et]; rfl
    have lk : List.lookup (Str.ofString "product") c_SIZES = some 6 := by decide
    have n1 : decide (((6 : Nat) : Int) < 6) = false := by decide
    have n2 : decide ((6 : Int) = ((6 : Nat) : Int)) = true := by decide
    have n3 : decide (((6 : Nat) : Int) = 6) = true := by decide
    have cw := cutW (a := .str "maker") (b := .str nm) (c := .str "product") (d := .str (shI m.s)) (e := .str (shI m.c)) (f := .str (dueI m.t m.b)) []
    obtain ⟨cw1, cw2⟩ := cw
    have md' : m.d = .tup [.str "product", .int m.s, .int m.c, .tup [.int m.t, .int m.b]] := by unfold Mk.d Mk.more; rw [ew, hk]
    simp_arith [hp', atI_2, lk, n1, n2, Bool.not_true]
    intro p1 hp1
    have K1 : Keeps S (put S p1 (.lst [.str (shI m.s), .str (shI m.c)])) := Upd.new hp1
    rw [cw1]
    have g1 : put S p1 (.lst [.str (shI m.s), .str (shI m.c)]) p = some (.lst [.str "maker", .str nm, .str "product", .str (shI m.s), .str (shI m.c), .str (dueI m.t m.b)]) := K1 _ _ (by simp) hp'
    have a1 : put S p1 (.lst [.str (shI m.s), .str (shI m.c)]) p1 = some (.lst [.str (shI m.s), .str (shI m.c)]) := put_same
    generalize put S p1 (.lst [.str (shI m.s), .str (shI m.c)]) = S1 at *
    rw [g1]
    dsimp only
    rw [cw2]
    intro p2 hp2
    have K2 : Keeps S1 (put S1 p2 (.lst [])) := Upd.new hp2
    have g2 := K2 _ _ (by simp) a1
    have a2 : put S1 p2 (.lst []) p2 = some (.lst []) := put_same
    have h2 := K2 _ _ (by simp) g1
    generalize put S1 p2 (.lst []) = S2 at *
    rw [g2, a2]
    refine ⟨by simp only [List.length_cons, List.length_nil]; decide, fun p3 hp3 => ?_⟩
    have K3 : Keeps S2 (put S2 p3 (.lst [.str (shI m.s), .str (shI m.c)])) := Upd.new hp3
    have a3 : put S2 p3 (.lst [.str (shI m.s), .str (shI m.c)]) p3 = some (.lst [.str (shI m.s), .str (shI m.c)]) := put_same
    have h3 := K3 _ _ (by simp) h2
    simp only [List.cons_append, List.nil_append]
    generalize put S2 p3 (.lst [.str (shI m.s), .str (shI m.c)]) = S3 at *
    rw [a3]
    dsimp only
    intro p4 hp4
    have n43 : p3 ≠ p4 := fun z => by rw [z] at a3; rw [hp4] at a3; cases a3
    refine ⟨by rw [put_ne n43]; exact a3, ?_⟩
    refine runC_keep decN hp4 (fun S K => K _ _ (by simp) a3) (by simp only [List.length_cons, List.length_nil]; decide) (fun x hx S Y N K hY => ?_) fun S4 K4 g4 => ?_
    · obtain ⟨i, rfl, i0, i1⟩ : ∃ i : Int, x = .str (shI i) ∧ 0 ≤ i ∧ i < 10000000000000 := by
        simp only [List.mem_cons, List.not_mem_nil, or_false] at hx
        rcases hx with rfl | rfl
        · exact ⟨m.s, rfl, by omega, by omega⟩
        · exact ⟨m.c, rfl, by omega, by omega⟩
      simp_arith []
      refine number_in_int i0 i1 fun S5 K5 => ?_
      have := hY S5 K5
      rw [decN_sh i0 i1] at this
      exact this
    simp only [List.map_cons, List.map_nil] at g4
    rw [decN_sh (i := m.s) (by omega) (by omega), decN_sh (i := m.c) (by omega) (by omega)] at g4
    have h4 := K4 _ _ (by simp) h3
    have at5 : atI ([.str "maker", .str nm, .str "product", .str (shI m.s), .str (shI m.c), .str (dueI m.t m.b)] : List D) 5 = some (.str (dueI m.t m.b)) := rfl
    simp_arith [h4, at5]
    refine due_in_int o.due fun S5 K5 => ?_
    have h5 := K5 _ _ (by simp) h4
    have g5 := K5 _ _ (by simp) g4
    have fl : ([.int m.s, .int m.c] : List D).all flatD = true := rfl
    have an : ([.int m.s, .int m.c] : List D).any (fun d => eqF d .non) = false := rfl
    have fn : flatD .non = true := rfl
    have i0 : atI ([.int m.s, .int m.c] : List D) 0 = some (.int m.s) := rfl
    have i1 : atI ([.int m.s, .int m.c] : List D) 1 = some (.int m.c) := rfl

    have kk := k S5 (((((K1.trans K2).trans K3).trans K4)).trans K5)
    rw [md'] at kk
    simp_arith [g5, h5, fl, an, fn, atI_2, i0, i1, n3]
    first | exact kk | (refine ⟨?_, kk⟩; decide)
  | st =>
    obtain ⟨x0, x1, y0, y1, _, _⟩ := o.st hk
    have ew : m.word = "stretch" := by unfold Mk.word; rw [hk]
    have et : m.tails = [shI m.x, shI m.y] := by unfold Mk.tails; rw [hk]
    have hp' : S p = some (.lst [.str "maker", .str nm, .str "stretch", .str (shI m.s), .str (shI m.c), .str (dueI m.t m.b), .str (shI m.x), .str (shI m.y)]) := by rw [hp]; unfold mwords; rw [ew, et]; rfl
    have lk : List.lookup (Str.ofString "stretch") c_SIZES = some 8 := by decide
    have n1 : decide (((8 : Nat) : Int) < 6) = false := by decide
    have n2 : decide ((8 : Int) = ((8 : Nat) : Int)) = true := by decide
    have n3 : decide (((8 : Nat) : Int) = 6) = false := by decide
    have cw := cutW (a := .str "maker") (b := .str nm) (c := .str "stretch") (d := .str (shI m.s)) (e := .str (shI m.c)) (f := .str (dueI m.t m.b)) [.str (shI m.x), .str (shI m.y)]
    obtain ⟨cw1, cw2⟩ := cw
    have md' : m.d = .tup [.str "stretch", .int m.s, .int m.c, .tup [.int m.t, .int m.b], .tup [.int m.x, .int m.y]] := by unfold Mk.d Mk.more; rw [ew, hk]
    simp_arith [hp', atI_2, lk, n1, n2, Bool.not_true]
    intro p1 hp1
    have K1 : Keeps S (put S p1 (.lst [.str (shI m.s), .str (shI m.c)])) := Upd.new hp1
    rw [cw1]
    have g1 : put S p1 (.lst [.str (shI m.s), .str (shI m.c)]) p = some (.lst [.str "maker", .str nm, .str "stretch", .str (shI m.s), .str (shI m.c), .str (dueI m.t m.b), .str (shI m.x), .str (shI m.y)]) := K1 _ _ (by simp) hp'
    have a1 : put S p1 (.lst [.str (shI m.s), .str (shI m.c)]) p1 = some (.lst [.str (shI m.s), .str (shI m.c)]) := put_same
    generalize put S p1 (.lst [.str (shI m.s), .str (shI m.c)]) = S1 at *
    rw [g1]
    dsimp only
    rw [cw2]
    intro p2 hp2
    have K2 : Keeps S1 (put S1 p2 (.lst [.str (shI m.x), .str (shI m.y)])) := Upd.new hp2
    have g2 := K2 _ _ (by simp) a1
    have a2 : put S1 p2 (.lst [.str (shI m.x), .str (shI m.y)]) p2 = some (.lst [.str (shI m.x), .str (shI m.y)]) := put_same
    have h2 := K2 _ _ (by simp) g1
    generalize put S1 p2 (.lst [.str (shI m.x), .str (shI m.y)]) = S2 at *
    rw [g2, a2]
    refine ⟨by simp only [List.length_cons, List.length_nil]; decide, fun p3 hp3 => ?_⟩
    have K3 : Keeps S2 (put S2 p3 (.lst [.str (shI m.s), .str (shI m.c), .str (shI m.x), .str (shI m.y)])) := Upd.new hp3
    have a3 : put S2 p3 (.lst [.str (shI m.s), .str (shI m.c), .str (shI m.x), .str (shI m.y)]) p3 = some (.lst [.str (shI m.s), .str (shI m.c), .str (shI m.x), .str (shI m.y)]) := put_same
    have h3 := K3 _ _ (by simp) h2
    simp only [List.cons_append, List.nil_append]
    generalize put S2 p3 (.lst [.str (shI m.s), .str (shI m.c), .str (shI m.x), .str (shI m.y)]) = S3 at *
    rw [a3]
    dsimp only
    intro p4 hp4
    have n43 : p3 ≠ p4 := fun z => by rw [z] at a3; rw [hp4] at a3; cases a3
    refine ⟨by rw [put_ne n43]; exact a3, ?_⟩
    refine runC_keep decN hp4 (fun S K => K _ _ (by simp) a3) (by simp only [List.length_cons, List.length_nil]; decide) (fun x hx S Y N K hY => ?_) fun S4 K4 g4 => ?_
    · obtain ⟨i, rfl, i0, i1⟩ : ∃ i : Int, x = .str (shI i) ∧ 0 ≤ i ∧ i < 10000000000000 := by
        simp only [List.mem_cons, List.not_mem_nil, or_false] at hx
        rcases hx with rfl | rfl | rfl | rfl
        · exact ⟨m.s, rfl, by omega, by omega⟩
        · exact ⟨m.c, rfl, by omega, by omega⟩
        · exact ⟨m.x, rfl, by omega, by omega⟩
        · exact ⟨m.y, rfl, by omega, by omega⟩
      simp_arith []
      refine number_in_int i0 i1 fun S5 K5 => ?_
      have := hY S5 K5
      rw [decN_sh i0 i1] at this
      exact this
    simp only [List.map_cons, List.map_nil] at g4
    rw [decN_sh (i := m.s) (by omega) (by omega), decN_sh (i := m.c) (by omega) (by omega), decN_sh (i := m.x) (by omega) (by omega), decN_sh (i := m.y) (by omega) (by omega)] at g4
    have h4 := K4 _ _ (by simp) h3
    have at5 : atI ([.str "maker", .str nm, .str "stretch", .str (shI m.s), .str (shI m.c), .str (dueI m.t m.b), .str (shI m.x), .str (shI m.y)] : List D) 5 = some (.str (dueI m.t m.b)) := rfl
    simp_arith [h4, at5]
    refine due_in_int o.due fun S5 K5 => ?_
    have h5 := K5 _ _ (by simp) h4
    have g5 := K5 _ _ (by simp) g4
    have fl : ([.int m.s, .int m.c, .int m.x, .int m.y] : List D).all flatD = true := rfl
    have an : ([.int m.s, .int m.c, .int m.x, .int m.y] : List D).any (fun d => eqF d .non) = false := rfl
    have fn : flatD .non = true := rfl
    have i0 : atI ([.int m.s, .int m.c, .int m.x, .int m.y] : List D) 0 = some (.int m.s) := rfl
    have i1 : atI ([.int m.s, .int m.c, .int m.x, .int m.y] : List D) 1 = some (.int m.c) := rfl
    have i2 : atI ([.int m.s, .int m.c, .int m.x, .int m.y] : List D) 2 = some (.int m.x) := rfl
    have i3 : atI ([.int m.s, .int m.c, .int m.x, .int m.y] : List D) 3 = some (.int m.y) := rfl
    have kk := k S5 (((((K1.trans K2).trans K3).trans K4)).trans K5)
    rw [md'] at kk
    simp_arith [g5, h5, fl, an, fn, atI_2, i0, i1, n3, i2, i3, List.cons_append, List.nil_append]
    first | exact kk | (refine ⟨?_, kk⟩; decide)
  | su =>
    obtain ⟨x0, x1, y0, y1⟩ := o.su hk
    have ew : m.word = "sum" := by unfold Mk.word; rw [hk]
    have et : m.tails = [shI m.x, shI m.y] := by unfold Mk.tails; rw [hk]
    have hp' : S p = some (.lst [.str "maker", .str nm, .str "sum", .str (shI m.s), .str (shI m.c), .str (dueI m.t m.b), .str (shI m.x), .str (shI m.y)]) := by rw [hp]; unfold mwords; rw [ew, et]; rfl
    have lk : List.lookup (Str.ofString "sum") c_SIZES = some 8 := by decide
    have n1 : decide (((8 : Nat) : Int) < 6) = false := by decide
    have n2 : decide ((8 : Int) = ((8 : Nat) : Int)) = true := by decide
    have n3 : decide (((8 : Nat) : Int) = 6) = false := by decide
    have cw := cutW (a := .str "maker") (b := .str nm) (c := .str "sum") (d := .str (shI m.s)) (e := .str (shI m.c)) (f := .str (dueI m.t m.b)) [.str (shI m.x), .str (shI m.y)]
    obtain ⟨cw1, cw2⟩ := cw
    have md' : m.d = .tup [.str "sum", .int m.s, .int m.c, .tup [.int m.t, .int m.b], .tup [.int m.x, .int m.y]] := by unfold Mk.d Mk.more; rw [ew, hk]
    simp_arith [hp', atI_2, lk, n1, n2, Bool.not_true]
    intro p1 hp1
    have K1 : Keeps S (put S p1 (.lst [.str (shI m.s), .str (shI m.c)])) := Upd.new hp1
    rw [cw1]
    have g1 : put S p1 (.lst [.str (shI m.s), .str (shI m.c)]) p = some (.lst [.str "maker", .str nm, .str "sum", .str (shI m.s), .str (shI m.c), .str (dueI m.t m.b), .str (shI m.x), .str (shI m.y)]) := K1 _ _ (by simp) hp'
    have a1 : put S p1 (.lst [.str (shI m.s), .str (shI m.c)]) p1 = some (.lst [.str (shI m.s), .str (shI m.c)]) := put_same
    generalize put S p1 (.lst [.str (shI m.s), .str (shI m.c)]) = S1 at *
    rw [g1]
    dsimp only
    rw [cw2]
    intro p2 hp2
    have K2 : Keeps S1 (put S1 p2 (.lst [.str (shI m.x), .str (shI m.y)])) := Upd.new hp2
    have g2 := K2 _ _ (by simp) a1
    have a2 : put S1 p2 (.lst [.str (shI m.x), .str (shI m.y)]) p2 = some (.lst [.str (shI m.x), .str (shI m.y)]) := put_same
    have h2 := K2 _ _ (by simp) g1
    generalize put S1 p2 (.lst [.str (shI m.x), .str (shI m.y)]) = S2 at *
    rw [g2, a2]
    refine ⟨by simp only [List.length_cons, List.length_nil]; decide, fun p3 hp3 => ?_⟩
    have K3 : Keeps S2 (put S2 p3 (.lst [.str (shI m.s), .str (shI m.c), .str (shI m.x), .str (shI m.y)])) := Upd.new hp3
    have a3 : put S2 p3 (.lst [.str (shI m.s), .str (shI m.c), .str (shI m.x), .str (shI m.y)]) p3 = some (.lst [.str (shI m.s), .str (shI m.c), .str (shI m.x), .str (shI m.y)]) := put_same
    have h3 := K3 _ _ (by simp) h2
    simp only [List.cons_append, List.nil_append]
    generalize put S2 p3 (.lst [.str (shI m.s), .str (shI m.c), .str (shI m.x), .str (shI m.y)]) = S3 at *
    rw [a3]
    dsimp only
    intro p4 hp4
    have n43 : p3 ≠ p4 := fun z => by rw [z] at a3; rw [hp4] at a3; cases a3
    refine ⟨by rw [put_ne n43]; exact a3, ?_⟩
    refine runC_keep decN hp4 (fun S K => K _ _ (by simp) a3) (by simp only [List.length_cons, List.length_nil]; decide) (fun x hx S Y N K hY => ?_) fun S4 K4 g4 => ?_
    · obtain ⟨i, rfl, i0, i1⟩ : ∃ i : Int, x = .str (shI i) ∧ 0 ≤ i ∧ i < 10000000000000 := by
        simp only [List.mem_cons, List.not_mem_nil, or_false] at hx
        rcases hx with rfl | rfl | rfl | rfl
        · exact ⟨m.s, rfl, by omega, by omega⟩
        · exact ⟨m.c, rfl, by omega, by omega⟩
        · exact ⟨m.x, rfl, by omega, by omega⟩
        · exact ⟨m.y, rfl, by omega, by omega⟩
      simp_arith []
      refine number_in_int i0 i1 fun S5 K5 => ?_
      have := hY S5 K5
      rw [decN_sh i0 i1] at this
      exact this
    simp only [List.map_cons, List.map_nil] at g4
    rw [decN_sh (i := m.s) (by omega) (by omega), decN_sh (i := m.c) (by omega) (by omega), decN_sh (i := m.x) (by omega) (by omega), decN_sh (i := m.y) (by omega) (by omega)] at g4
    have h4 := K4 _ _ (by simp) h3
    have at5 : atI ([.str "maker", .str nm, .str "sum", .str (shI m.s), .str (shI m.c), .str (dueI m.t m.b), .str (shI m.x), .str (shI m.y)] : List D) 5 = some (.str (dueI m.t m.b)) := rfl
    simp_arith [h4, at5]
    refine due_in_int o.due fun S5 K5 => ?_
    have h5 := K5 _ _ (by simp) h4
    have g5 := K5 _ _ (by simp) g4
    have fl : ([.int m.s, .int m.c, .int m.x, .int m.y] : List D).all flatD = true := rfl
    have an : ([.int m.s, .int m.c, .int m.x, .int m.y] : List D).any (fun d => eqF d .non) = false := rfl
    have fn : flatD .non = true := rfl
    have i0 : atI ([.int m.s, .int m.c, .int m.x, .int m.y] : List D) 0 = some (.int m.s) := rfl
    have i1 : atI ([.int m.s, .int m.c, .int m.x, .int m.y] : List D) 1 = some (.int m.c) := rfl
    have i2 : atI ([.int m.s, .int m.c, .int m.x, .int m.y] : List D) 2 = some (.int m.x) := rfl
    have i3 : atI ([.int m.s, .int m.c, .int m.x, .int m.y] : List D) 3 = some (.int m.y) := rfl
    have kk := k S5 (((((K1.trans K2).trans K3).trans K4)).trans K5)
    rw [md'] at kk
    simp_arith [g5, h5, fl, an, fn, atI_2, i0, i1, n3, i2, i3, List.cons_append, List.nil_append]
    first | exact kk | (refine ⟨?_, kk⟩; decide)

/-! ### markets -/
structure Mkr where
  nm : Str
  m : Mk
  p : Addr
  q : Addr
structure Hnd where
  nm : Str
  a : Int
  b : Int
structure Hnd.Ok (h : Hnd) : Prop where
  a0 : 0 ≤ h.a
  a1 : h.a ≤ 1000000000000
  b0 : 0 ≤ h.b
  b1 : h.b ≤ 1000000000000
def stD (ms : List Mkr) : List (Key × D) := ms.map fun r => (.inr r.nm, .ref r.p)
def poD (hs : List Hnd) : List (Key × D) := hs.map fun h => (.inr h.nm, .tup [.int h.a, .int h.b])
structure MarketAt (g ps pk : Addr) (ms : List Mkr) (hs : List Hnd) (S : Sto) : Prop where
  ins : S g = some (.ins "Market" [("stalls", .ref ps), ("pockets", .ref pk)])
  sta : S ps = some (.dic (stD ms))
  poc : S pk = some (.dic (poD hs))
  mks : ∀ r ∈ ms, MkAt r.p r.q r.m S
  ne : ps ≠ pk
  qn : (ms.map (·.q)).Nodup
theorem MarketAt.up {g ps pk : Addr} {ms : List Mkr} {hs : List Hnd} {S S' : Sto} {A : List Addr} (h : MarketAt g ps pk ms hs S) (u : Upd A S S') (hg : g ∉ A) (hps : ps ∉ A) (hpk : pk ∉ A) (hm : ∀ r ∈ ms, r.p ∉ A ∧ r.q ∉ A) : MarketAt g ps pk ms hs S' :=
  ⟨u _ _ hg h.ins, u _ _ hps h.sta, u _ _ hpk h.poc, fun r hr => (h.mks r hr).up u (hm r hr).1 (hm r hr).2, h.ne, h.qn⟩
theorem MarketAt.keep {g ps pk : Addr} {ms : List Mkr} {hs : List Hnd} {S S' : Sto} (h : MarketAt g ps pk ms hs S) (u : Keeps S S') : MarketAt g ps pk ms hs S' := h.up u (by simp) (by simp) (by simp) fun _ _ => ⟨by simp, by simp⟩
theorem dput_new {kvs : List (Key × D)} {k : Key} {v : D} (h : ∀ p ∈ kvs, p.1 ≠ k) : dput kvs k v = kvs ++ [(k, v)] := by
  unfold dput
  rw [if_neg]
  intro z
  obtain ⟨p, hp, e⟩ := List.any_eq_true.mp z
  exact h p hp (of_decide_eq_true e)
theorem dget_none {kvs : List (Key × D)} {k : Key} (h : ∀ p ∈ kvs, p.1 ≠ k) : dget kvs k = Option.none := by
  unfold dget
  rw [List.find?_eq_none.mpr fun p hp => by simpa using h p hp]
  rfl
theorem made_yes {m : Mk} {S : Sto} {Q : NQ} {E} {T : TgQ Q E} (o : m.Ok) (k : ∀ p q S', S p = Option.none → S q = Option.none → MkAt p q m S' → Keeps S S' → Q (.ref p) S') : runF sp_made_or_none [m.d] S Q E T := by
  simp_arith! [sp_made_or_none, m_made_or_none]
  try simp_arith []
  refine maker_of_ok o fun p q S1 hp hq M K => ?_
  try simp_arith []
  exact k p q S1 hp hq M K
theorem flds1 {ps pk : Addr} : List.lookup ("stalls" : Str) ([("stalls", .ref ps), ("pockets", .ref pk)] : List (Str × D)) = some (.ref ps) := by simp [List.lookup]
theorem flds2 {ps pk : Addr} : List.lookup ("pockets" : Str) ([("stalls", .ref ps), ("pockets", .ref pk)] : List (Str × D)) = some (.ref pk) := by simp [List.lookup, ofString_beq]
theorem inr_ne {a b : Str} (h : a ≠ b) : (Sum.inr a : Key) ≠ Sum.inr b := fun z => h (Sum.inr.inj z)
theorem st_keys {ms : List Mkr} {nm : Str} (h : ∀ r ∈ ms, r.nm ≠ nm) : ∀ p ∈ stD ms, p.1 ≠ (.inr nm : Key) := by
  intro p hp
  obtain ⟨r, hr, rfl⟩ := List.mem_map.mp hp
  exact inr_ne (h r hr)
theorem po_keys {hs : List Hnd} {nm : Str} (h : ∀ r ∈ hs, r.nm ≠ nm) : ∀ p ∈ poD hs, p.1 ≠ (.inr nm : Key) := by
  intro p hp
  obtain ⟨r, hr, rfl⟩ := List.mem_map.mp hp
  exact inr_ne (h r hr)
theorem put_maker_yes {g ps pk w : Addr} {ms : List Mkr} {nm : Str} {m : Mk} {S : Sto} {Q : NQ} {E} {T : TgQ Q E} (G : MarketAt g ps pk ms [] S) (o : m.Ok) (hl : ms.length < 6) (hn : ∀ r ∈ ms, r.nm ≠ nm) (hw : S w = some (.lst ((mwords nm m).map D.str)))
    (k : ∀ p q S', S p = Option.none → S q = Option.none → MarketAt g ps pk (ms ++ [⟨nm, m, p, q⟩]) [] S' → Upd [ps] S S' → Q (.bl true) S') : runF sp_put_maker [.ref g, .ref w] S Q E T := by
  simp_arith! [sp_put_maker, m_put_maker]
  try simp_arith []
  refine plain_in_yes o hw fun S1 K1 => ?_
  have G1 := G.keep K1
  have md' := md m
  rw [md m]
  simp_arith []
  rw [← md m]
  refine made_yes o fun p q S2 hp hq M2 K2 => ?_
  have G2 := G1.keep K2
  have w2 := K2 _ _ (by simp) (K1 _ _ (by simp) hw)
  have ln : decide ((((stD ms).length : Nat) : Int) = 6) = false := by
    unfold stD
    rw [List.length_map]
    exact decide_eq_false (by omega)
  have at1 : atI ((mwords nm m).map D.str) 1 = some (.str nm) := by
    unfold mwords
    exact atI_1 _ _ _
  have lm : (stD ms).length < sizeLine := by
    have : (64 : Nat) ≤ sizeLine := by decide
    unfold stD
    rw [List.length_map]
    omega
  simp_arith [G2.ins, flds1, flds2, G2.sta, ln, Option.map_some]
  intro z hz
  have K3 : Keeps S2 (put S2 z (.dic [])) := Upd.new hz
  have G3 := G2.keep K3
  have gz : put S2 z (.dic []) z = some (.dic []) := put_same
  have w3 := K3 _ _ (by simp) w2
  have M3 := M2.up K3 (by simp) (by simp)
  generalize put S2 z (.dic []) = S3 at *
  have poc : S3 pk = some (.dic []) := G3.poc
  have e0 : eqDic [] [] = some true := rfl
  have dp : dput (stD ms) (.inr nm) (.ref p) = stD (ms ++ [⟨nm, m, p, q⟩]) := by
    rw [dput_new (st_keys hn)]
    unfold stD
    rw [List.map_append]
    rfl
  simp_arith [poc, gz, e0, Bool.not_true, G3.ins, flds1, w3, at1, G3.sta, lm, dp]
  have nps : ∀ {x : Addr} {o : Ob}, S3 x = some o → (∀ l, o ≠ .dic l) → x ∉ [ps] := fun e n => by
    simp only [List.mem_cons, List.not_mem_nil, or_false]
    intro zz
    rw [zz, G3.sta] at e
    cases e
    exact n _ rfl
  have u : Upd [ps] S3 (put S3 ps (.dic (stD (ms ++ [⟨nm, m, p, q⟩])))) := Upd.at (by simp)
  refine k p q _ (K1.fresh' hp (by simp)) (K1.fresh' hq (by simp)) ⟨u _ _ (nps G3.ins (by simp)) G3.ins, put_same, u _ _ (by simpa using Ne.symm G3.ne) G3.poc, fun r hr => ?_, G3.ne, ?_⟩ (Upd.trans (Keeps.up (Upd.trans (Upd.trans K1 K2) K3)) u)
  · rcases List.mem_append.mp hr with hr | hr
    · exact (G3.mks r hr).up u (nps (G3.mks r hr).ins (by simp)) (nps (G3.mks r hr).lst (by simp))
    · rw [List.mem_singleton.mp hr]
      exact M3.up u (nps M3.ins (by simp)) (nps M3.lst (by simp))
  · rw [List.map_append, List.nodup_append]
    refine ⟨G3.qn, by simp, fun a ha b hb => ?_⟩
    rw [List.map_cons, List.map_nil, List.mem_singleton] at hb
    obtain ⟨r, hr, rfl⟩ := List.mem_map.mp ha
    intro zz
    have := (G1.mks r hr).lst
    rw [zz, hb, hq] at this
    cases this
def hwords (h : Hnd) : List Str := [Str.ofString "hand", h.nm, shI h.a, shI h.b]
theorem eqDic_no {ks : List (Key × D)} (h : ks ≠ []) : eqDic ks [] = some false := by
  unfold eqDic
  rw [if_neg (by simpa using h)]
theorem put_hand_yes {g ps pk w : Addr} {ms : List Mkr} {hs : List Hnd} {h : Hnd} {S : Sto} {Q : NQ} {E} {T : TgQ Q E} (G : MarketAt g ps pk ms hs S) (o : h.Ok) (hl : hs.length < 6) (hm : ms ≠ []) (hn : ∀ r ∈ hs, r.nm ≠ h.nm) (hw : S w = some (.lst ((hwords h).map D.str)))
    (k : ∀ S', MarketAt g ps pk ms (hs ++ [h]) S' → Upd [pk] S S' → Q (.bl true) S') : runF sp_put_hand [.ref g, .ref w] S Q E T := by
  obtain ⟨a0, a1, b0, b1⟩ := o
  simp_arith! [sp_put_hand, m_put_hand]
  have ln : decide ((((poD hs).length : Nat) : Int) = 6) = false := by
    unfold poD
    rw [List.length_map]
    exact decide_eq_false (by omega)
  have lm : (poD hs).length < sizeLine := by
    have : (64 : Nat) ≤ sizeLine := by decide
    unfold poD
    rw [List.length_map]
    omega
  have hw' : S w = some (.lst [.str "hand", .str h.nm, .str (shI h.a), .str (shI h.b)]) := hw
  have n4 : decide (((4 : Nat) : Int) = 4) = true := by decide
  have sne : stD ms ≠ [] := by
    unfold stD
    intro z
    exact hm (List.map_eq_nil_iff.mp z)
  simp_arith [hw', n4, Bool.not_true, G.ins, flds1, flds2, G.poc, ln, Option.map_some]
  intro z hz
  have K1 : Keeps S (put S z (.dic [])) := Upd.new hz
  have G1 := G.keep K1
  have gz : put S z (.dic []) z = some (.dic []) := put_same
  have w1 := K1 _ _ (by simp) hw'
  generalize put S z (.dic []) = S1 at *
  have at1 : atI ([.str "hand", .str h.nm, .str (shI h.a), .str (shI h.b)] : List D) 1 = some (.str h.nm) := rfl
  have at2 : atI ([.str "hand", .str h.nm, .str (shI h.a), .str (shI h.b)] : List D) 2 = some (.str (shI h.a)) := rfl
  have at3 : atI ([.str "hand", .str h.nm, .str (shI h.a), .str (shI h.b)] : List D) 3 = some (.str (shI h.b)) := rfl
  simp_arith [G1.sta, gz, eqDic_no sne, w1, at2]
  refine number_in_int a0 (by omega) fun S2 K2 => ?_
  have w2 := K2 _ _ (by simp) w1
  simp_arith [w2, at3]
  refine number_in_int b0 (by omega) fun S3 K3 => ?_
  have w3 := K3 _ _ (by simp) w2
  have G3 := (G1.keep K2).keep K3
  have fl : ([.int h.a, .int h.b] : List D).all flatD = true := rfl
  have an : ([.int h.a, .int h.b] : List D).any (fun d => eqF d .non) = false := rfl
  have fn : flatD .non = true := rfl
  have io : intsOf [.int h.b] = some [h.b] := rfl
  have mx : decide (1000000000000 < List.foldl max h.a [h.b]) = false := decide_eq_false (by
    show ¬ 1000000000000 < max h.a h.b
    omega)
  have dp : dput (poD hs) (.inr h.nm) (.tup [.int h.a, .int h.b]) = poD (hs ++ [h]) := by
    rw [dput_new (po_keys hn)]
    unfold poD
    rw [List.map_append]
    rfl
  simp_arith [fl, an, fn, io, mx, G3.ins, flds2, w3, at1, G3.poc, lm, dp]
  refine ⟨by decide, ?_⟩
  have npk : ∀ {x : Addr} {o : Ob}, S3 x = some o → (∀ l, o ≠ .dic l) → x ∉ [pk] := fun e n => by
    simp only [List.mem_cons, List.not_mem_nil, or_false]
    intro zz
    rw [zz, G3.poc] at e
    cases e
    exact n _ rfl
  have u : Upd [pk] S3 (put S3 pk (.dic (poD (hs ++ [h])))) := Upd.at (by simp)
  exact k _ ⟨u _ _ (npk G3.ins (by simp)) G3.ins, u _ _ (by simpa using G3.ne) G3.sta, put_same, fun r hr => (G3.mks r hr).up u (npk (G3.mks r hr).ins (by simp)) (npk (G3.mks r hr).lst (by simp)), G3.ne, G3.qn⟩ (Upd.trans (Keeps.up (Upd.trans (Upd.trans K1 K2) K3)) u)
theorem is_put_maker {g ps pk w : Addr} {ms : List Mkr} {nm : Str} {m : Mk} {S : Sto} {Q : NQ} {E} {T : TgQ Q E} (G : MarketAt g ps pk ms [] S) (o : m.Ok) (no : NameOk nm) (hl : ms.length < 6) (hn : ∀ r ∈ ms, r.nm ≠ nm) (hw : S w = some (.lst ((mwords nm m).map D.str)))
    (k : ∀ p q S', S p = Option.none → S q = Option.none → MarketAt g ps pk (ms ++ [⟨nm, m, p, q⟩]) [] S' → Upd [ps] S S' → Q (.bl true) S') : runF sp_is_put [.ref g, .ref w] S Q E T := by
  simp_arith! [sp_is_put, m_is_put]
  have l2 : decide (((((mwords nm m).map D.str).length : Nat) : Int) < 2) = false := by
    unfold mwords
    simp only [List.map_cons, List.length_cons]
    exact decide_eq_false (by omega)
  have at0 : atI ((mwords nm m).map D.str) 0 = some (.str "maker") := by
    unfold mwords
    exact atI_0 _ _
  have at1 : atI ((mwords nm m).map D.str) 1 = some (.str nm) := by
    unfold mwords
    exact atI_1 _ _ _
  simp_arith [hw, l2, at1]
  refine is_name_yes no fun S1 K1 => ?_
  have G1 := G.keep K1
  have w1 := K1 _ _ (by simp) hw
  have d1 := dget_none (st_keys hn)
  have d2 : dget (poD []) (.inr nm) = Option.none := rfl
  simp_arith [Bool.not_true, w1, at1, at0, G1.ins, flds1, flds2, G1.sta, G1.poc, d1, d2, Option.isSome_none, decide_true]
  exact put_maker_yes G1 o hl hn w1 fun p q S' hp hq G' u => k p q S' (K1.fresh' hp (by simp)) (K1.fresh' hq (by simp)) G' (K1.up.trans u)
theorem is_put_hand {g ps pk w : Addr} {ms : List Mkr} {hs : List Hnd} {h : Hnd} {S : Sto} {Q : NQ} {E} {T : TgQ Q E} (G : MarketAt g ps pk ms hs S) (o : h.Ok) (no : NameOk h.nm) (hl : hs.length < 6) (hm : ms ≠ []) (hn : ∀ r ∈ hs, r.nm ≠ h.nm) (hn2 : ∀ r ∈ ms, r.nm ≠ h.nm) (hw : S w = some (.lst ((hwords h).map D.str)))
    (k : ∀ S', MarketAt g ps pk ms (hs ++ [h]) S' → Upd [pk] S S' → Q (.bl true) S') : runF sp_is_put [.ref g, .ref w] S Q E T := by
  simp_arith! [sp_is_put, m_is_put]
  have hw' : S w = some (.lst [.str "hand", .str h.nm, .str (shI h.a), .str (shI h.b)]) := hw
  have l2 : decide (((4 : Nat) : Int) < 2) = false := by decide
  have at0 : atI ([.str "hand", .str h.nm, .str (shI h.a), .str (shI h.b)] : List D) 0 = some (.str "hand") := rfl
  have at1 : atI ([.str "hand", .str h.nm, .str (shI h.a), .str (shI h.b)] : List D) 1 = some (.str h.nm) := rfl
  simp_arith [hw', l2, at1]
  refine is_name_yes no fun S1 K1 => ?_
  have G1 := G.keep K1
  have w1 := K1 _ _ (by simp) hw'
  have d1 := dget_none (st_keys hn2)
  have d2 := dget_none (po_keys hn)
  have n1 : ("hand" = "maker") = False := by decide
  simp_arith [Bool.not_true, w1, at1, at0, G1.ins, flds1, flds2, G1.sta, G1.poc, d1, d2, Option.isSome_none, ofString_inj, n1, decide_false, decide_true]
  exact put_hand_yes G1 o hl hm hn w1 fun S' G' u => k S' G' (K1.up.trans u)
theorem market_init {g : Addr} {S : Sto} {Q : NQ} {E} {T : TgQ Q E} (hg : S g = some (.ins "Market" [])) (k : ∀ ps pk S', MarketAt g ps pk [] [] S' → S ps = Option.none → S pk = Option.none → Upd [g] S S' → Q .non S') : runF sp_Market___init__ [.ref g] S Q E T := by
  simp_arith! [sp_Market___init__, m_Market___init__]
  try simp_arith []
  intro ps hps
  have gps : g ≠ ps := fun z => by rw [← z, hg] at hps; cases hps
  have g1 : put S ps (.dic []) g = some (.ins "Market" []) := by rw [put_ne gps]; exact hg
  have p1 : putD "stalls" (.ref ps) ([] : List (Str × D)) = ([("stalls", .ref ps)] : List (Str × D)) := rfl
  simp_arith [g1, p1]
  refine ⟨by decide, fun pk hpk => ?_⟩
  have e1 : (put (put S ps (.dic [])) g (.ins "Market" [("stalls", .ref ps)])) ps = some (.dic []) := by rw [put_ne (Ne.symm gps), put_same]
  have e2 : (put (put S ps (.dic [])) g (.ins "Market" [("stalls", .ref ps)])) g = some (.ins "Market" [("stalls", .ref ps)]) := put_same
  have u1 : Upd [g] S (put (put S ps (.dic [])) g (.ins "Market" [("stalls", .ref ps)])) := (Upd.new hps).trans (Upd.at (by simp))
  generalize put (put S ps (.dic [])) g (.ins "Market" [("stalls", .ref ps)]) = S1 at *
  have u2 : Keeps S1 (put S1 pk (.dic [])) := Upd.new hpk
  have f1 := u2 _ _ (by simp) e1
  have f2 := u2 _ _ (by simp) e2
  have f3 : put S1 pk (.dic []) pk = some (.dic []) := put_same
  have gpk : g ≠ pk := fun z => by rw [z, hpk] at e2; cases e2
  have pp : ps ≠ pk := fun z => by rw [z, hpk] at e1; cases e1
  generalize put S1 pk (.dic []) = S2 at *
  rw [f2]
  have p2 : putD "pockets" (.ref pk) ([("stalls", .ref ps)] : List (Str × D)) = ([("stalls", .ref ps), ("pockets", .ref pk)] : List (Str × D)) := by simp [putD, ofString_inj]
  refine ⟨by simp, ?_⟩
  rw [p2]
  have u3 : Upd [g] S2 (put S2 g (.ins "Market" [("stalls", .ref ps), ("pockets", .ref pk)])) := Upd.at (by simp)
  exact k ps pk _ ⟨put_same, u3 _ _ (by simpa using Ne.symm gps) f1, u3 _ _ (by simpa using Ne.symm gpk) f3, (fun r hr => by cases hr), pp, List.nodup_nil⟩ hps (u1.fresh' hpk (by simpa using Ne.symm gpk)) ((u1.trans u2.up).trans u3)

/-! ### the signs of a market's text -/
structure WordOk (w : Str) : Prop where
  sp : 32 ∉ TL.tl w
  nl : 10 ∉ TL.tl w
  len : w.length ≤ 40
theorem mem_joinL {c : Nat} {S : List Nat} (hS : c ∉ S) : ∀ {ps : List (List Nat)}, (∀ p ∈ ps, c ∉ p) → c ∉ TL.joinL S ps
  | [], _ => by unfold TL.joinL; simp
  | [p], h => by unfold TL.joinL; exact h p (by simp)
  | p :: q :: r, h => by
    unfold TL.joinL
    rw [List.mem_append, List.mem_append]
    rintro (z | z | z)
    · exact h p (by simp) z
    · exact hS z
    · exact mem_joinL hS (fun x hx => h x (by simp at hx ⊢; right; exact hx)) z
theorem len_joinL {S : List Nat} {n : Nat} (hS : S.length ≤ 1) : ∀ {ps : List (List Nat)}, (∀ p ∈ ps, p.length ≤ n) → (TL.joinL S ps).length ≤ ps.length * (n + 1)
  | [], _ => by unfold TL.joinL; simp
  | [p], h => by
    unfold TL.joinL
    have := h p (by simp)
    simp; omega
  | p :: q :: r, h => by
    unfold TL.joinL
    have h1 := h p (by simp)
    have ih := len_joinL (n := n) hS (ps := q :: r) (fun x hx => h x (by simp at hx ⊢; right; exact hx))
    rw [List.length_append, List.length_append]
    simp only [List.length_cons] at ih ⊢
    rw [Nat.add_mul (r.length + 1) 1 (n + 1)]
    omega
def jo (ws : List Str) : Str := Txt.join (Str.ofString " ") ws
def li (rs : List Str) : Str := Txt.join (Str.ofString "\n") rs
theorem tl_sp : TL.tl (Str.ofString " ") = [32] := by rw [TL.tl_ofString]; decide
theorem tl_nl : TL.tl (Str.ofString "\n") = [10] := by rw [TL.tl_ofString]; decide
theorem split_jo {ws : List Str} (hne : ws ≠ []) (h : ∀ w ∈ ws, WordOk w) : Txt.split (jo ws) (Str.ofString " ") = ws := TL.split_join tl_sp (by decide +kernel) hne fun p hp => (h p hp).sp
theorem split_li {rs : List Str} (hne : rs ≠ []) (h : ∀ w ∈ rs, 10 ∉ TL.tl w) : Txt.split (li rs) (Str.ofString "\n") = rs := TL.split_join tl_nl (by decide +kernel) hne fun p hp => h p hp
theorem jo_nl {ws : List Str} (h : ∀ w ∈ ws, WordOk w) : 10 ∉ TL.tl (jo ws) := by
  unfold jo
  rw [TL.join_eq, TL.tl_join, tl_sp]
  exact mem_joinL (by simp) fun p hp => by
    obtain ⟨w, hw, rfl⟩ := List.mem_map.mp hp
    exact (h w hw).nl
theorem jo_len {ws : List Str} (h : ∀ w ∈ ws, WordOk w) (l : ws.length ≤ 8) : (jo ws).length ≤ 400 := by
  rw [TL.len_tl]
  unfold jo
  rw [TL.join_eq, TL.tl_join, tl_sp]
  have := len_joinL (S := [32]) (n := 40) (by simp) (ps := ws.map TL.tl) fun p hp => by
    obtain ⟨w, hw, rfl⟩ := List.mem_map.mp hp
    rw [← TL.len_tl]; exact (h w hw).len
  rw [List.length_map] at this
  omega
theorem li_len {rs : List Str} (h : ∀ w ∈ rs, w.length ≤ 400) (l : rs.length ≤ 12) : (li rs).length ≤ 5000 := by
  rw [TL.len_tl]
  unfold li
  rw [TL.join_eq, TL.tl_join, tl_nl]
  have := len_joinL (S := [10]) (n := 400) (by simp) (ps := rs.map TL.tl) fun p hp => by
    obtain ⟨w, hw, rfl⟩ := List.mem_map.mp hp
    rw [← TL.len_tl]; exact h w hw
  rw [List.length_map] at this
  omega
theorem letters : TL.tl (Str.ofString "abcdefghijklmnopqrstuvwxyz") = (List.range 26).map (· + 97) := by rw [TL.tl_ofString]; decide
theorem NameOk.word {z : Str} (h : NameOk z) : WordOk z := by
  have al : ∀ c ∈ TL.tl z, 97 ≤ c := by
    intro c hc
    have q := List.all_eq_true.mp h.all c hc
    have q := of_decide_eq_true q
    rw [letters] at q
    obtain ⟨i, _, rfl⟩ := List.mem_map.mp q
    omega
  exact ⟨fun z => by have := al _ z; omega, fun z => by have := al _ z; omega, by have := h.l2; omega⟩
theorem word_sh {i : Int} (h0 : 0 ≤ i) (h1 : i < 10000000000000) : WordOk (shI i) := by
  rw [shI_nat h0]
  exact ⟨sh_free (by omega), sh_free (by omega), by have := sh_len (n := i.toNat) (k := 13) (by decide) (by omega); omega⟩
theorem word_due {t b : Int} (d : Due t b) : WordOk (dueI t b) := by
  obtain ⟨t0, b1, b2, tb⟩ := d
  have w1 := word_sh t0 (by omega)
  have w2 := word_sh (by omega : 0 ≤ b) (by omega)
  have ts : TL.tl (Str.ofString "/") = [47] := by rw [TL.tl_ofString]; decide
  have l1 := sh_len (n := t.toNat) (k := 13) (by decide) (by omega)
  have l2 := sh_len (n := b.toNat) (k := 13) (by decide) (by omega)
  rw [← shI_nat t0] at l1
  rw [← shI_nat (by omega : 0 ≤ b)] at l2
  refine ⟨?_, ?_, ?_⟩
  · unfold dueI
    rw [TL.tl_append, TL.tl_append, ts, List.mem_append, List.mem_append]
    rintro ((z | z) | z)
    · exact w1.sp z
    · simp at z
    · exact w2.sp z
  · unfold dueI
    rw [TL.tl_append, TL.tl_append, ts, List.mem_append, List.mem_append]
    rintro ((z | z) | z)
    · exact w1.nl z
    · simp at z
    · exact w2.nl z
  · unfold dueI
    rw [TL.len_tl, TL.tl_append, TL.tl_append, ts, List.length_append, List.length_append, ← TL.len_tl, ← TL.len_tl]
    simp only [List.length_cons, List.length_nil]
    omega
theorem word_fix {s : String} (h1 : 32 ∉ s.toList.map Char.toNat) (h2 : 10 ∉ s.toList.map Char.toNat) (h3 : (s.toList.map Char.toNat).length ≤ 40) : WordOk (Str.ofString s) :=
  ⟨by rw [TL.tl_ofString]; exact h1, by rw [TL.tl_ofString]; exact h2, by rw [TL.len_tl, TL.tl_ofString]; exact h3⟩
theorem mwords_ok {nm : Str} {m : Mk} (no : NameOk nm) (o : m.Ok) : (∀ w ∈ mwords nm m, WordOk w) ∧ mwords nm m ≠ [] ∧ (mwords nm m).length ≤ 8 := by
  have q1 := o.s0; have q2 := o.s1; have q3 := o.c0; have q4 := o.c1
  have wm : WordOk m.word := by
    unfold Mk.word
    cases m.k <;> exact word_fix (by decide) (by decide) (by decide)
  have wt : (∀ w ∈ m.tails, WordOk w) ∧ m.tails.length ≤ 2 := by
    have st := o.st
    have su := o.su
    unfold Mk.tails
    cases hk : m.k with
    | pr => exact ⟨by simp, by simp⟩
    | st =>
      obtain ⟨x0, x1, y0, y1, _, _⟩ := st hk
      refine ⟨fun w hw => ?_, by simp⟩
      simp only [List.mem_cons, List.not_mem_nil, or_false] at hw
      rcases hw with rfl | rfl <;> exact word_sh (by omega) (by omega)
    | su =>
      obtain ⟨x0, x1, y0, y1⟩ := su hk
      refine ⟨fun w hw => ?_, by simp⟩
      simp only [List.mem_cons, List.not_mem_nil, or_false] at hw
      rcases hw with rfl | rfl <;> exact word_sh (by omega) (by omega)
  refine ⟨fun w hw => ?_, by unfold mwords; simp, by unfold mwords; simp only [List.length_cons]; have := wt.2; omega⟩
  unfold mwords at hw
  simp only [List.mem_cons] at hw
  rcases hw with rfl | rfl | rfl | rfl | rfl | rfl | hw
  · exact word_fix (by decide) (by decide) (by decide)
  · exact no.word
  · exact wm
  · exact word_sh q1 (by omega)
  · exact word_sh q3 (by omega)
  · exact word_due o.due
  · exact wt.1 w hw
theorem hwords_ok {h : Hnd} (no : NameOk h.nm) (o : h.Ok) : (∀ w ∈ hwords h, WordOk w) ∧ hwords h ≠ [] ∧ (hwords h).length ≤ 8 := by
  obtain ⟨a0, a1, b0, b1⟩ := o
  refine ⟨fun w hw => ?_, by unfold hwords; simp, by unfold hwords; simp⟩
  unfold hwords at hw
  simp only [List.mem_cons, List.not_mem_nil, or_false] at hw
  rcases hw with rfl | rfl | rfl | rfl
  · exact word_fix (by decide) (by decide) (by decide)
  · exact no.word
  · exact word_sh a0 (by omega)
  · exact word_sh b0 (by omega)

/-! ### a market is read -/
def rowM (x : Str × Mk) : Str := jo (mwords x.1 x.2)
def rowH (h : Hnd) : Str := jo (hwords h)
def mtext (ms : List (Str × Mk)) (hs : List Hnd) : Str := li (ms.map rowM ++ hs.map rowH)
structure MTxt (ms : List (Str × Mk)) (hs : List Hnd) : Prop where
  m0 : ms ≠ []
  m6 : ms.length ≤ 6
  h6 : hs.length ≤ 6
  mo : ∀ x ∈ ms, x.2.Ok ∧ NameOk x.1
  ho : ∀ h ∈ hs, h.Ok ∧ NameOk h.nm
  nd : (ms.map (·.1) ++ hs.map (·.nm)).Nodup
theorem MTxt.rows {ms : List (Str × Mk)} {hs : List Hnd} (T : MTxt ms hs) : ∀ r ∈ ms.map rowM ++ hs.map rowH, 10 ∉ TL.tl r ∧ r.length ≤ 400 := by
  intro r hr
  rcases List.mem_append.mp hr with hr | hr
  · obtain ⟨x, hx, rfl⟩ := List.mem_map.mp hr
    obtain ⟨o, no⟩ := T.mo x hx
    obtain ⟨w1, w2, w3⟩ := mwords_ok no o
    exact ⟨jo_nl w1, jo_len w1 w3⟩
  · obtain ⟨x, hx, rfl⟩ := List.mem_map.mp hr
    obtain ⟨o, no⟩ := T.ho x hx
    obtain ⟨w1, w2, w3⟩ := hwords_ok no o
    exact ⟨jo_nl w1, jo_len w1 w3⟩
theorem MTxt.split {ms : List (Str × Mk)} {hs : List Hnd} (T : MTxt ms hs) : Txt.split (mtext ms hs) (Str.ofString "\n") = ms.map rowM ++ hs.map rowH :=
  split_li (by simp [T.m0]) fun w hw => (T.rows w hw).1
theorem MTxt.len {ms : List (Str × Mk)} {hs : List Hnd} (T : MTxt ms hs) : (mtext ms hs).length ≤ 5000 :=
  li_len (fun w hw => (T.rows w hw).2) (by have := T.m6; have := T.h6; simp; omega)
def Mkr.two (r : Mkr) : Str × Mk := (r.nm, r.m)
theorem upd_drop0 {B : List Addr} {S S' : Sto} (u : Upd B S S') (h : ∀ p ∈ B, S p = Option.none) : Keeps S S' := fun a o _ e => u a o (fun hb => by
  have := h a hb
  rw [e] at this
  cases this) e
theorem read_ok {ms : List (Str × Mk)} {hs : List Hnd} {S0 : Sto} {Q : NQ} {E} {T : TgQ Q E} (X : MTxt ms hs) (k : ∀ g ps pk rs S', rs.map Mkr.two = ms → MarketAt g ps pk rs hs S' → S0 g = Option.none → S0 ps = Option.none → S0 pk = Option.none → (∀ r ∈ rs, S0 r.p = Option.none ∧ S0 r.q = Option.none) → Keeps S0 S' → Q (.ref g) S') : runF sp_read [.str (mtext ms hs)] S0 Q E T := by
  simp_arith! [sp_read, m_read]
  have sl : (10000 : Nat) ≤ sizeLine := by decide
  have ln := X.len
  have e1 : ((Str.ofString "\n").length == 0) = false := by decide
  have ls : (mtext ms hs).length + 2 ≤ sizeLine := by omega
  simp_arith [isi_str_str, Bool.not_true]
  intro g hg
  refine market_init put_same fun ps pk S1 G1 hps hpk u1 => ?_
  refine ⟨rfl, ?_⟩
  have kp1 : Keeps S0 S1 := keeps_of ((Upd.at (by simp)).trans u1) hg
  have nps : S0 ps = Option.none := (Upd.at (A := [g]) (o := .ins "Market" []) (by simp)).fresh' hps (by
    simp only [List.mem_cons, List.not_mem_nil, or_false]
    intro z
    rw [z, put_same] at hps
    cases hps)
  have npk : S0 pk = Option.none := (Upd.at (A := [g]) (o := .ins "Market" []) (by simp)).fresh' hpk (by
    simp only [List.mem_cons, List.not_mem_nil, or_false]
    intro z
    rw [z, put_same] at hpk
    cases hpk)
  simp_arith [e1, ls, X.split]
  intro pl hpl
  have K2 : Keeps S1 (put S1 pl (.lst ((ms.map rowM ++ hs.map rowH).map D.str))) := Upd.new hpl
  have G2 := G1.keep K2
  have g2 : put S1 pl (.lst ((ms.map rowM ++ hs.map rowH).map D.str)) pl = some (.lst ((ms.map rowM ++ hs.map rowH).map D.str)) := put_same
  have kp2 : Keeps S0 (put S1 pl (.lst ((ms.map rowM ++ hs.map rowH).map D.str))) := kp1.trans K2
  generalize put S1 pl (.lst ((ms.map rowM ++ hs.map rowH).map D.str)) = S2 at *
  simp_arith [g2]
  have e3 : ((Str.ofString " ").length == 0) = false := by decide
  have plm : pl ∉ [ps, pk] := by
    simp only [List.mem_cons, List.not_mem_nil, or_false, not_or]
    exact ⟨fun z => (by rw [z, G2.sta] at g2; cases g2), fun z => (by rw [z, G2.poc] at g2; cases g2)⟩
  refine runL_invL (fun xs e S => (∃ x2 x3, e = [some (.str (mtext ms hs)), some (.ref g), x2, x3]) ∧ S pl = some (.lst ((ms.map rowM ++ hs.map rowH).map D.str)) ∧ Upd [ps, pk] S2 S ∧ ∃ (i : Nat) (rm : List (Str × Mk)) (rh : List Hnd) (done : List Mkr) (dh : List Hnd), xs = enumD ((rm.map rowM ++ rh.map rowH).map D.str) i ∧ done.map Mkr.two ++ rm = ms ∧ dh ++ rh = hs ∧ (rm ≠ [] → dh = []) ∧ (∀ r ∈ done, S0 r.p = Option.none ∧ S0 r.q = Option.none) ∧ MarketAt g ps pk done dh S)
    (fun xs e S h => h.2.1) (fun e S h => ?_) (fun x xs e S C h hC => ?_) ?_
  · obtain ⟨⟨x2, x3, rfl⟩, hp, u, i, rm, rh, done, dh, ex, em, eh, -, fr, G⟩ := h
    have rm0 : rm = [] := by
      cases rm with
      | nil => rfl
      | cons y r => simp [enumD] at ex
    subst rm0
    have rh0 : rh = [] := by
      cases rh with
      | nil => rfl
      | cons y r => simp [enumD] at ex
    subst rh0
    rw [List.append_nil] at em eh
    subst eh
    simp_arith []
    refine k g ps pk done S em G hg nps npk fr fun a o n e => u a o ?_ (kp2 a o n e)
    simp only [List.mem_cons, List.not_mem_nil, or_false, not_or]
    exact ⟨fun z => (by rw [z, nps] at e; cases e), fun z => (by rw [z, npk] at e; cases e)⟩
  · obtain ⟨⟨x2, x3, rfl⟩, hp, u, i, rm, rh, done, dh, ex, em, eh, hd, fr, G⟩ := h
    cases rm with
    | cons y rm =>
      have d0 := hd (by simp)
      subst d0
      simp only [List.map_cons, List.cons_append, enumD] at ex
      obtain ⟨rfl, rfl⟩ := List.cons.inj ex
      have ym : y ∈ ms := by rw [← em]; simp
      obtain ⟨o, no⟩ := X.mo y ym
      obtain ⟨w1, w2, w3⟩ := mwords_ok no o
      have lr := jo_len w1 w3
      have lr' : (rowM y).length + 2 ≤ sizeLine := by unfold rowM; omega
      have sp : Txt.split (rowM y) (Str.ofString " ") = mwords y.1 y.2 := split_jo w2 w1
      have dl : done.length < 6 := by
        have := X.m6
        rw [← em] at this
        simp at this
        omega
      have dn : ∀ r ∈ done, r.nm ≠ y.1 := by
        intro r hr z
        have nd := X.nd
        rw [← em, List.map_append, List.append_assoc, List.nodup_append] at nd
        have q := nd.2.2 r.nm (List.mem_map.mpr ⟨r.two, List.mem_map.mpr ⟨r, hr, rfl⟩, rfl⟩) y.1 (by simp)
        exact q z
      simp_arith [e3, lr', sp]
      intro w hw
      have K3 : Keeps S (put S w (.lst ((mwords y.1 y.2).map D.str))) := Upd.new hw
      have gw : put S w (.lst ((mwords y.1 y.2).map D.str)) w = some (.lst ((mwords y.1 y.2).map D.str)) := put_same
      have hp3 := K3 _ _ (by simp) hp
      have G3 := G.keep K3
      generalize put S w (.lst ((mwords y.1 y.2).map D.str)) = S3 at *
      have kk : Keeps S0 S3 := upd_drop0 ((Keeps.up kp2).trans (u.trans K3.up)) (fun p hp => by
        simp only [List.mem_cons, List.not_mem_nil, or_false] at hp
        rcases hp with rfl | rfl
        · exact nps
        · exact npk)
      refine is_put_maker G3 o no dl dn gw fun p q S4 hp4 hq4 G4 u4 => ?_
      simp_arith [Bool.not_true]
      refine hC _ _ ⟨⟨_, _, rfl⟩, u4 _ _ (fun z => plm (by simp at z ⊢; exact .inl z)) hp3, (u.trans K3.up).trans (u4.mono (by simp)), i + 1, rm, rh, done ++ [⟨y.1, y.2, p, q⟩], [], rfl, ?_, eh, fun _ => rfl, fun r hr => ?_, G4⟩
      · rw [← em, List.map_append, List.append_assoc]
        rfl
      · rcases List.mem_append.mp hr with hr | hr
        · exact fr r hr
        · rw [List.mem_singleton.mp hr]
          exact ⟨kk.fresh' hp4 (by simp), kk.fresh' hq4 (by simp)⟩
    | nil =>
      cases rh with
      | nil => simp [enumD] at ex
      | cons y rh =>
        simp only [List.map_nil, List.nil_append, List.map_cons, enumD] at ex
        obtain ⟨rfl, rfl⟩ := List.cons.inj ex
        rw [List.append_nil] at em
        have ym : y ∈ hs := by rw [← eh]; simp
        obtain ⟨o, no⟩ := X.ho y ym
        obtain ⟨w1, w2, w3⟩ := hwords_ok no o
        have lr := jo_len w1 w3
        have lr' : (rowH y).length + 2 ≤ sizeLine := by unfold rowH; omega
        have sp : Txt.split (rowH y) (Str.ofString " ") = hwords y := split_jo w2 w1
        have dl : dh.length < 6 := by
          have := X.h6
          rw [← eh] at this
          simp at this
          omega
        have nd := X.nd
        rw [← em, ← eh, List.map_append, List.nodup_append] at nd
        have dn : ∀ r ∈ dh, r.nm ≠ y.nm := by
          intro r hr z
          have q := nd.2.1
          rw [List.nodup_append] at q
          exact q.2.2 r.nm (List.mem_map.mpr ⟨r, hr, rfl⟩) y.nm (by simp) z
        have dn2 : ∀ r ∈ done, r.nm ≠ y.nm := by
          intro r hr z
          exact nd.2.2 r.nm (List.mem_map.mpr ⟨r.two, List.mem_map.mpr ⟨r, hr, rfl⟩, rfl⟩) y.nm (by simp) z
        have d0 : done ≠ [] := by
          intro z
          rw [z] at em
          exact X.m0 em.symm
        simp_arith [e3, lr', sp]
        intro w hw
        have K3 : Keeps S (put S w (.lst ((hwords y).map D.str))) := Upd.new hw
        have gw : put S w (.lst ((hwords y).map D.str)) w = some (.lst ((hwords y).map D.str)) := put_same
        have hp3 := K3 _ _ (by simp) hp
        have G3 := G.keep K3
        generalize put S w (.lst ((hwords y).map D.str)) = S3 at *
        refine is_put_hand G3 o no dl d0 dn dn2 gw fun S4 G4 u4 => ?_
        simp_arith [Bool.not_true]
        refine hC _ _ ⟨⟨_, _, rfl⟩, u4 _ _ (fun z => plm (by simp at z ⊢; exact .inr z)) hp3, (u.trans K3.up).trans (u4.mono (by simp)), i + 1, [], rh, done, dh ++ [y], rfl, by rw [List.append_nil]; exact em, by rw [← eh, List.append_assoc]; rfl, fun z => absurd rfl z, fr, G4⟩
  · exact ⟨⟨_, _, rfl⟩, g2, Upd.refl, 0, ms, hs, [], [], rfl, rfl, rfl, fun _ => rfl, (fun r hr => by cases hr), G2⟩

/-! ### rows are written -/
theorem strsM : ∀ ws : List Str, strsOf (ws.map D.str) = some ws
  | [] => rfl
  | x :: r => by
    show (strsOf (r.map D.str)).map (x :: ·) = some (x :: r)
    rw [strsM r]; rfl
theorem sum_le {ws : List Str} {n : Nat} (h : ∀ w ∈ ws, w.length ≤ n) : (ws.map (·.length)).sum ≤ ws.length * n := by
  induction ws with
  | nil => simp
  | cons w r ih =>
    have h1 := h w (by simp)
    have h2 := ih fun x hx => h x (by simp [hx])
    simp only [List.map_cons, List.sum_cons, List.length_cons]
    rw [Nat.add_mul]
    omega
theorem cut_n4 (a b c d : D) (r : List D) : cutD (a :: b :: c :: d :: r) Option.none (some 4) = [a, b, c, d] := by
  unfold cutD
  have h2 : HT.sIx (a :: b :: c :: d :: r).length (a :: b :: c :: d :: r).length (some 4) = 4 := (HT.sIx_nat _ _ 4).trans (Nat.min_eq_left (by simp only [List.length_cons]; omega))
  rw [h2, HT.sIx_none]; rfl
theorem nat1900 {i : Int} (h : i.natAbs < 2 ^ 60) : i.natAbs < 2 ^ 1900 := Nat.lt_of_lt_of_le h (Nat.pow_le_pow_right (by decide) (by decide))
theorem jo_size {ws : List Str} (h : ∀ w ∈ ws, WordOk w) (l : ws.length ≤ 8) : (ws.map (·.length)).sum + ws.length * (Str.ofString " ").length ≤ sizeLine := by
  have a := sum_le fun w hw => (h w hw).len
  have e : (Str.ofString " ").length = 1 := by decide
  have sl : (10000 : Nat) ≤ sizeLine := by decide
  rw [e]
  omega
/-! ### things of known kinds -/
def Kn (S : Sto) : D → Prop
  | .non => True
  | .bl _ => True
  | .int _ => True
  | .str _ => True
  | .tup _ => True
  | .ref a => (∃ ds, S a = some (.lst ds)) ∨ ∃ ks, S a = some (.dic ks)
  | _ => False
def isI : D → Bool | .int _ => true | .bl _ => true | _ => false
def isB : D → Bool | .bl _ => true | _ => false
def isS : D → Bool | .str _ => true | _ => false
def isTu : D → Bool | .tup _ => true | _ => false
theorem kn_int {S : Sto} {d : D} (h : Kn S d) (Q : NQ) : nIsi CL [d, .ty "int"] S Q = Q (.bl (isI d)) S := by
  cases d with
  | non => exact isi_non_int S Q
  | bl b => exact isi_bl_int b S Q
  | int i => exact isi_int_int i S Q
  | str x => exact isi_str_int x S Q
  | tup ds => exact isi_tup_int ds S Q
  | ref a => rcases h with ⟨ds, h⟩ | ⟨ds, h⟩ <;> first | exact isi_lst_int ds Q h | exact isi_dic_int ds Q h
  | _ => exact h.elim
theorem kn_bool {S : Sto} {d : D} (h : Kn S d) (Q : NQ) : nIsi CL [d, .ty "bool"] S Q = Q (.bl (isB d)) S := by
  cases d with
  | non => exact isi_non_bool S Q
  | bl b => exact isi_bl_bool b S Q
  | int i => exact isi_int_bool i S Q
  | str x => exact isi_str_bool x S Q
  | tup ds => exact isi_tup_bool ds S Q
  | ref a => rcases h with ⟨ds, h⟩ | ⟨ds, h⟩ <;> first | exact isi_lst_bool ds Q h | exact isi_dic_bool ds Q h
  | _ => exact h.elim
theorem kn_str {S : Sto} {d : D} (h : Kn S d) (Q : NQ) : nIsi CL [d, .ty "str"] S Q = Q (.bl (isS d)) S := by
  cases d with
  | non => exact isi_non_str S Q
  | bl b => exact isi_bl_str b S Q
  | int i => exact isi_int_str i S Q
  | str x => exact isi_str_str x S Q
  | tup ds => exact isi_tup_str ds S Q
  | ref a => rcases h with ⟨ds, h⟩ | ⟨ds, h⟩ <;> first | exact isi_lst_str ds Q h | exact isi_dic_str ds Q h
  | _ => exact h.elim
theorem kn_tuple {S : Sto} {d : D} (h : Kn S d) (Q : NQ) : nIsi CL [d, .ty "tuple"] S Q = Q (.bl (isTu d)) S := by
  cases d with
  | non => exact isi_non_tuple S Q
  | bl b => exact isi_bl_tuple b S Q
  | int i => exact isi_int_tuple i S Q
  | str x => exact isi_str_tuple x S Q
  | tup ds => exact isi_tup_tuple ds S Q
  | ref a => rcases h with ⟨ds, h⟩ | ⟨ds, h⟩ <;> first | exact isi_lst_tuple ds Q h | exact isi_dic_tuple ds Q h
  | _ => exact h.elim
/-- a number from a to b -/
def inR (d : D) (a b : Int) : Bool := match d with
  | .int i => decide (a ≤ i) && decide (i ≤ b)
  | _ => false
theorem is_whole_kn {S : Sto} {d : D} (h : Kn S d) {Q : NQ} {E} {T : TgQ Q E} : runF sp_is_whole [d] S Q E T = Q (.bl (isI d && !isB d)) S := by
  simp_arith! [sp_is_whole, m_is_whole]
  simp_arith [kn_int h, kn_bool h]
  cases isI d <;> rfl
theorem is_among_kn {S : Sto} {d : D} {a b : Int} (h : Kn S d) {Q : NQ} {E} {T : TgQ Q E} : runF sp_is_among [d, .int a, .int b] S Q E T = Q (.bl (inR d a b)) S := by
  simp_arith! [sp_is_among, m_is_among]
  simp_arith [is_whole_kn h]
  cases d with
  | int i =>
    simp_arith [isI, isB, Bool.not_false, Bool.and_self, inR]
    cases decide (a ≤ i) <;> rfl
  | bl b => rfl
  | _ => rfl
def pairB (d : D) (a b : Int) : Bool := match d with
  | .tup [x, y] => inR x a b && inR y a b
  | _ => false
/-- a thing whose parts are known -/
def Kn2 (S : Sto) (d : D) : Prop := Kn S d ∧ ∀ ds, d = .tup ds → ds.length ≤ sizeLine ∧ ∀ x ∈ ds, Kn S x
theorem Kn2.up {S S' : Sto} {d : D} (u : Keeps S S') (h : Kn2 S d) : Kn2 S' d := by
  have key : ∀ d, Kn S d → Kn S' d := by
    intro d h
    cases d with
    | ref a =>
      rcases h with ⟨ds, h⟩ | ⟨ds, h⟩
      · exact .inl ⟨ds, u a _ (by simp) h⟩
      · exact .inr ⟨ds, u a _ (by simp) h⟩
    | _ => exact h
  exact ⟨key _ h.1, fun ds e => ⟨(h.2 ds e).1, fun x hx => key x ((h.2 ds e).2 x hx)⟩⟩
theorem is_pair_kn {S : Sto} {d : D} {a b : Int} (h : Kn2 S d) {Q : NQ} {E} {T : TgQ Q E} : runF sp_is_pair [d, .int a, .int b] S Q E T = Q (.bl (pairB d a b)) S := by
  simp_arith! [sp_is_pair, m_is_pair]
  simp_arith [kn_tuple h.1]
  cases d with
  | tup ds =>
    have k := (h.2 ds rfl).2
    simp_arith [isTu, Bool.not_true]
    match ds, k with
    | [], _ => rfl
    | [x], _ => rfl
    | [x, y], k =>
      have e : decide (((0 + 1 + 1 : Nat) : Int) = 2) = true := by decide
      simp_arith [e, Bool.not_true, atI_0, atI_1, is_among_kn (k x (by simp)), is_among_kn (k y (by simp)), pairB]
      cases inR x a b <;> rfl
    | x :: y :: z :: r, _ =>
      have e : decide ((((x :: y :: z :: r).length : Nat) : Int) = 2) = false := decide_eq_false (by simp only [List.length_cons]; omega)
      simp only [e, Bool.not_false]
      rfl
  | _ => rfl
theorem pairB_true {d : D} {a b : Int} (h : pairB d a b = true) : ∃ x y, d = .tup [.int x, .int y] ∧ a ≤ x ∧ x ≤ b ∧ a ≤ y ∧ y ≤ b := by
  unfold pairB at h
  split at h
  · rename_i x y
    rw [Bool.and_eq_true] at h
    obtain ⟨h1, h2⟩ := h
    unfold inR at h1 h2
    split at h1
    · split at h2
      · rw [Bool.and_eq_true, decide_eq_true_eq, decide_eq_true_eq] at h1 h2
        exact ⟨_, _, rfl, h1.1, h1.2, h2.1, h2.2⟩
      · cases h2
    · cases h1
  · cases h
theorem pairB_int {x y a b : Int} : pairB (.tup [.int x, .int y]) a b = ((decide (a ≤ x) && decide (x ≤ b)) && (decide (a ≤ y) && decide (y ≤ b))) := rfl
def dueB (d : D) : Bool := match d with
  | .tup [.int t, .int b] => ((decide (0 ≤ t) && decide (t ≤ 10000)) && (decide (0 ≤ b) && decide (b ≤ 10000))) && (decide (1 ≤ b) && decide (10 * t ≤ b))
  | _ => false
theorem dueB_true {d : D} (h : dueB d = true) : ∃ t b, d = .tup [.int t, .int b] ∧ Due t b := by
  unfold dueB at h
  split at h
  · simp only [Bool.and_eq_true, decide_eq_true_eq] at h
    obtain ⟨⟨⟨h1, h2⟩, h3, h4⟩, h5, h6⟩ := h
    exact ⟨_, _, rfl, h1, h5, h4, h6⟩
  · cases h
theorem dueB_pair {d : D} (h : pairB d 0 10000 = false) : dueB d = false := by
  cases e : dueB d with
  | false => rfl
  | true =>
    obtain ⟨t, b, rfl, du⟩ := dueB_true e
    obtain ⟨t0, b1, b2, tb⟩ := du
    rw [pairB_int] at h
    have e1 : t ≤ 10000 := by omega
    have e2 : 0 ≤ b := by omega
    simp only [t0, e1, e2, b2, decide_true, Bool.and_self, Bool.true_eq_false] at h
theorem is_due_kn {S : Sto} {d : D} (h : Kn2 S d) {Q : NQ} {E} {T : TgQ Q E} : runF sp_is_due [d] S Q E T = Q (.bl (dueB d)) S := by
  cases hp : pairB d 0 10000 with
  | false =>
    simp_arith! [sp_is_due, m_is_due]
    simp_arith [is_pair_kn h, hp, dueB_pair hp]
  | true =>
    obtain ⟨t, b, rfl, -⟩ := pairB_true hp
    rw [is_due_int]; rfl
def Kn3 (S : Sto) (d : D) : Prop := Kn S d ∧ ∀ ds, d = .tup ds → ds.length ≤ sizeLine ∧ ∀ x ∈ ds, Kn2 S x
theorem kn_pair {S : Sto} {x y : D} (h1 : Kn S x) (h2 : Kn S y) : Kn2 S (.tup [x, y]) := ⟨trivial, fun ds e => by
  cases e
  refine ⟨(by show 2 ≤ sizeLine; decide), fun z hz => ?_⟩
  simp only [List.mem_cons, List.not_mem_nil, or_false] at hz
  rcases hz with rfl | rfl
  · exact h1
  · exact h2⟩
abbrev NoM (d : D) : Prop := ¬ ∃ m : Mk, m.Ok ∧ d = m.d
theorem isS_true {d : D} (h : isS d = true) : ∃ z, d = .str z := by
  cases d with
  | str z => exact ⟨z, rfl⟩
  | _ => cases h
theorem is_plain_no {S : Sto} {d : D} (h : Kn3 S d) (n : NoM d) {Q : NQ} {E} {T : TgQ Q E} : runF sp_is_plain [d] S Q E T = Q (.bl false) S := by
  simp_arith! [sp_is_plain, m_is_plain]
  simp_arith [kn_tuple h.1]
  cases d with
  | tup ds =>
    have k := (h.2 ds rfl).2
    simp_arith [isTu, Bool.not_true]
    have l0 : ∀ j : Nat, j < 4 → decide ((4 : Int) ≤ (j : Int)) = false := fun j hj => decide_eq_false (by omega)
    match ds, k, n with
    | [], _, _ => rfl
    | [x], _, _ => rfl
    | [x, y], _, _ => rfl
    | [x, y, z], _, _ => rfl
    | [x, y, z, u], k, n =>
      have e1 : decide ((4 : Int) ≤ ((0 + 1 + 1 + 1 + 1 : Nat) : Int)) = true := by decide
      have e2 : decide (((0 + 1 + 1 + 1 + 1 : Nat) : Int) ≤ 5) = true := by decide
      have e3 : decide (((0 + 1 + 1 + 1 + 1 : Nat) : Int) = 4) = true := by decide
      have e5 : decide (((0 + 1 + 1 + 1 + 1 : Nat) : Int) = 5) = false := by decide
      simp_arith [e1, e2, Bool.not_true, atI_0, kn_str (k x (by simp)).1]
      cases hs : isS x with
      | false => rfl
      | true =>
        obtain ⟨w, rfl⟩ := isS_true hs
        simp_arith [Bool.not_true, cut_13, is_pair_kn (kn_pair (k y (by simp)).1 (k z (by simp)).1)]
        cases hp : pairB (.tup [y, z]) 0 1000000000000 with
        | false => rfl
        | true =>
          obtain ⟨s, c, e, s0, s1, c0, c1⟩ := pairB_true hp
          cases e
          simp_arith [Bool.not_true, atI_3, is_due_kn (k u (by simp))]
          cases hd : dueB u with
          | false => rfl
          | true =>
            obtain ⟨t, b, rfl, du⟩ := dueB_true hd
            simp_arith [Bool.not_true, atI_0]
            by_cases hw : w = "product"
            · subst hw
              simp_arith [decide_true, e3, atI_1, atI_2]
              by_cases h1 : 1 ≤ s
              · by_cases h2 : 1 ≤ c
                · exact absurd ⟨⟨.pr, s, c, t, b, 0, 0⟩, ⟨s0, s1, c0, c1, du, fun _ => ⟨h1, h2⟩, nofun, nofun⟩, rfl⟩ n
                · simp only [h1, h2, decide_true, decide_false]
              · simp only [h1, decide_false]
            · simp only [hw, decide_false]
              simp_arith [e5, Bool.not_false]
    | [x, y, z, u, v], k, n =>
      have e1 : decide ((4 : Int) ≤ ((0 + 1 + 1 + 1 + 1 + 1 : Nat) : Int)) = true := by decide
      have e2 : decide (((0 + 1 + 1 + 1 + 1 + 1 : Nat) : Int) ≤ 5) = true := by decide
      have e3 : decide (((0 + 1 + 1 + 1 + 1 + 1 : Nat) : Int) = 4) = false := by decide
      have e5 : decide (((0 + 1 + 1 + 1 + 1 + 1 : Nat) : Int) = 5) = true := by decide
      simp_arith [e1, e2, Bool.not_true, atI_0, kn_str (k x (by simp)).1]
      cases hs : isS x with
      | false => rfl
      | true =>
        obtain ⟨w, rfl⟩ := isS_true hs
        simp_arith [Bool.not_true, cut_13, is_pair_kn (kn_pair (k y (by simp)).1 (k z (by simp)).1)]
        cases hp : pairB (.tup [y, z]) 0 1000000000000 with
        | false => rfl
        | true =>
          obtain ⟨s, c, e, s0, s1, c0, c1⟩ := pairB_true hp
          cases e
          simp_arith [Bool.not_true, atI_3, is_due_kn (k u (by simp))]
          cases hd : dueB u with
          | false => rfl
          | true =>
            obtain ⟨t, b, rfl, du⟩ := dueB_true hd
            simp_arith [Bool.not_true, atI_0]
            by_cases hw : w = "product"
            · subst hw
              simp_arith [decide_true, e3]
            · by_cases hw2 : w = "sum"
              · subst hw2
                simp only [hw, decide_false]
                simp_arith [e5, Bool.not_true, atI_0, decide_true, atI_4, is_pair_kn (k v (by simp))]
                cases hv : pairB v 1 1000000 with
                | false => rfl
                | true =>
                  obtain ⟨p, q, rfl, p0, p1, q0, q1⟩ := pairB_true hv
                  exact absurd ⟨⟨.su, s, c, t, b, p, q⟩, ⟨s0, s1, c0, c1, du, nofun, nofun, fun _ => ⟨p0, p1, q0, q1⟩⟩, rfl⟩ n
              · by_cases hw3 : w = "stretch"
                · subst hw3
                  simp only [hw, decide_false]
                  simp_arith [e5, Bool.not_true, atI_0, hw2, decide_false, decide_true, atI_4, is_pair_kn (k v (by simp))]
                  cases hv : pairB v 0 1000000000000 with
                  | false => rfl
                  | true =>
                    obtain ⟨p, q, rfl, p0, p1, q0, q1⟩ := pairB_true hv
                    simp_arith [Bool.not_true, atI_0, atI_1, atI_2, atI_4]
                    by_cases h1 : 1 ≤ s + p
                    · by_cases h2 : 1 ≤ c + q
                      · exact absurd ⟨⟨.st, s, c, t, b, p, q⟩, ⟨s0, s1, c0, c1, du, nofun, fun _ => ⟨p0, p1, q0, q1, h1, h2⟩, nofun⟩, rfl⟩ n
                      · simp only [h1, h2, decide_true, decide_false]
                    · simp only [h1, decide_false]
                · simp only [hw, decide_false]
                  simp_arith [e5, Bool.not_true, atI_0, hw2, hw3, decide_false, Bool.not_false]
    | x :: y :: z :: u :: v :: o :: r, _, _ =>
      have e1 : decide ((4 : Int) ≤ (((x :: y :: z :: u :: v :: o :: r).length : Nat) : Int)) = true := decide_eq_true (by simp only [List.length_cons]; omega)
      have e2 : decide ((((x :: y :: z :: u :: v :: o :: r).length : Nat) : Int) ≤ 5) = false := decide_eq_false (by simp only [List.length_cons]; omega)
      simp only [e1, e2, Bool.not_false]
  | _ => rfl
theorem Kn3.up {S S' : Sto} {d : D} (u : Keeps S S') (h : Kn3 S d) : Kn3 S' d := by
  have key : Kn S' d := (Kn2.up (d := .tup [d]) u ⟨trivial, fun ds e => by cases e; exact ⟨(by show 1 ≤ sizeLine; decide), fun z hz => by simp only [List.mem_cons, List.not_mem_nil, or_false] at hz; rw [hz]; exact h.1⟩⟩).2 [d] rfl |>.2 d (by simp)
  exact ⟨key, fun ds e => ⟨(h.2 ds e).1, fun x hx => ((h.2 ds e).2 x hx).up u⟩⟩
theorem inR_true {d : D} {a b : Int} (h : inR d a b = true) : ∃ i, d = .int i ∧ a ≤ i ∧ i ≤ b := by
  unfold inR at h
  split at h
  · rw [Bool.and_eq_true, decide_eq_true_eq, decide_eq_true_eq] at h
    exact ⟨_, rfl, h.1, h.2⟩
  · cases h
theorem beq_dec {a b : Str} : (a == b) = decide (b = a) := by
  by_cases h : a = b
  · subst h; simp
  · have h' : ¬ b = a := fun z => h z.symm
    rw [beq_eq_false_iff_ne.mpr h, decide_eq_false h']
/-! ### what a market tells -/
theorem kD_st (ms : List Mkr) : (stD ms).map (fun kv => kD kv.1) = ms.map fun r => D.str r.nm := by
  unfold stD
  rw [List.map_map]
  rfl
theorem kD_po (hs : List Hnd) : (poD hs).map (fun kv => kD kv.1) = hs.map fun h => D.str h.nm := by
  unfold poD
  rw [List.map_map]
  rfl
theorem names_ok {g ps pk : Addr} {ms : List Mkr} {hs : List Hnd} {S : Sto} {Q : NQ} {E} {T : TgQ Q E} (G : MarketAt g ps pk ms hs S) (k : ∀ p S', S p = Option.none → S' p = some (.lst (ms.map fun r => .str r.nm)) → Keeps S S' → Q (.ref p) S') : runF sp_Market_names [.ref g] S Q E T := by
  simp_arith! [sp_Market_names, m_Market_names]
  simp_arith [G.ins, flds1, G.sta]
  intro p hp
  exact k p _ hp (by rw [put_same, kD_st]) (Upd.new hp)
/-- a name's place in a dict -/
theorem dget_at : ∀ {kvs : List (Key × D)} {k : Key} {v : D}, (kvs.map (·.1)).Nodup → (k, v) ∈ kvs → dget kvs k = some v
  | (k', v') :: r, k, v, nd, h => by
    unfold dget
    rw [List.find?_cons]
    by_cases e : k' = k
    · subst e
      rw [decide_eq_true rfl]
      rcases List.mem_cons.mp h with z | z
      · cases z; rfl
      · rw [List.map_cons, List.nodup_cons] at nd
        exact absurd (List.mem_map.mpr ⟨_, z, rfl⟩) nd.1
    · rw [decide_eq_false e]
      rcases List.mem_cons.mp h with z | z
      · cases z; exact absurd rfl e
      · rw [List.map_cons, List.nodup_cons] at nd
        exact dget_at nd.2 z
theorem stD_nd {ms : List Mkr} (h : (ms.map (·.nm)).Nodup) : ((stD ms).map (·.1)).Nodup := by
  have e : (stD ms).map (·.1) = (ms.map (·.nm)).map (Sum.inr : Str → Key) := by
    unfold stD
    rw [List.map_map, List.map_map]
    rfl
  rw [e]
  exact List.Pairwise.map Sum.inr (fun _ _ n z => n (Sum.inr.inj z)) h
theorem poD_nd {hs : List Hnd} (h : (hs.map (·.nm)).Nodup) : ((poD hs).map (·.1)).Nodup := by
  have e : (poD hs).map (·.1) = (hs.map (·.nm)).map (Sum.inr : Str → Key) := by
    unfold poD
    rw [List.map_map, List.map_map]
    rfl
  rw [e]
  exact List.Pairwise.map Sum.inr (fun _ _ n z => n (Sum.inr.inj z)) h
theorem maker_at {g ps pk : Addr} {ms : List Mkr} {hs : List Hnd} {S : Sto} {Q : NQ} {E} {T : TgQ Q E} {r : Mkr} (G : MarketAt g ps pk ms hs S) (nd : (ms.map (·.nm)).Nodup) (hr : r ∈ ms) (k : Q (.ref r.p) S) : runF sp_Market_maker [.ref g, .str r.nm] S Q E T := by
  simp_arith! [sp_Market_maker, m_Market_maker]
  have d := dget_at (stD_nd nd) (show ((.inr r.nm : Key), D.ref r.p) ∈ stD ms from List.mem_map.mpr ⟨r, hr, rfl⟩)
  simp_arith [isi_str_str, Bool.not_true, G.ins, flds1, G.sta, d, Option.isNone_some, Option.isSome_some]
  exact k
theorem maker_none {g ps pk : Addr} {ms : List Mkr} {hs : List Hnd} {S : Sto} {d : D} {Q : NQ} {E} {T : TgQ Q E} (G : MarketAt g ps pk ms hs S) (kn : Kn S d) (n : ∀ r ∈ ms, d ≠ .str r.nm) (k : E "NoName" Option.none S) : runF sp_Market_maker [.ref g, d] S Q E T := by
  simp_arith! [sp_Market_maker, m_Market_maker]
  simp_arith [kn_str kn]
  cases d with
  | str z =>
    have d := dget_none (st_keys (ms := ms) (nm := z) fun r hr e => n r hr (by rw [e]))
    simp_arith [isS, Bool.not_true, G.ins, flds1, G.sta, d, Option.isNone_none, Option.isSome_none]
    exact k
  | _ => exact k
def haD (m : Mk) : D := .tup [.int m.s, .int m.c]
theorem put_back {S : Sto} {p : Addr} {o : Ob} (h : S p = some o) (o2 : Ob) : put (put S p o2) p o = S := by
  funext a
  by_cases e : a = p
  · subst e; rw [put_same, h]
  · rw [put_ne e, put_ne e]
/-- locked, laid anew at p2 and unlocked again -/
theorem keeps_lock {S S' : Sto} {p : Addr} {kvs : List (Key × D)} (h : S p = some (.dic kvs)) (u : Keeps (put S p (.lok kvs)) S') : Keeps S (put S' p (.dic kvs)) := lock_upd h u
/-- runC_keep, with the list told by a map -/
theorem lc_keepM {α : Type} (a b : α → D) {g : NG} {tt : NT} {te : NE} {kp : Keep} {p : Addr} {e : N.Env} {S0 : Sto} {Q : Sto → Prop} (hk : ∀ S, Upd [p] S0 S → kp S) : ∀ {rs : List α} {acc : List D} {S : Sto}, acc.length + rs.length ≤ sizeLine → Upd [p] S0 S → S p = some (.lst acc) →
    (∀ x ∈ rs, ∀ S (Y : D → Sto → Prop) (N : Sto → Prop), Upd [p] S0 S → (∀ S3, Keeps S S3 → Y (b x) S3) → g (a x) e S fun e2 S2 => tt e2 S2 fun c S3 => match c with | true => te e2 S3 Y | false => N S3) →
    (∀ S', Upd [p] S0 S' → S' p = some (.lst (acc ++ rs.map b)) → Q S') → lcL g tt te kp p e (rs.map a) S Q
  | [], acc, S, _, u, hp, _, q => q S u (by rw [List.map_nil, List.append_nil]; exact hp)
  | x :: xs, acc, S, hl, u, hp, h, q => by
    simp only [List.length_cons] at hl
    refine h x (by simp) S _ _ u fun S3 K3 => ?_
    have g3 := K3 _ _ (by simp) hp
    rw [g3]
    have u3 : Upd [p] S0 (N.put S3 p (.lst (acc ++ [b x]))) := (u.trans K3.up).trans (Upd.at (by simp))
    refine ⟨by omega, hk _ u3, lc_keepM a b hk (by simp only [List.length_append, List.length_cons, List.length_nil]; omega) u3 put_same (fun z hz => h z (by simp [hz])) fun S' u' hp' => q S' u' (by rw [hp', List.map_cons, List.append_assoc]; rfl)⟩
theorem runC_keepM {α : Type} (a b : α → D) {g : NG} {tt : NT} {te : NE} {kp : Keep} {p : Addr} {e : N.Env} {S0 : Sto} {Q : Sto → Prop} {rs : List α} {ds : List D} {T : TgC g tt te Q} (hd : ds = rs.map a) (hp : S0 p = Option.none) (hk : ∀ S, Keeps S0 S → kp S) (hl : rs.length ≤ sizeLine)
    (h : ∀ x ∈ rs, ∀ S (Y : D → Sto → Prop) (N : Sto → Prop), Keeps S0 S → (∀ S3, Keeps S S3 → Y (b x) S3) → g (a x) e S fun e2 S2 => tt e2 S2 fun c S3 => match c with | true => te e2 S3 Y | false => N S3)
    (q : ∀ S', Keeps S0 S' → S' p = some (.lst (rs.map b)) → Q S') : runC g tt te kp p e ds (N.put S0 p (.lst [])) Q T := by
  subst hd
  exact lc_keepM a b (fun S u => hk S (keeps_of u hp)) (by simpa using hl) (Upd.at (by simp)) put_same (fun x hx S Y N u k => h x hx S Y N (keeps_of u hp) k) fun S' u' g' => q S' (keeps_of u' hp) (by simpa using g')
theorem MarketAt.free {g ps pk : Addr} {ms : List Mkr} {hs : List Hnd} {S : Sto} (G : MarketAt g ps pk ms hs S) {r : Mkr} (hr : r ∈ ms) : r.p ≠ ps ∧ r.q ≠ ps ∧ r.p ≠ pk ∧ r.q ≠ pk ∧ g ≠ ps ∧ g ≠ pk ∧ r.p ≠ g ∧ r.q ≠ g := by
  have M := G.mks r hr
  refine ⟨fun z => ?_, fun z => ?_, fun z => ?_, fun z => ?_, fun z => ?_, fun z => ?_, fun z => ?_, fun z => ?_⟩
  · have := M.ins; rw [z, G.sta] at this; cases this
  · have := M.lst; rw [z, G.sta] at this; cases this
  · have := M.ins; rw [z, G.poc] at this; cases this
  · have := M.lst; rw [z, G.poc] at this; cases this
  · have := G.ins; rw [z, G.sta] at this; cases this
  · have := G.ins; rw [z, G.poc] at this; cases this
  · have e := M.ins
    rw [z, G.ins] at e
    have e2 := Option.some.inj e
    injection e2 with e3 e4
    exact absurd e3 (by unfold Mk.cn; cases r.m.k <;> decide)
  · have := M.lst; rw [z, G.ins] at this; cases this
def salts (ms : List Mkr) (hs : List Hnd) : List Int := ms.map (·.m.s) ++ hs.map (·.a)
def cloths (ms : List Mkr) (hs : List Hnd) : List Int := ms.map (·.m.c) ++ hs.map (·.b)
def pairsM (ms : List Mkr) (hs : List Hnd) : List D := (ms.map fun r => haD r.m) ++ hs.map fun h => .tup [.int h.a, .int h.b]
theorem intsM : ∀ l : List Int, intsOf (l.map D.int) = some l
  | [] => rfl
  | i :: r => by
    show (intsOf (r.map D.int)).map (i :: ·) = some (i :: r)
    rw [intsM r]; rfl
theorem upd_drop {A B : List Addr} {S S' : Sto} (u : Upd B S S') (h : ∀ p ∈ B, p ∉ A → S p = Option.none) : Upd A S S' := fun a o n e => u a o (fun hb => by
  have := h a hb n
  rw [e] at this
  cases this) e
def maD (ms : List (Str × Mk)) : List (Key × D) := ms.map fun x => (.inr x.1, x.2.d)
/-- the law's own market -/
structure OwnAt (w wm wh : Addr) (ms : List (Str × Mk)) (hs : List Hnd) (S : Sto) : Prop where
  own : S w = some (.dic [(.inr "makers", .ref wm), (.inr "hands", .ref wh)])
  mak : S wm = some (.dic (maD ms))
  han : S wh = some (.dic (poD hs))
  mh : wm ≠ wh
  n1 : w ≠ wm
  n2 : w ≠ wh
theorem OwnAt.up {w wm wh : Addr} {ms : List (Str × Mk)} {hs : List Hnd} {S S' : Sto} {A : List Addr} (h : OwnAt w wm wh ms hs S) (u : Upd A S S') (n1 : w ∉ A) (n2 : wm ∉ A) (n3 : wh ∉ A) : OwnAt w wm wh ms hs S' := ⟨u _ _ n1 h.own, u _ _ n2 h.mak, u _ _ n3 h.han, h.mh, h.n1, h.n2⟩
theorem OwnAt.keep {w wm wh : Addr} {ms : List (Str × Mk)} {hs : List Hnd} {S S' : Sto} (h : OwnAt w wm wh ms hs S) (u : Keeps S S') : OwnAt w wm wh ms hs S' := h.up u (by simp) (by simp) (by simp)
theorem own1 {wm wh : Addr} : dget [((.inr "makers" : Key), D.ref wm), (.inr "hands", .ref wh)] (.inr "makers") = some (.ref wm) := rfl
theorem own2 {wm wh : Addr} : dget [((.inr "makers" : Key), D.ref wm), (.inr "hands", .ref wh)] (.inr "hands") = some (.ref wh) := rfl
theorem ma_keys {ms : List (Str × Mk)} {nm : Str} (h : ∀ r ∈ ms, r.1 ≠ nm) : ∀ p ∈ maD ms, p.1 ≠ (.inr nm : Key) := by
  intro p hp
  obtain ⟨r, hr, rfl⟩ := List.mem_map.mp hp
  exact inr_ne (h r hr)
/-! ### refusals -/
theorem need_ware_no {S : Sto} {d : D} (h : Kn S d) (n : ∀ z, d = .str z → z ≠ "salt" ∧ z ≠ "cloth") {Q : NQ} {E} {T : TgQ Q E} : runF sp_need_ware [d] S Q E T = E "BadWare" none S := by
  simp_arith! [sp_need_ware, m_need_ware]
  simp_arith [kn_str h]
  cases d with
  | str z =>
    obtain ⟨n1, n2⟩ := n z rfl
    have e1 : ((Str.ofString "salt") == z) = false := beq_eq_false_iff_ne.mpr (Ne.symm n1)
    have e2 : ((Str.ofString "cloth") == z) = false := beq_eq_false_iff_ne.mpr (Ne.symm n2)
    unfold c_WARES
    simp_arith [isS, Bool.not_true, flatD, eqF, List.all_cons, List.all_nil, List.any_cons, List.any_nil, e1, e2, Bool.or_self, Bool.not_false, Bool.and_self]
  | _ => simp_arith [isS, Bool.not_false]
theorem need_count_no {S : Sto} {d : D} (h : Kn S d) (n : ∀ i, d = .int i → i < 1) {Q : NQ} {E} {T : TgQ Q E} : runF sp_need_count [d] S Q E T = E "BadCount" none S := by
  simp_arith! [sp_need_count, m_need_count]
  simp_arith [is_whole_kn h]
  cases d with
  | int i =>
    have := n i rfl
    simp_arith [isI, isB, Bool.not_false, Bool.and_self, Bool.not_true, this, decide_true]
  | _ => simp_arith [isI, isB, Bool.not_false, Bool.not_true, Bool.and_false, Bool.false_and, Bool.and_self]
theorem told_no_ware {p q : Addr} {m : Mk} {S : Sto} {w c : D} (k : Kn S w) (n : ∀ z, w = .str z → z ≠ "salt" ∧ z ≠ "cloth") {Q : NQ} {E} {T : TgQ Q E} : runF sp_Maker_told [.ref p, w, c] S Q E T = E "BadWare" none S := by
  simp_arith! [sp_Maker_told, m_Maker_told]
  simp_arith [need_ware_no k n]
theorem told_no_count {p q : Addr} {m : Mk} {S : Sto} {c : D} {i : Int} (sd : Sd i) (k : Kn S c) (n : ∀ i, c = .int i → i < 1) {Q : NQ} {E} {T : TgQ Q E} : runF sp_Maker_told [.ref p, .str (wr i), c] S Q E T = E "BadCount" none S := by
  simp_arith! [sp_Maker_told, m_Maker_told]
  simp_arith [need_ware_ok sd, need_count_no k n]
theorem ctW : catchOf CL "BadWare" "MartError" = some true := by decide
theorem ctC : catchOf CL "BadCount" "MartError" = some true := by decide

/-! ### what a market tells is the law's own -/
theorem strOk_let {z : Str} (h : NameOk z) : PyData.strOk z = true := by
  unfold PyData.strOk
  rw [Array.all_eq_true_iff_forall_mem]
  intro c hc
  have q := List.all_eq_true.mp h.all c (Array.mem_toList_iff.mpr hc)
  have q := of_decide_eq_true q
  rw [letters] at q
  obtain ⟨i, hi, rfl⟩ := List.mem_map.mp q
  have := List.mem_range.mp hi
  exact decide_eq_true (by omega)
theorem pyDs_strs : ∀ l : List Str, pyDs (l.map D.str) = some (l.map PyData.str)
  | [] => rfl
  | x :: r => by simp only [List.map_cons, pyDs, pyD, pyDs_strs r]
theorem can_strs : ∀ {l : List Str}, (∀ z ∈ l, PyData.strOk z = true) → PyData.canLayAll0 (l.map PyData.str) = true
  | [], _ => rfl
  | x :: r, h => by
    have ih := can_strs (l := r) fun z hz => h z (by simp [hz])
    simp only [List.map_cons, PyData.canLayAll0, PyData.canLay0, h x (by simp), ih, Bool.and_self]
theorem dep_strs : ∀ l : List Str, PyData.depthAll (l.map PyData.str) ≤ 1
  | [] => by decide
  | x :: r => by
    have := dep_strs r
    simp only [List.map_cons, PyData.depthAll, PyData.depth]; omega
theorem eqU_two {S : Sto} {a b p1 p2 q1 q2 : Addr} {xs ys : List Str} (hx : ∀ z ∈ xs, PyData.strOk z = true) (hy : ∀ z ∈ ys, PyData.strOk z = true) (ha : S a = some (.lst [.ref p1, .ref p2])) (hb : S b = some (.lst [.ref q1, .ref q2])) (h1 : S p1 = some (.lst (xs.map D.str))) (h2 : S p2 = some (.lst (ys.map D.str))) (h3 : S q1 = some (.lst (xs.map D.str))) (h4 : S q2 = some (.lst (ys.map D.str))) : N.eqU S (.ref a) (.ref b) = some true := by
  have c1 := can_strs hx
  have c2 := can_strs hy
  have c : PyData.canLay0 (.list [.list (xs.map PyData.str), .list (ys.map PyData.str)]) = true := by
    simp only [PyData.canLay0, PyData.canLayAll0, c1, c2, Bool.and_self]
  have d1 := dep_strs xs
  have d2 := dep_strs ys
  have h3' : SeqAt.shaped (.list [.list (xs.map PyData.str), .list (ys.map PyData.str)]) = true := by
    unfold SeqAt.shaped
    rw [c]
    simp only [PyData.depth, PyData.depthAll, Bool.true_and]
    exact decide_eq_true (by omega)
  unfold N.eqU
  simp only [pyU, ha, hb, pyTs, pyT, h1, h2, h3, h4, pyDs_strs, Option.map_some, h3', SeqAt.eqv_refl _ c, Bool.and_self, if_true]
theorem upd_fresh2 {S S' : Sto} {A : List Addr} (u : Upd A S S') (h : ∀ p ∈ A, S p = Option.none) : Keeps S S' := upd_drop (A := []) u fun p hp _ => h p hp
/-- the market and the law's own lie apart -/
structure Apart (ps pk wm wh : Addr) : Prop where
  a : ps ≠ wm
  b : ps ≠ wh
  c : pk ≠ wm
  d : pk ≠ wh
theorem mfl_no {f : String} {ps pk : Addr} (h : f ≠ "stalls" ∧ f ≠ "pockets") : List.lookup (f : Str) ([("stalls", .ref ps), ("pockets", .ref pk)] : List (Str × D)) = Option.none := by
  have h1 : ((f : Str) == ("stalls" : Str)) = false := by rw [ofString_beq]; exact beq_eq_false_iff_ne.mpr h.1
  have h2 : ((f : Str) == ("pockets" : Str)) = false := by rw [ofString_beq]; exact beq_eq_false_iff_ne.mpr h.2
  simp only [List.lookup, h1, h2]
theorem mtm_names : mt_Market_names "Market" = some (1, sp_Market_names) := by simp [mt_Market_names]
theorem mtm_maker : mt_Market_maker "Market" = some (2, sp_Market_maker) := by simp [mt_Market_maker]
theorem MarketAt.lock {g ps pk x : Addr} {rs : List Mkr} {hs : List Hnd} {S : Sto} {kvs : List (Key × D)} (G : MarketAt g ps pk rs hs S) (hx : S x = some (.dic kvs)) (n1 : ps ≠ x) (n2 : pk ≠ x) (o : Ob) : MarketAt g ps pk rs hs (put S x o) := by
  have f : ∀ {y : Addr} {b : Ob}, S y = some b → (∀ l, b ≠ .dic l) → y ∉ [x] := fun e n => by
    simp only [List.mem_cons, List.not_mem_nil, or_false]
    intro z
    rw [z, hx] at e
    cases e
    exact n _ rfl
  exact G.up (Upd.at (A := [x]) (by simp)) (f G.ins (by simp)) (by simpa using n1) (by simpa using n2) fun r hr => ⟨f (G.mks r hr).ins (by simp), f (G.mks r hr).lst (by simp)⟩

/-! ### a hand deals with a maker -/
def Hnd.pl (h : Hnd) (i : Int) : Int := if i = 0 then h.a else h.b
/-- a hand behind a deal -/
def Hnd.deal (h : Hnd) (i n v : Int) : Hnd := if i = 0 then { h with a := h.a - n, b := h.b + v } else { h with b := h.b - n, a := h.a + v }
def setM (ms : List Mkr) (nm : Str) (m' : Mk) : List Mkr := ms.map fun r => if r.nm = nm then { r with m := m' } else r
def setH (hs : List Hnd) (h' : Hnd) : List Hnd := hs.map fun h => if h.nm = h'.nm then h' else h
/-- the class of the refusal that is due; nothing where the deal can be -/
def refusal (h : Hnd) (m : Mk) (i n l : Int) : Option Str :=
  if h.pl i < n then some "TooLittle" else if 1000000000000 < m.stk i + n ∨ 1000000000000 < h.pl (1 - i) + m.comes i n then some "TooMuch" else if m.comes i n < l then some "TooLittle" else Option.none
theorem setM_nm {ms : List Mkr} {nm : Str} {m' : Mk} : (setM ms nm m').map (·.nm) = ms.map (·.nm) := by
  unfold setM
  rw [List.map_map]
  apply List.map_congr_left
  intro r _
  show (if r.nm = nm then ({ r with m := m' } : Mkr) else r).nm = r.nm
  split <;> rfl
theorem setM_q {ms : List Mkr} {nm : Str} {m' : Mk} : (setM ms nm m').map (·.q) = ms.map (·.q) := by
  unfold setM
  rw [List.map_map]
  apply List.map_congr_left
  intro r _
  show (if r.nm = nm then ({ r with m := m' } : Mkr) else r).q = r.q
  split <;> rfl
theorem setM_st {ms : List Mkr} {nm : Str} {m' : Mk} : stD (setM ms nm m') = stD ms := by
  unfold stD setM
  rw [List.map_map]
  apply List.map_congr_left
  intro r _
  show ((.inr (if r.nm = nm then ({ r with m := m' } : Mkr) else r).nm : Key), D.ref (if r.nm = nm then ({ r with m := m' } : Mkr) else r).p) = _
  split <;> rfl
theorem setH_nm {hs : List Hnd} {h' : Hnd} : (setH hs h').map (·.nm) = hs.map (·.nm) := by
  unfold setH
  rw [List.map_map]
  apply List.map_congr_left
  intro r _
  show (if r.nm = h'.nm then h' else r).nm = r.nm
  split
  · rename_i e; exact e.symm
  · rfl
theorem setH_po {hs : List Hnd} {h' : Hnd} (hh : h'.nm ∈ hs.map (·.nm)) : dput (poD hs) (.inr h'.nm) (.tup [.int h'.a, .int h'.b]) = poD (setH hs h') := by
  unfold dput
  obtain ⟨h, hm, e⟩ := List.mem_map.mp hh
  rw [if_pos]
  · unfold poD setH
    rw [List.map_map, List.map_map]
    apply List.map_congr_left
    intro r _
    show (if ((.inr r.nm : Key), D.tup [.int r.a, .int r.b]).1 = .inr h'.nm then _ else _) = ((.inr (if r.nm = h'.nm then h' else r).nm : Key), D.tup [.int (if r.nm = h'.nm then h' else r).a, .int (if r.nm = h'.nm then h' else r).b])
    by_cases z : r.nm = h'.nm
    · rw [if_pos z, if_pos (by rw [z])]
      show ((.inr r.nm : Key), D.tup [.int h'.a, .int h'.b]) = _
      rw [z]
    · rw [if_neg z, if_neg (fun w => z (Sum.inr.inj w))]
  · rw [List.any_eq_true]
    exact ⟨_, List.mem_map.mpr ⟨h, hm, rfl⟩, decide_eq_true (by rw [← e])⟩
theorem deal_nm {h : Hnd} {i n v : Int} : (h.deal i n v).nm = h.nm := by unfold Hnd.deal; split <;> rfl
theorem mtm_told {m : Mk} : mt_Maker_told m.cn = some (3, sp_Maker_told) := mt_told
theorem nd_inj {ms : List Mkr} {x y : Mkr} (nd : (ms.map (·.nm)).Nodup) (hx : x ∈ ms) (hy : y ∈ ms) (e : x.nm = y.nm) : x = y := by
  induction ms with
  | nil => cases hx
  | cons z r ih =>
    rw [List.map_cons, List.nodup_cons] at nd
    rcases List.mem_cons.mp hx with hx | hx
    · rcases List.mem_cons.mp hy with hy | hy
      · rw [hx, hy]
      · rw [hx] at e
        exact absurd (List.mem_map.mpr ⟨y, hy, e.symm⟩) nd.1
    · rcases List.mem_cons.mp hy with hy | hy
      · rw [hy] at e
        exact absurd (List.mem_map.mpr ⟨x, hx, e⟩) nd.1
      · exact ih nd.2 hx hy
theorem nd_injq {ms : List Mkr} {x y : Mkr} (nd : (ms.map (·.q)).Nodup) (hx : x ∈ ms) (hy : y ∈ ms) (e : x.q = y.q) : x = y := by
  induction ms with
  | nil => cases hx
  | cons z r ih =>
    rw [List.map_cons, List.nodup_cons] at nd
    rcases List.mem_cons.mp hx with hx | hx
    · rcases List.mem_cons.mp hy with hy | hy
      · rw [hx, hy]
      · rw [hx] at e
        exact absurd (List.mem_map.mpr ⟨y, hy, e.symm⟩) nd.1
    · rcases List.mem_cons.mp hy with hy | hy
      · rw [hy] at e
        exact absurd (List.mem_map.mpr ⟨x, hx, e⟩) nd.1
      · exact ih nd.2 hx hy
theorem ware_ix {i : Int} (h : Sd i) : List.findIdx? (fun x => decide (x = wr i)) c_WARES = some i.toNat := by
  rcases h with rfl | rfl <;> decide
theorem refusal_cl {h : Hnd} {m : Mk} {i n l : Int} {c : Str} (e : refusal h m i n l = some c) : c ∈ CL ∧ catchOf CL c "MartError" = some true := by
  unfold refusal at e
  split at e
  · cases e; exact ⟨by decide, by decide⟩
  · split at e
    · cases e; exact ⟨by decide, by decide⟩
    · split at e
      · cases e; exact ⟨by decide, by decide⟩
      · cases e
/-! ### all grains -/
def setT (ms : List (Str × Mk)) (nm : Str) (m' : Mk) : List (Str × Mk) := ms.map fun y => if y.1 = nm then (y.1, m') else y
theorem setM_two {rs : List Mkr} {nm : Str} {m' : Mk} : (setM rs nm m').map Mkr.two = setT (rs.map Mkr.two) nm m' := by
  unfold setM setT
  rw [List.map_map, List.map_map]
  apply List.map_congr_left
  intro r _
  show (if r.nm = nm then ({ r with m := m' } : Mkr) else r).two = if r.two.1 = nm then (r.two.1, m') else r.two
  unfold Mkr.two
  by_cases e : r.nm = nm
  · rw [if_pos e, if_pos e]
  · rw [if_neg e, if_neg e]
theorem sum_set {α : Type} (f : α → Int) (key : α → Str) (x x' : α) : ∀ {l : List α}, (l.map key).Nodup → x ∈ l → ((l.map fun y => if key y = key x then x' else y).map f).sum = (l.map f).sum - f x + f x' := by
  intro l
  induction l with
  | nil => intro _ h; cases h
  | cons y r ih =>
    intro nd h
    rw [List.map_cons, List.nodup_cons] at nd
    simp only [List.map_cons, List.sum_cons]
    rcases List.mem_cons.mp h with e | e
    · subst e
      rw [if_pos rfl]
      have same : (r.map fun y => if key y = key x then x' else y) = r := by
        have : ∀ y ∈ r, (if key y = key x then x' else y) = y := fun y hy => if_neg fun z => nd.1 (List.mem_map.mpr ⟨y, hy, z⟩)
        rw [List.map_congr_left this, List.map_id']
      rw [same]
      omega
    · have ne : key y ≠ key x := fun z => nd.1 (List.mem_map.mpr ⟨x, e, z.symm⟩)
      rw [if_neg ne, ih nd.2 e]
      omega
def saltsT (ms : List (Str × Mk)) (hs : List Hnd) : List Int := ms.map (·.2.s) ++ hs.map (·.a)
def clothsT (ms : List (Str × Mk)) (hs : List Hnd) : List Int := ms.map (·.2.c) ++ hs.map (·.b)
theorem salts_T {rs : List Mkr} {hs : List Hnd} : salts rs hs = saltsT (rs.map Mkr.two) hs := by
  unfold salts saltsT
  rw [List.map_map]; rfl
theorem cloths_T {rs : List Mkr} {hs : List Hnd} : cloths rs hs = clothsT (rs.map Mkr.two) hs := by
  unfold cloths clothsT
  rw [List.map_map]; rfl
/-- what holds of a market's rows -/
structure Inv13 (ms : List (Str × Mk)) (hs : List Hnd) (W V : Int) : Prop where
  x : MTxt ms hs
  h0 : hs ≠ []
  w : (saltsT ms hs).sum = W
  v : (clothsT ms hs).sum = V
theorem sum_app (a b : List Int) : (a ++ b).sum = a.sum + b.sum := by simp
theorem setT_as {ms : List (Str × Mk)} {x : Str × Mk} {m' : Mk} : setT ms x.1 m' = ms.map fun y => if y.1 = x.1 then (x.1, m') else y := by
  unfold setT
  apply List.map_congr_left
  intro y _
  by_cases e : y.1 = x.1
  · rw [if_pos e, if_pos e, e]
  · rw [if_neg e, if_neg e]
theorem setT_fst {ms : List (Str × Mk)} {nm : Str} {m' : Mk} : (setT ms nm m').map (·.1) = ms.map (·.1) := by
  unfold setT
  rw [List.map_map]
  apply List.map_congr_left
  intro y _
  show (if y.1 = nm then (y.1, m') else y).1 = y.1
  split <;> rfl
theorem setT_mem {ms : List (Str × Mk)} {nm : Str} {m' : Mk} {y : Str × Mk} (h : y ∈ setT ms nm m') : (∃ z ∈ ms, z.1 = y.1) ∧ (y.2 = m' ∨ y ∈ ms) := by
  unfold setT at h
  obtain ⟨z, hz, e⟩ := List.mem_map.mp h
  by_cases n : z.1 = nm
  · rw [if_pos n] at e
    subst e
    exact ⟨⟨z, hz, rfl⟩, .inl rfl⟩
  · rw [if_neg n] at e
    subst e
    exact ⟨⟨z, hz, rfl⟩, .inr hz⟩
theorem setH_mem {hs : List Hnd} {h' y : Hnd} (h : y ∈ setH hs h') : (∃ z ∈ hs, z.nm = y.nm) ∧ (y = h' ∨ y ∈ hs) := by
  unfold setH at h
  obtain ⟨z, hz, e⟩ := List.mem_map.mp h
  by_cases n : z.nm = h'.nm
  · rw [if_pos n] at e
    subst e
    exact ⟨⟨z, hz, n⟩, .inl rfl⟩
  · rw [if_neg n] at e
    subst e
    exact ⟨⟨z, hz, rfl⟩, .inr hz⟩
theorem refusal_none {h : Hnd} {m : Mk} {i n l : Int} (mo : m.Ok) (sd : Sd i) (n1 : 1 ≤ n) (rf : refusal h m i n l = Option.none) : n ≤ h.pl i ∧ Asks m i n ∧ h.pl (1 - i) + m.comes i n ≤ 1000000000000 ∧ l ≤ m.comes i n := by
  have st0 : 0 ≤ m.stk i := by
    unfold Mk.stk
    split
    · exact mo.s0
    · exact mo.c0
  unfold refusal at rf
  have c1 : ¬ h.pl i < n := fun z => by rw [if_pos z] at rf; cases rf
  rw [if_neg c1] at rf
  have c2 : ¬ (1000000000000 < m.stk i + n ∨ 1000000000000 < h.pl (1 - i) + m.comes i n) := fun z => by rw [if_pos z] at rf; cases rf
  rw [if_neg c2] at rf
  have c4 : ¬ m.comes i n < l := fun z => by rw [if_pos z] at rf; cases rf
  exact ⟨by omega, ⟨⟨mo, sd, n1, by omega⟩, by omega⟩, by omega, by omega⟩
theorem Hnd.deal_ok {h : Hnd} {m : Mk} {i n l : Int} (o : h.Ok) (mo : m.Ok) (sd : Sd i) (n1 : 1 ≤ n) (rf : refusal h m i n l = Option.none) : (h.deal i n (m.comes i n)).Ok := by
  obtain ⟨r1, as, r2, r3⟩ := refusal_none mo sd n1 rf
  have cm := as.comes
  obtain ⟨a0, a1, b0, b1⟩ := o
  unfold Hnd.pl at r1 r2
  rcases sd with rfl | rfl
  · simp only [if_true] at r1
    rw [if_neg (by decide)] at r2
    refine ⟨?_, ?_, ?_, ?_⟩ <;> simp only [Hnd.deal, if_true] <;> omega
  · rw [if_neg (by decide)] at r1
    rw [if_pos (by decide)] at r2
    refine ⟨?_, ?_, ?_, ?_⟩ <;> simp only [Hnd.deal, if_neg (show ¬ (1 : Int) = 0 by decide)] <;> omega
theorem Inv13.step {ms : List (Str × Mk)} {hs : List Hnd} {W V : Int} (I : Inv13 ms hs W V) {x : Str × Mk} {h : Hnd} {i n l : Int} (hx : x ∈ ms) (hh : h ∈ hs) (sd : Sd i) (n1 : 1 ≤ n) (rf : refusal h x.2 i n l = Option.none) : Inv13 (setT ms x.1 (x.2.deal i n)) (setH hs (h.deal i n (x.2.comes i n))) W V := by
  have mo := (I.x.mo x hx).1
  obtain ⟨r1, as, r2, r3⟩ := refusal_none mo sd n1 rf
  have nd := I.x.nd
  rw [List.nodup_append] at nd
  have nm : (h.deal i n (x.2.comes i n)).nm = h.nm := deal_nm
  have sh : setH hs (h.deal i n (x.2.comes i n)) = hs.map fun y => if y.nm = h.nm then h.deal i n (x.2.comes i n) else y := by unfold setH; rw [nm]
  have key : ∀ (f : Str × Mk → Int) (g : Hnd → Int), ((setT ms x.1 (x.2.deal i n)).map f ++ (setH hs (h.deal i n (x.2.comes i n))).map g).sum = (ms.map f ++ hs.map g).sum - f x + f (x.1, x.2.deal i n) - g h + g (h.deal i n (x.2.comes i n)) := by
    intro f g
    rw [sum_app, sum_app, sh, setT_as]
    have e1 := sum_set f (fun y : Str × Mk => y.1) x (x.1, x.2.deal i n) nd.1 hx
    have e2 := sum_set g (fun y : Hnd => y.nm) h (h.deal i n (x.2.comes i n)) nd.2.1 hh
    rw [e1, e2]
    omega
  refine ⟨⟨?_, ?_, ?_, fun y hy => ?_, fun y hy => ?_, ?_⟩, ?_, ?_, ?_⟩
  · intro z
    unfold setT at z
    exact I.x.m0 (List.map_eq_nil_iff.mp z)
  · unfold setT; rw [List.length_map]; exact I.x.m6
  · unfold setH; rw [List.length_map]; exact I.x.h6
  · obtain ⟨⟨z, hz, e⟩, q⟩ := setT_mem hy
    refine ⟨?_, by rw [← e]; exact (I.x.mo z hz).2⟩
    rcases q with q | q
    · rw [q]; exact as.ok'
    · exact (I.x.mo y q).1
  · obtain ⟨⟨z, hz, e⟩, q⟩ := setH_mem hy
    refine ⟨?_, by rw [← e]; exact (I.x.ho z hz).2⟩
    rcases q with q | q
    · rw [q]; exact Hnd.deal_ok (I.x.ho h hh).1 mo sd n1 rf
    · exact (I.x.ho y q).1
  · rw [setT_fst, setH_nm]; exact I.x.nd
  · intro z
    unfold setH at z
    exact I.h0 (List.map_eq_nil_iff.mp z)
  · have := key (·.2.s) (·.a)
    unfold saltsT
    rw [this]
    have w := I.w
    unfold saltsT at w
    rw [w]
    rcases sd with rfl | rfl
    · simp only [Mk.deal, Hnd.deal, if_true]; omega
    · simp only [Mk.deal, Hnd.deal, if_neg (show ¬ (1 : Int) = 0 by decide)]; omega
  · have := key (·.2.c) (·.b)
    unfold clothsT
    rw [this]
    have w := I.v
    unfold clothsT at w
    rw [w]
    rcases sd with rfl | rfl
    · simp only [Mk.deal, Hnd.deal, if_true]; omega
    · simp only [Mk.deal, Hnd.deal, if_neg (show ¬ (1 : Int) = 0 by decide)]; omega
theorem MTxt.set {ms : List (Str × Mk)} {hs : List Hnd} {x : Str × Mk} {m' : Mk} (X : MTxt ms hs) (o : m'.Ok) : MTxt (setT ms x.1 m') hs := by
  refine ⟨?_, ?_, X.h6, fun y hy => ?_, X.ho, ?_⟩
  · intro z
    unfold setT at z
    exact X.m0 (List.map_eq_nil_iff.mp z)
  · unfold setT; rw [List.length_map]; exact X.m6
  · obtain ⟨⟨z, hz, e⟩, q⟩ := setT_mem hy
    refine ⟨?_, by rw [← e]; exact (X.mo z hz).2⟩
    rcases q with q | q
    · rw [q]; exact o
    · exact (X.mo y q).1
  · rw [setT_fst]; exact X.nd
theorem MTxt.setH {ms : List (Str × Mk)} {hs : List Hnd} {h' : Hnd} (X : MTxt ms hs) (o : h'.Ok) : MTxt ms (setH hs h') := by
  refine ⟨X.m0, X.m6, ?_, X.mo, fun y hy => ?_, ?_⟩
  · show (hs.map _).length ≤ 6; rw [List.length_map]; exact X.h6
  · obtain ⟨⟨z, hz, e⟩, q⟩ := setH_mem hy
    refine ⟨?_, by rw [← e]; exact (X.ho z hz).2⟩
    rcases q with q | q
    · rw [q]; exact o
    · exact (X.ho y q).1
  · rw [setH_nm]; exact X.nd
/-- a maker of the market has dealt by itself -/
theorem MarketAt.dealt {g ps pk : Addr} {ms : List Mkr} {hs : List Hnd} {r : Mkr} {m' : Mk} {S S1 : Sto} (G : MarketAt g ps pk ms hs S) (ndm : (ms.map (·.nm)).Nodup) (hr : r ∈ ms) (M1 : MkAt r.p r.q m' S1) (u1 : Upd [r.q] S S1) : MarketAt g ps pk (setM ms r.nm m') hs S1 := by
  have fr := G.free hr
  have M := G.mks r hr
  refine ⟨u1 _ _ (by simpa using Ne.symm fr.2.2.2.2.2.2.2) G.ins, ?_, u1 _ _ (by simpa using Ne.symm fr.2.2.2.1) G.poc, fun y hy => ?_, G.ne, by rw [setM_q]; exact G.qn⟩
  · rw [setM_st]
    exact u1 _ _ (by simpa using Ne.symm fr.2.1) G.sta
  · unfold setM at hy
    obtain ⟨x, hx, rfl⟩ := List.mem_map.mp hy
    by_cases xn : x.nm = r.nm
    · have xr : x = r := nd_inj ndm hx hr xn
      rw [if_pos xn, xr]
      exact M1
    · rw [if_neg xn]
      have qx : x.q ≠ r.q := fun z => xn (by rw [nd_injq G.qn hx hr z])
      have px : x.p ≠ r.q := fun z => by
        have e1 := (G.mks x hx).ins
        rw [z, M.lst] at e1
        cases e1
      exact (G.mks x hx).up u1 (by simpa using px) (by simpa using qx)
theorem maD_put {ms : List (Str × Mk)} {x : Str × Mk} {m' : Mk} (h : x ∈ ms) : dput (maD ms) (.inr x.1) m'.d = maD (setT ms x.1 m') := by
  unfold dput
  rw [if_pos]
  · unfold maD setT
    rw [List.map_map, List.map_map]
    apply List.map_congr_left
    intro y _
    show (if ((.inr y.1 : Key), y.2.d).1 = .inr x.1 then _ else _) = ((.inr (if y.1 = x.1 then (y.1, m') else y).1 : Key), (if y.1 = x.1 then (y.1, m') else y).2.d)
    by_cases z : y.1 = x.1
    · rw [if_pos z, if_pos (by rw [z])]
    · rw [if_neg z, if_neg (fun w => z (Sum.inr.inj w))]
  · rw [List.any_eq_true]
    unfold maD
    exact ⟨_, List.mem_map.mpr ⟨x, h, rfl⟩, decide_eq_true rfl⟩

/-! ### what is kept, word by word -/
theorem keepNew {S S1 : Sto} {p : Addr} {o : Ob} (hp : S p = Option.none) (hS : put S p o = S1) : Keeps S S1 := hS ▸ Upd.new hp
theorem gotNew {S S1 : Sto} {p : Addr} {o : Ob} (hS : put S p o = S1) : S1 p = some o := hS ▸ put_same
/-- what stays where nothing but new things come -/
class Kp (P : Sto → Prop) : Prop where
  kp : ∀ {S S' : Sto}, P S → Keeps S S' → P S'
local macro_rules | `(tactic| simp_all_arith [$S:term, $p:term, $hp:term, $S1:term, $g:term, $K:term]) => do
  match S, p, hp, S1, g, K with
  | `($S:ident), `($p:ident), `($hp:ident), `($S1:ident), `($g:ident), `($K:ident) => `(tactic| (intro $p:ident $hp:ident; generalize hS : put $S $p _ = $S1:ident; have $K:ident := keepNew $hp hS; have $g:ident := gotNew hS; clear hS))
  | _, _, _, _, _, _ => Lean.Macro.throwUnsupported
local macro_rules | `(tactic| simp_all_arith! [$args,*]) => do
  let as : Array Lean.Syntax := args.getElems.map (·.raw)
  let K : Lean.TSyntax `ident := ⟨as[0]![2]!⟩
  let mut t ← `(tactic| skip)
  for a in as.toList.tail do
    let h : Lean.TSyntax `ident := ⟨a[2]!⟩
    t ← `(tactic| ($t:tactic; first | replace $h:ident := Kp.kp $h $K | replace $h:ident := Upd.get $K $h (by simp)))
  return t
instance Kp_eq {a : Addr} {o : Ob} : Kp (fun S => S a = some o) := ⟨fun h K => K _ _ (by simp) h⟩
instance Kp_upd {A : List Addr} {S0 : Sto} : Kp (fun S => Upd A S0 S) := ⟨fun h K => h.trans (Keeps.up K)⟩
instance Kp_mk {p q : Addr} {m : Mk} : Kp (fun S => MkAt p q m S) := ⟨fun h K => h.up K (by simp) (by simp)⟩
instance Kp_market {g ps pk : Addr} {ms : List Mkr} {hs : List Hnd} : Kp (fun S => MarketAt g ps pk ms hs S) := ⟨fun h K => h.keep K⟩
instance Kp_own {w wm wh : Addr} {ms : List (Str × Mk)} {hs : List Hnd} : Kp (fun S => OwnAt w wm wh ms hs S) := ⟨fun h K => h.keep K⟩
instance Kp_lst {a b : Addr} {ns : List Int} : Kp (fun S => LSt a b ns S) := ⟨fun h K => h.up K (by simp) (by simp)⟩
/-- a comprehension whose items change something of A -/
theorem lc_inv {g : NG} {tt : NT} {te : NE} {kp : Keep} {p : Addr} {e : N.Env} {A : List Addr} {S0 : Sto} {Q : Sto → Prop} (P : D → Prop) (I : Sto → Prop) (pA : p ∉ A) (hk : ∀ S, Upd (p :: A) S0 S → kp S) (hI : ∀ S l, I S → I (put S p (.lst l))) : ∀ {ds acc : List D} {S : Sto}, acc.length + ds.length ≤ sizeLine → Upd (p :: A) S0 S → S p = some (.lst acc) → I S →
    (∀ x ∈ ds, ∀ S (Y : D → Sto → Prop) (N : Sto → Prop), I S → (∀ y S3, P y → I S3 → Upd A S S3 → Y y S3) → g x e S fun e2 S2 => tt e2 S2 fun b S3 => match b with | true => te e2 S3 Y | false => N S3) →
    (∀ S' (ys : List D), (∀ y ∈ ys, P y) → ys.length = ds.length → I S' → Upd (p :: A) S0 S' → S' p = some (.lst (acc ++ ys)) → Q S') → lcL g tt te kp p e ds S Q
  | [], acc, S, _, u, hp, i, _, q => q S [] (fun _ h => by cases h) rfl i u (by rw [List.append_nil]; exact hp)
  | x :: xs, acc, S, hl, u, hp, i, h, q => by
    simp only [List.length_cons] at hl
    refine h x (by simp) S _ _ i fun y S3 py i3 K3 => ?_
    have g3 := K3 _ _ pA hp
    rw [g3]
    have u3 : Upd (p :: A) S0 (N.put S3 p (.lst (acc ++ [y]))) := (u.trans (K3.mono fun a ha => List.mem_cons_of_mem _ ha)).trans (Upd.at (by simp))
    refine ⟨by omega, hk _ u3, lc_inv P I pA hk hI (by simp only [List.length_append, List.length_cons, List.length_nil]; omega) u3 put_same (hI _ _ i3) (fun z hz => h z (by simp [hz])) fun S' ys py' l' i' u' hp' => q S' (y :: ys) (fun z hz => ?_) (by simp [l']) i' u' (by rw [hp', List.append_assoc]; rfl)⟩
    rcases List.mem_cons.mp hz with rfl | hz
    · exact py
    · exact py' z hz
theorem runC_inv {g : NG} {tt : NT} {te : NE} {kp : Keep} {p : Addr} {e : N.Env} {A : List Addr} {S0 : Sto} {Q : Sto → Prop} {T : TgC g tt te Q} {ds : List D} (P : D → Prop) (I : Sto → Prop) (pA : p ∉ A) (hp : S0 p = Option.none) (hk : ∀ S, Upd A S0 S → kp S) (hI : ∀ S l, I S → I (put S p (.lst l))) (i0 : I S0) (hl : ds.length ≤ sizeLine)
    (h : ∀ x ∈ ds, ∀ S (Y : D → Sto → Prop) (N : Sto → Prop), I S → (∀ y S3, P y → I S3 → Upd A S S3 → Y y S3) → g x e S fun e2 S2 => tt e2 S2 fun b S3 => match b with | true => te e2 S3 Y | false => N S3)
    (q : ∀ S' (ys : List D), (∀ y ∈ ys, P y) → ys.length = ds.length → I S' → Upd A S0 S' → S' p = some (.lst ys) → Q S') : runC g tt te kp p e ds (N.put S0 p (.lst [])) Q T := by
  have dr : ∀ {S}, Upd (p :: A) S0 S → Upd A S0 S := fun u a o na e => u a o (by
    rw [List.mem_cons, not_or]
    exact ⟨(fun z => by rw [z, hp] at e; cases e), na⟩) e
  exact lc_inv P I pA (fun S u => hk S (dr u)) hI (by simpa using hl) (Upd.at (by simp)) put_same (hI _ _ i0) h fun S' ys py l' i' u' g' => q S' ys py l' i' (dr u') (by simpa using g')
theorem seq_join {t u : NS} {Z : NEnds} {e : N.Env} {S : Sto} (I : N.Env → Sto → Prop) (hI : ∀ e2 S2, I e2 S2 → u Z e2 S2) (hs : ∀ C : N.Env → Sto → Prop, (∀ e2 S2, I e2 S2 → C e2 S2) → t { Z with nx := C } e S) : sSeq t u Z e S := hs _ hI
/-- all addresses of a market -/
def fpM (g ps pk : Addr) (rs : List Mkr) : List Addr := g :: ps :: pk :: (rs.map (·.p) ++ rs.map (·.q))
theorem MarketAt.upF {g ps pk : Addr} {ms : List Mkr} {hs : List Hnd} {S S' : Sto} {A : List Addr} (h : MarketAt g ps pk ms hs S) (u : Upd A S S') (d : ∀ x ∈ A, x ∉ fpM g ps pk ms) : MarketAt g ps pk ms hs S' := by
  have f : ∀ x ∈ fpM g ps pk ms, x ∉ A := fun x hx ha => d x ha hx
  refine h.up u (f _ (by unfold fpM; simp)) (f _ (by unfold fpM; simp)) (f _ (by unfold fpM; simp)) fun r hr => ⟨f _ ?_, f _ ?_⟩
  · unfold fpM
    simp only [List.mem_cons, List.mem_append]
    exact .inr (.inr (.inr (.inl (List.mem_map.mpr ⟨r, hr, rfl⟩))))
  · unfold fpM
    simp only [List.mem_cons, List.mem_append]
    exact .inr (.inr (.inr (.inr (List.mem_map.mpr ⟨r, hr, rfl⟩))))
theorem MarketAt.some {g ps pk : Addr} {ms : List Mkr} {hs : List Hnd} {S : Sto} (h : MarketAt g ps pk ms hs S) {x : Addr} (hx : x ∈ fpM g ps pk ms) : S x ≠ Option.none := by
  unfold fpM at hx
  simp only [List.mem_cons, List.mem_append] at hx
  rcases hx with rfl | rfl | rfl | hx | hx
  · rw [h.ins]; simp
  · rw [h.sta]; simp
  · rw [h.poc]; simp
  · obtain ⟨r, hr, rfl⟩ := List.mem_map.mp hx
    rw [(h.mks r hr).ins]; simp
  · obtain ⟨r, hr, rfl⟩ := List.mem_map.mp hx
    rw [(h.mks r hr).lst]; simp
theorem fp_fresh {g ps pk : Addr} {ms : List Mkr} {S : Sto} (h1 : S g = Option.none) (h2 : S ps = Option.none) (h3 : S pk = Option.none) (h4 : ∀ r ∈ ms, S r.p = Option.none ∧ S r.q = Option.none) : ∀ x ∈ fpM g ps pk ms, S x = Option.none := by
  intro x hx
  unfold fpM at hx
  simp only [List.mem_cons, List.mem_append] at hx
  rcases hx with rfl | rfl | rfl | hx | hx
  · exact h1
  · exact h2
  · exact h3
  · obtain ⟨r, hr, rfl⟩ := List.mem_map.mp hx
    exact (h4 r hr).1
  · obtain ⟨r, hr, rfl⟩ := List.mem_map.mp hx
    exact (h4 r hr).2
theorem setM_p {ms : List Mkr} {nm : Str} {m' : Mk} : (setM ms nm m').map (·.p) = ms.map (·.p) := by
  unfold setM
  rw [List.map_map]
  apply List.map_congr_left
  intro r _
  show (if r.nm = nm then ({ r with m := m' } : Mkr) else r).p = r.p
  split <;> rfl
theorem fp_set {g ps pk : Addr} {ms : List Mkr} {nm : Str} {m' : Mk} : fpM g ps pk (setM ms nm m') = fpM g ps pk ms := by
  unfold fpM
  rw [setM_p, setM_q]
theorem seq_join2 {t u v : NS} {Z : NEnds} {e : N.Env} {S : Sto} (I : N.Env → Sto → Prop) (hI : ∀ e2 S2, I e2 S2 → v Z e2 S2) (hs : ∀ C : N.Env → Sto → Prop, (∀ e2 S2, I e2 S2 → C e2 S2) → sSeq t u { Z with nx := C } e S) : sSeq t (sSeq u v) Z e S := hs _ hI
theorem five {ys : List D} (h : ys.length = 5) : ∃ a b c d e, ys = [a, b, c, d, e] := by
  match ys, h with
  | [a, b, c, d, e], _ => exact ⟨a, b, c, d, e, rfl⟩
theorem at_mem {xs : List D} {i : Int} (h0 : 0 ≤ i) (h1 : i < xs.length) : ∃ x, x ∈ xs ∧ atI xs i = some x := by
  refine ⟨xs[i.toNat]'(by omega), List.getElem_mem _, ?_⟩
  rw [atI_nat' h0, List.getElem?_eq_getElem (by omega)]

/-! ### a market drawn, by the fourth law's words -/
theorem lrow_ok {nm : Str} {m : Mk} {S : Sto} {Q : NQ} {E} {T : TgQ Q E} (no : NameOk nm) (o : m.Ok) (k : ∀ S', Keeps S S' → Q (.str (rowM (nm, m))) S') : runF sp__law_row [.str nm, m.d] S Q E T := by
  simp_arith! [sp__law_row, m__law_row]
  have q1 := o.s0; have q2 := o.s1; have q3 := o.c0; have q4 := o.c1
  obtain ⟨t0, b1, b2, tb⟩ := o.due
  have n1 : m.s.natAbs < 2 ^ 1900 := nat1900 (by omega)
  have n2 : m.c.natAbs < 2 ^ 1900 := nat1900 (by omega)
  have n3 : m.t.natAbs < 2 ^ 1900 := nat1900 (by omega)
  have n4 : m.b.natAbs < 2 ^ 1900 := nat1900 (by omega)
  have sl : (10000 : Nat) ≤ sizeLine := by decide
  obtain ⟨w1, w2, w3⟩ := mwords_ok no o
  have js := jo_size w1 w3
  have wd := (word_due o.due).len
  have wt := (word_sh t0 (by omega)).len
  have wb := (word_sh (by omega : 0 ≤ m.b) (by omega)).len
  have es : (Str.ofString "/").length = 1 := by decide
  have ea : ∀ a b : Str, (a ++ b).length = a.length + b.length := fun a b => by rw [TL.len_tl, TL.tl_append, List.length_append, ← TL.len_tl, ← TL.len_tl]
  have h1 : (Str.ofString (toString m.t)).length + (Str.ofString "/").length ≤ sizeLine := by
    show (shI m.t).length + _ ≤ _
    omega
  have h2 : (Str.ofString (toString m.t) ++ Str.ofString "/").length + (Str.ofString (toString m.b)).length ≤ sizeLine := by
    rw [ea]
    show (shI m.t).length + _ + (shI m.b).length ≤ _
    omega
  rw [md m]
  simp_arith [cut_4, n1, n2, n3, n4, atI_0, atI_1, atI_2, atI_3]
  refine ⟨h1, h2, fun p hp => ?_⟩
  have K2 : Keeps S (put S p (.lst [.str "maker", .str nm, .str m.word, .str (shI m.s), .str (shI m.c), .str (dueI m.t m.b)])) := Upd.new hp
  have g2 : put S p (.lst [.str "maker", .str nm, .str m.word, .str (shI m.s), .str (shI m.c), .str (dueI m.t m.b)]) p = some (.lst [.str "maker", .str nm, .str m.word, .str (shI m.s), .str (shI m.c), .str (dueI m.t m.b)]) := put_same
  show runL _ _ _ _ _ _ (put S p (.lst [.str "maker", .str nm, .str m.word, .str (shI m.s), .str (shI m.c), .str (dueI m.t m.b)])) _
  have e6 : mwords nm m = [Str.ofString "maker", nm, m.word, shI m.s, shI m.c, dueI m.t m.b] ++ m.tails := rfl
  refine runL_invL (fun xs e S2 => (∃ r x3, e = [some (.str nm), some m.d, some (.ref r), x3] ∧ ((xs = [] ∧ S2 r = some (.lst ((mwords nm m).map D.str))) ∨ (xs = m.more ∧ xs ≠ [] ∧ S2 r = some (.lst [.str "maker", .str nm, .str m.word, .str (shI m.s), .str (shI m.c), .str (dueI m.t m.b)])))) ∧ Keeps S S2)
    (fun xs e S2 h => trivial) (fun e S2 h => ?_) (fun x xs e S2 C h hC => ?_) ?_
  · obtain ⟨⟨r, x3, rfl, ⟨_, g2⟩ | ⟨_, z, _⟩⟩, K⟩ := h
    · simp_arith [g2]
      rw [strsM]
      refine ⟨js, k S2 K⟩
    · exact absurd rfl z
  · obtain ⟨⟨r, x3, rfl, ⟨z, _⟩ | ⟨ex, _, g2⟩⟩, K⟩ := h
    · cases z
    have nr : m.k ≠ .pr := by
      intro hk
      unfold Mk.more at ex
      rw [hk] at ex
      cases ex
    have tl : m.tails = [shI m.x, shI m.y] := by
      unfold Mk.tails
      cases hk : m.k with
      | pr => exact absurd hk nr
      | st => rfl
      | su => rfl
    have mo : m.more = [.tup [.int m.x, .int m.y]] := by
      unfold Mk.more
      cases hk : m.k with
      | pr => exact absurd hk nr
      | st => rfl
      | su => rfl
    rw [mo] at ex
    obtain ⟨rfl, rfl⟩ := List.cons.inj ex
    have xy : 0 ≤ m.x ∧ m.x ≤ 1000000000000 ∧ 0 ≤ m.y ∧ m.y ≤ 1000000000000 := by
      cases hk : m.k with
      | pr => exact absurd hk nr
      | st => obtain ⟨x0, x1, y0, y1, _, _⟩ := o.st hk; exact ⟨x0, x1, y0, y1⟩
      | su => obtain ⟨x0, x1, y0, y1⟩ := o.su hk; exact ⟨by omega, by omega, by omega, by omega⟩
    have n5 : m.x.natAbs < 2 ^ 1900 := nat1900 (by omega)
    have n6 : m.y.natAbs < 2 ^ 1900 := nat1900 (by omega)
    have at0 : atI ([.int m.x, .int m.y] : List D) 0 = some (.int m.x) := rfl
    have at1 : atI ([.int m.x, .int m.y] : List D) 1 = some (.int m.y) := rfl
    simp_arith [n5, n6, at0, at1]
    intro z hz
    have K2 : Keeps S2 (put S2 z (.lst [.str (shI m.x), .str (shI m.y)])) := Upd.new hz
    have g3 := K2 _ _ (by simp) g2
    have g4 : put S2 z (.lst [.str (shI m.x), .str (shI m.y)]) z = some (.lst [.str (shI m.x), .str (shI m.y)]) := put_same
    have e2 : put S2 z (.lst [.str (Str.ofString (toString m.x)), .str (Str.ofString (toString m.y))]) = put S2 z (.lst [.str (shI m.x), .str (shI m.y)]) := rfl
    rw [e2]
    generalize put S2 z (.lst [.str (shI m.x), .str (shI m.y)]) = S3 at *
    rw [g3, g4]
    refine ⟨by show (8 : Nat) ≤ sizeLine; decide, fun y hy => hC _ _ ⟨⟨_, _, rfl, .inl ⟨rfl, ?_⟩⟩, Upd.trans (Upd.trans K K2) (Upd.new hy)⟩⟩
    rw [put_same, e6, tl]
    rfl
  · refine ⟨⟨_, _, by rw [← md m], ?_⟩, K2⟩
    cases hk : m.k with
    | pr =>
      left
      refine ⟨by unfold Mk.more; rw [hk], ?_⟩
      rw [g2, e6]
      unfold Mk.tails
      rw [hk]
      rfl
    | st =>
      right
      exact ⟨rfl, by unfold Mk.more; rw [hk]; simp, g2⟩
    | su =>
      right
      exact ⟨rfl, by unfold Mk.more; rw [hk]; simp, g2⟩

theorem rgD_cons {lo : Int} {n : Nat} : rangeD lo (n + 1) = .int lo :: rangeD (lo + 1) n := by
  unfold rangeD
  rw [List.range_succ_eq_map, List.map_cons, List.map_map]
  congr 1
  · simp
  · apply List.map_congr_left
    intro i _
    show D.int (lo + ((i + 1 : Nat) : Int)) = D.int (lo + 1 + (i : Int))
    congr 1
    omega
theorem rgD_len {lo : Int} {n : Nat} : (rangeD lo n).length = n := by unfold rangeD; simp
theorem plainZ_ok {a b : Addr} {ns : List Int} {S0 S : Sto} {Q : NQ} {E} {T : TgQ Q E} {most : Int} (h0 : 1 ≤ most) (h1 : most ≤ 1000000000000) (h : Dr a b ns S0 S) (k : ∀ (m : Mk) S', m.Ok → m.s ≤ most → m.c ≤ most → Dr a b ns S0 S' → Q m.d S') : runF sp__law_plain [.ref a, .int most] S Q E T := by
  simp_arith! [sp__law_plain, m__law_plain]
  have e3 : (0 : Int) < 3 := by decide
  have e5 : PowOk 10 12 := ⟨by decide, by decide, by decide⟩
  have e6 : (10 : Int) ^ (12 : Int).toNat = 1000000000000 := by decide
  have m0 : 0 ≤ most := by omega
  try simp_arith []
  refine nx_ok h fun v S1 v0 v1 d1 => ?_
  have mv := mod_lt (i := v) e3
  simp_arith [e3, e5, e6]
  refine due_of_ok d1 fun t b' S2 du d2 => ?_
  try simp_arith [e5, e6]
  refine great_ok m0 d2 fun s S3 s0 s1 d3 => ?_
  try simp_arith [e5, e6]
  refine great_ok m0 d3 fun c S4 c0 c1 d4 => ?_
  try simp_arith [e5, e6]
  have s2 := Int.le_trans s1 h1
  have c2 := Int.le_trans c1 h1
  by_cases w0 : v % 3 = 0
  · simp_arith [w0, decide_true]
    exact k _ S4 (ok_pr s0 s2 c0 c2 du) (by dsimp only; split <;> omega) (by dsimp only; split <;> omega) d4
  by_cases w1 : v % 3 = 1
  · simp_arith [w0, w1, decide_true, decide_false]
    refine great_ok (by decide) d4 fun x S5 x0 x1 d5 => ?_
    try simp_arith [e5, e6]
    refine great_ok (by decide) d5 fun y S6 y0 y1 d6 => ?_
    try simp_arith [e5, e6]
    exact k _ S6 (ok_st s0 s2 c0 c2 x0 x1 y0 y1 du) s1 c1 d6
  · simp_arith [w0, w1, decide_true, decide_false]
    refine great_ok (by decide) d4 fun x S5 x0 x1 d5 => ?_
    try simp_arith [e5, e6]
    refine great_ok (by decide) d5 fun y S6 y0 y1 d6 => ?_
    try simp_arith [e5, e6]
    exact k _ S6 (ok_su s0 s2 c0 c2 x0 x1 y0 y1 du) s1 c1 d6

def inZ (c : Nat) : Prop := 97 ≤ c ∧ c ≤ 122
theorem inZ_ok {z : Str} (h : ∀ c ∈ TL.tl z, inZ c) : allIn z "abcdefghijklmnopqrstuvwxyz" = true := by
  unfold allIn
  rw [List.all_eq_true]
  intro c hc
  apply decide_eq_true
  rw [letters]
  have := h c hc
  unfold inZ at this
  exact List.mem_map.mpr ⟨c - 97, by simp; omega, by omega⟩
theorem tl_cutz {z : Str} {i : Int} (h : 0 ≤ i) : TL.tl (cutS z Option.none (some i)) = (TL.tl z).take i.toNat := by
  unfold cutS
  have e := HT.sIx_nat z.length z.length i.toNat
  rw [show ((i.toNat : Nat) : Int) = i by omega] at e
  rw [e, HT.sIx_none, List.drop_zero, TL.tl_mk]
  show (TL.tl z).take _ = _
  rw [TL.len_tl, Nat.sub_zero]
  apply List.ext_getElem?
  intro j
  rw [List.getElem?_take, List.getElem?_take]
  by_cases hj : j < (TL.tl z).length
  · by_cases hi : j < i.toNat
    · rw [if_pos hi, if_pos (by omega)]
    · rw [if_neg hi, if_neg (by omega)]
  · rw [List.getElem?_eq_none (by omega)]
    split <;> split <;> rfl
def nmz (f : Int) (T : Str) (k : Nat) : Str := { cps := #[109 + ((f + 5 * (k : Int)) % 6).toNat] } ++ T
def hnz (f : Int) (k : Nat) : Str := { cps := #[117 + ((f / 24 + 2 * (k : Int)) % 3).toNat] }
theorem tl_one (c : Nat) : TL.tl ({ cps := #[c] } : Str) = [c] := rfl
theorem tl_nmz {f : Int} {T : Str} {k : Nat} : TL.tl (nmz f T k) = (109 + ((f + 5 * (k : Int)) % 6).toNat) :: TL.tl T := by
  unfold nmz
  rw [TL.tl_append]
  rfl
structure TailZ (T : Str) : Prop where
  l : T.length ≤ 3
  c : ∀ c ∈ TL.tl T, inZ c
theorem nmz_ok {f : Int} {T : Str} {k : Nat} (h : TailZ T) : NameOk (nmz f T k) := by
  have hl := h.l
  rw [TL.len_tl] at hl
  refine ⟨?_, ?_, inZ_ok fun c hc => ?_⟩
  · rw [TL.len_tl, tl_nmz, List.length_cons]; omega
  · rw [TL.len_tl, tl_nmz, List.length_cons]; omega
  · rw [tl_nmz] at hc
    rcases List.mem_cons.mp hc with rfl | hc
    · unfold inZ; omega
    · exact h.c c hc
theorem hnz_ok {f : Int} {k : Nat} : NameOk (hnz f k) := by
  have l1 : (TL.tl (hnz f k)).length = 1 := by unfold hnz; rw [tl_one]; rfl
  refine ⟨by rw [TL.len_tl, l1]; omega, by rw [TL.len_tl, l1]; omega, inZ_ok fun c hc => ?_⟩
  unfold hnz at hc
  rw [tl_one, List.mem_singleton] at hc
  unfold inZ; omega
theorem nmz_inj {f : Int} {T : Str} {i j : Nat} (hi : i < 6) (hj : j < 6) (e : nmz f T i = nmz f T j) : i = j := by
  have := congrArg TL.tl e
  rw [tl_nmz, tl_nmz] at this
  have := (List.cons.inj this).1
  omega
theorem hnz_inj {f : Int} {i j : Nat} (hi : i < 3) (hj : j < 3) (e : hnz f i = hnz f j) : i = j := by
  have := congrArg TL.tl e
  unfold hnz at this
  rw [tl_one, tl_one] at this
  have := (List.cons.inj this).1
  omega
theorem nmz_hnz {f g : Int} {T : Str} {i j : Nat} : nmz f T i ≠ hnz g j := by
  intro e
  have := congrArg TL.tl e
  rw [tl_nmz] at this
  unfold hnz at this
  rw [tl_one] at this
  have := (List.cons.inj this).1
  omega
theorem mnop {j : Int} (h0 : 0 ≤ j) (h1 : j < 6) : atI (Str.ofString "mnopqr").cps.toList j = some (109 + j.toNat) := by
  have t : TL.tl (Str.ofString "mnopqr") = [109, 110, 111, 112, 113, 114] := by rw [TL.tl_ofString]; decide
  rw [atI_nat' h0]
  show (TL.tl (Str.ofString "mnopqr"))[j.toNat]? = _
  rw [t]
  have c : j = 0 ∨ j = 1 ∨ j = 2 ∨ j = 3 ∨ j = 4 ∨ j = 5 := by omega
  rcases c with rfl | rfl | rfl | rfl | rfl | rfl <;> rfl
theorem uvw {j : Int} (h0 : 0 ≤ j) (h1 : j < 3) : atI (Str.ofString "uvw").cps.toList j = some (117 + j.toNat) := by
  have t : TL.tl (Str.ofString "uvw") = [117, 118, 119] := by rw [TL.tl_ofString]; decide
  rw [atI_nat' h0]
  show (TL.tl (Str.ofString "uvw"))[j.toNat]? = _
  rw [t]
  have c : j = 0 ∨ j = 1 ∨ j = 2 := by omega
  rcases c with rfl | rfl | rfl <;> rfl
theorem aei {q : Int} (h0 : 0 ≤ q) : TailZ (cutS (Str.ofString "aei") Option.none (some q)) := by
  have t : TL.tl (Str.ofString "aei") = [97, 101, 105] := by rw [TL.tl_ofString]; decide
  refine ⟨?_, fun c hc => ?_⟩
  · rw [TL.len_tl, tl_cutz h0, t, List.length_take]
    simp only [List.length_cons, List.length_nil]
    omega
  · rw [tl_cutz h0, t] at hc
    have := List.mem_of_mem_take hc
    simp only [List.mem_cons, List.not_mem_nil, or_false] at this
    unfold inZ
    omega

theorem maD_nd {ms : List (Str × Mk)} (h : (ms.map (·.1)).Nodup) : ((maD ms).map (·.1)).Nodup := by
  have e : (maD ms).map (·.1) = (ms.map (·.1)).map (Sum.inr : Str → Key) := by
    unfold maD
    rw [List.map_map, List.map_map]
    rfl
  rw [e]
  exact List.Pairwise.map Sum.inr (fun _ _ n z => n (Sum.inr.inj z)) h
theorem ma_at {ms : List (Str × Mk)} {x : Str × Mk} (nd : (ms.map (·.1)).Nodup) (h : x ∈ ms) : dget (maD ms) (.inr x.1) = some x.2.d := dget_at (maD_nd nd) (List.mem_map.mpr ⟨x, h, rfl⟩)
theorem po_at {hs : List Hnd} {h : Hnd} (nd : (hs.map (·.nm)).Nodup) (hh : h ∈ hs) : dget (poD hs) (.inr h.nm) = some (.tup [.int h.a, .int h.b]) := dget_at (poD_nd nd) (List.mem_map.mpr ⟨h, hh, rfl⟩)
theorem dr_keep {a b : Addr} {ns : List Int} {S S1 S2 : Sto} (h : Dr a b ns S S1) (K : Keeps S1 S2) : Dr a b ns S S2 := ⟨h.l.up K (by simp) (by simp), h.u.trans (Keeps.up K)⟩
theorem dr_free {a b : Addr} {ns : List Int} {S : Sto} (h : LSt a b ns S) {p : Addr} (hp : S p = Option.none) : p ∉ [a, b] := by
  obtain ⟨q1, q2⟩ := h.fresh hp
  simp only [List.mem_cons, List.not_mem_nil, or_false, not_or]
  exact ⟨q1, q2⟩
theorem hjoin_ok {h : Hnd} (no : NameOk h.nm) (o : h.Ok) : (([Str.ofString "hand", h.nm, Str.ofString (toString h.a), Str.ofString (toString h.b)].map (·.length)).sum + 4 * (Str.ofString " ").length ≤ 16777216) ∧ Txt.join (Str.ofString " ") [Str.ofString "hand", h.nm, Str.ofString (toString h.a), Str.ofString (toString h.b)] = rowH h ∧ h.a.natAbs < 2 ^ 1900 ∧ h.b.natAbs < 2 ^ 1900 := by
  have w := hwords_ok no o
  have j := jo_size w.1 w.2.2
  obtain ⟨a0, a1, b0, b1⟩ := o
  exact ⟨j, rfl, nat1900 (by omega), nat1900 (by omega)⟩
theorem marketZ_ok {a b : Addr} {ns : List Int} {S : Sto} {most many : Int} {Q : NQ} {E} {T : TgQ Q E} (h : LSt a b ns S) (m1 : 1 ≤ most) (m2 : most ≤ 1000000000000) (n1 : 1 ≤ many) (n6 : many ≤ 6)
    (k : ∀ wm wh ms hs S', S wm = Option.none → S wh = Option.none → wm ≠ wh → S' wm = some (.dic (maD ms)) → S' wh = some (.dic (poD hs)) → MTxt ms hs → hs ≠ [] → ms.length ≤ many → (∀ x ∈ ms, x.2.s ≤ most ∧ x.2.c ≤ most) → LSt a b ns S' → Upd [a, b] S S' → Q (.tup [.str (mtext ms hs), .ref wm, .ref wh]) S') : runF sp__law_market [.ref a, .int most, .int many] S Q E T := by
  have sl : (10000 : Nat) ≤ sizeLine := by decide
  have np : (0 : Int) < many := by omega
  have e6 : (0 : Int) < 6 := by decide
  have e4 : (0 : Int) < 4 := by decide
  have e3 : (0 : Int) < 3 := by decide
  simp_arith! [sp__law_market, m__law_market]
  simp_arith []
  simp_all_arith [S, wm, hwm, S1, gm, K1]
  have fm : wm ∉ [a, b] := dr_free h hwm
  have h1 : LSt a b ns S1 := h.up K1 (by simp) (by simp)
  refine nx_ok ⟨h1, Upd.refl⟩ fun f S2 f0 f1 d2 => ?_
  simp_arith []
  refine nx_ok d2 fun v S3 v0 v1 d3 => ?_
  have mv := mod_lt (i := v) np
  have gm3 := d3.u _ _ fm gm
  simp_arith [np]
  refine ⟨by unfold RngOk; omega, ?_⟩
  have q0 := mod_lt (i := f / 6) e4
  have hT := aei q0.1
  have dv6 : DivOk f 6 := div_ok (by decide) (by decide)
  have dv24 : DivOk f 24 := div_ok (by decide) (by decide)
  have l1 : ∀ c : Nat, ({ cps := #[c] } : Str).length = 1 := fun c => rfl
  have lT := hT.l
  generalize hTT : cutS (Str.ofString "aei") Option.none (some (f / 6 % 4)) = T' at *
  refine runL_invL (fun xs e S' => ∃ (i : Nat) (ms : List (Str × Mk)) (x5 x6 : Option D), i ≤ (1 + v % many).toNat ∧ xs = rangeD i ((1 + v % many).toNat - i) ∧ e = [some (.ref a), some (.int most), some (.int many), some (.ref wm), some (.int f), x5, x6, none, none] ∧ S' wm = some (.dic (maD ms)) ∧ ms.map (·.1) = (List.range i).map (nmz f T') ∧ (∀ x ∈ ms, x.2.Ok ∧ x.2.s ≤ most ∧ x.2.c ≤ most) ∧ LSt a b ns S' ∧ Upd [a, b, wm] S1 S')
    (fun xs e S h => trivial) (fun e S' h => ?_) (fun x xs e S' C h hC => ?_) ?_
  · obtain ⟨i, ms, x5, x6, hi, hx, rfl, gm, hms, hok, ls, u⟩ := h
    have i12 : i = (1 + v % many).toNat := by
      have := congrArg List.length hx
      rw [rgD_len, List.length_nil] at this
      omega
    have lms : ms.length = i := by
      have := congrArg List.length hms
      rw [List.length_map, List.length_map, List.length_range] at this
      exact this
    simp_arith []
    simp_all_arith [S', wh, hwh, S5, gh, K5]
    have fh : wh ∉ [a, b] := dr_free ls hwh
    have mh : wm ≠ wh := fun z => by rw [z, hwh] at gm; cases gm
    have fh3 : wh ∉ [a, b, wm] := by
      simp only [List.mem_cons, List.not_mem_nil, or_false, not_or] at fh ⊢
      exact ⟨fh.1, fh.2, Ne.symm mh⟩
    have h1wh : S1 wh = Option.none := u.fresh' hwh fh3
    have h0wh : S wh = Option.none := K1.fresh' h1wh (by simp)
    simp_all_arith! [K5, gm, ls, u]
    refine nx_ok ⟨ls, Upd.refl⟩ fun v2 S6 v20 v21 d6 => ?_
    have gm6 := d6.u _ _ fm gm
    have gh6 := d6.u _ _ fh gh
    have m3 := mod_lt (i := v2) e3
    simp_arith [e3]
    refine ⟨by unfold RngOk; omega, ?_⟩
    have e12 : PowOk 10 12 := ⟨by decide, by decide, by decide⟩
    have p12 : (10 : Int) ^ Int.toNat 12 = 1000000000000 := by decide
    refine runL_invL (fun xs e S' => ∃ (j : Nat) (hs : List Hnd) (x5 x6 : Option D), j ≤ (1 + v2 % 3).toNat ∧ xs = rangeD j ((1 + v2 % 3).toNat - j) ∧ e = [some (.ref a), some (.int most), some (.int many), some (.ref wm), some (.int f), x5, x6, some (.ref wh), none] ∧ S' wm = some (.dic (maD ms)) ∧ S' wh = some (.dic (poD hs)) ∧ hs.map (·.nm) = (List.range j).map (hnz f) ∧ (∀ x ∈ hs, x.Ok) ∧ LSt a b ns S' ∧ Upd [a, b, wm, wh] S1 S')
      (fun xs e S h => trivial) (fun e S' h => ?_) (fun x xs e S' C h hC => ?_) ?_
    · obtain ⟨j, hs, x5, x6, hj, hx, rfl, gm, gh, hhs, hho, ls, u⟩ := h
      have j12 : j = (1 + v2 % 3).toNat := by
        have := congrArg List.length hx
        rw [rgD_len, List.length_nil] at this
        omega
      have lhs : hs.length = j := by
        have := congrArg List.length hhs
        rw [List.length_map, List.length_map, List.length_range] at this
        exact this
      have nmo : ∀ x ∈ ms, NameOk x.1 := fun x hx => by
        have : x.1 ∈ (List.range i).map (nmz f T') := by rw [← hms]; exact List.mem_map.mpr ⟨x, hx, rfl⟩
        obtain ⟨q, _, e⟩ := List.mem_map.mp this
        rw [← e]; exact nmz_ok hT
      have nho : ∀ x ∈ hs, NameOk x.nm := fun x hx => by
        have : x.nm ∈ (List.range j).map (hnz f) := by rw [← hhs]; exact List.mem_map.mpr ⟨x, hx, rfl⟩
        obtain ⟨q, _, e⟩ := List.mem_map.mp this
        rw [← e]; exact hnz_ok
      have X : MTxt ms hs := by
        refine ⟨?_, by omega, by omega, fun x hx => ⟨(hok x hx).1, nmo x hx⟩, fun x hx => ⟨hho x hx, nho x hx⟩, ?_⟩
        · intro z; rw [z, List.length_nil] at lms; omega
        · rw [hms, hhs, List.nodup_append]
          refine ⟨?_, ?_, fun x hx y hy => ?_⟩
          · refine List.Pairwise.map _ (R := fun p q => p ≠ q ∧ p < 6 ∧ q < 6) (fun p q h e => h.1 (nmz_inj h.2.1 h.2.2 e)) ?_
            refine List.Pairwise.imp_of_mem (fun {p q} hp hq h => ?_) (List.nodup_range (n := i))
            rw [List.mem_range] at hp hq
            exact ⟨h, by omega, by omega⟩
          · refine List.Pairwise.map _ (R := fun p q => p ≠ q ∧ p < 3 ∧ q < 3) (fun p q h e => h.1 (hnz_inj h.2.1 h.2.2 e)) ?_
            refine List.Pairwise.imp_of_mem (fun {p q} hp hq h => ?_) (List.nodup_range (n := j))
            rw [List.mem_range] at hp hq
            exact ⟨h, by omega, by omega⟩
          · obtain ⟨p, _, rfl⟩ := List.mem_map.mp hx
            obtain ⟨q, _, rfl⟩ := List.mem_map.mp hy
            exact nmz_hnz
      have nd := X.nd
      rw [List.nodup_append] at nd
      have UU : Upd [a, b] S S' := upd_drop (B := [a, b, wm, wh]) ((Keeps.up K1).trans u) fun x hx hn => by
        simp only [List.mem_cons, List.not_mem_nil, or_false, not_or] at hx hn
        rcases hx with rfl | rfl | rfl | rfl
        · exact absurd rfl hn.1
        · exact absurd rfl hn.2
        · exact hwm
        · exact h0wh
      simp_arith []
      refine lock_s gm ?_
      have gs : put S' wm (.lok (maD ms)) wm = some (.lok (maD ms)) := put_same
      simp_arith [gs]
      intro p hp
      have hp' : S' p = Option.none := by
        by_cases z : p = wm
        · rw [z, gs] at hp; cases hp
        · rw [put_ne z] at hp; exact hp
      have pm : p ≠ wm := fun z => by rw [z, gm] at hp'; cases hp'
      refine runC_keepM (fun x : Str × Mk => .str x.1) (fun x : Str × Mk => .str (rowM x)) (by unfold maD; rw [List.map_map]; rfl) hp (fun _ _ => trivial) (by omega) (fun x hx S7 Y N K hY => ?_) fun S7 K7 g7 => ?_
      · have gs7 := K _ _ (by simp) gs
        have ma := ma_at nd.1 hx
        simp_arith [gs7, ma]
        refine lrow_ok (nmo x hx) (hok x hx).1 fun S8 K8 => ?_
        exact hY _ K8
      have K8 := keeps_lock gm K7
      have g8 : put S7 wm (.dic (maD ms)) p = some (.lst (ms.map fun x => .str (rowM x))) := by rw [put_ne pm]; exact g7
      try simp_arith []
      simp_all_arith! [K8, gm, gh, ls, UU]
      generalize put S7 wm (.dic (maD ms)) = S8 at *
      refine lock_e gh ?_
      have gs2 : put S8 wh (.lok (poD hs)) wh = some (.lok (poD hs)) := put_same
      simp_arith [gs2]
      intro p2 hp2
      have hp2' : S8 p2 = Option.none := by
        by_cases z : p2 = wh
        · rw [z, gs2] at hp2; cases hp2
        · rw [put_ne z] at hp2; exact hp2
      have pm2 : p2 ≠ wh := fun z => by rw [z, gh] at hp2'; cases hp2'
      refine runC_keepM (fun x : Hnd => .str x.nm) (fun x : Hnd => .str (rowH x)) (by unfold poD; rw [List.map_map]; rfl) hp2 (fun _ _ => trivial) (by omega) (fun x hx S9 Y N K hY => ?_) fun S9 K9 g9 => ?_
      · have gs9 := K _ _ (by simp) gs2
        have po := po_at nd.2.1 hx
        obtain ⟨j1, j2, j3, j4⟩ := hjoin_ok (nho x hx) (hho x hx)
        have a0 : atI ([.int x.a, .int x.b] : List D) 0 = some (.int x.a) := rfl
        have a1 : atI ([.int x.a, .int x.b] : List D) 1 = some (.int x.b) := rfl
        simp_arith [gs9, po, a0, a1, j3, j4]
        simp_all_arith [S9, p5, hp5, S10, g10, K10]
        have ss : strsOf [.str (Str.ofString "hand"), .str x.nm, .str (Str.ofString (toString x.a)), .str (Str.ofString (toString x.b))] = some [Str.ofString "hand", x.nm, Str.ofString (toString x.a), Str.ofString (toString x.b)] := rfl
        simp_arith [g10, ss]
        refine ⟨j1, ?_⟩
        rw [j2]
        exact hY _ K10
      have K10 := keeps_lock gh K9
      have g10 : put S9 wh (.dic (poD hs)) p2 = some (.lst (hs.map fun x => .str (rowH x))) := by rw [put_ne pm2]; exact g9
      try simp_arith []
      simp_all_arith! [K10, gm, gh, ls, UU, g8]
      generalize put S9 wh (.dic (poD hs)) = S10 at *
      simp_arith [g8, g10]
      have el : (ms.map fun x => D.str (rowM x)) ++ (hs.map fun x => D.str (rowH x)) = (ms.map rowM ++ hs.map rowH).map D.str := by
        rw [List.map_append, List.map_map, List.map_map]; rfl
      rw [el]
      refine ⟨by rw [List.length_map, List.length_map]; omega, ?_⟩
      simp_all_arith [S10, p6, hp6, S11, g11, K11]
      simp_all_arith! [K11, gm, gh, ls, UU]
      have sm := sum_le fun w hw => (X.rows w hw).2
      have en : (Str.ofString "\n").length = 1 := by decide
      have ln : (ms.map rowM ++ hs.map rowH).length ≤ 12 := by
        have := X.m6; have := X.h6
        rw [List.length_append, List.length_map, List.length_map]; omega
      have ss := strsM (ms.map rowM ++ hs.map rowH)
      simp_arith [g11, ss]
      refine ⟨by show _ ≤ sizeLine; rw [en]; omega, ?_⟩
      exact k wm wh ms hs _ hwm h0wh mh gm gh X (fun z => by rw [z, List.length_nil] at lhs; omega) (by omega) (fun x hx => (hok x hx).2) ls UU
    · obtain ⟨j, hs, x5, x6, hj, hx, rfl, gm, gh, hhs, hho, ls, u⟩ := h
      have j12 : j < (1 + v2 % 3).toNat := by
        have := congrArg List.length hx
        rw [rgD_len, List.length_cons] at this
        omega
      obtain ⟨g, hg⟩ : ∃ g, (1 + v2 % 3).toNat - j = g + 1 := ⟨(1 + v2 % 3).toNat - j - 1, by omega⟩
      rw [hg, rgD_cons] at hx
      obtain ⟨rfl, rfl⟩ := List.cons.inj hx
      simp_arith [e12, p12]
      refine great_ok (by decide) ⟨ls, Upd.refl⟩ fun x S7 x0 x1 d7 => ?_
      simp_arith [e12, p12]
      refine great_ok (by decide) d7 fun y S8 y0 y1 d8 => ?_
      have m3' := mod_lt (i := f / 24 + 2 * (j : Int)) e3
      have mn := uvw m3'.1 m3'.2
      have mo : N.MulOk 2 (j : Int) := .inl (by decide)
      have gm8 := d8.u _ _ fm gm
      have gh8 := d8.u _ _ fh gh
      have new : ∀ r ∈ hs, r.nm ≠ hnz f j := by
        intro r hr z
        have hr1 : r.nm ∈ (List.range j).map (hnz f) := by rw [← hhs]; exact List.mem_map.mpr ⟨r, hr, rfl⟩
        obtain ⟨q, hq, e⟩ := List.mem_map.mp hr1
        rw [List.mem_range] at hq
        rw [z] at e
        have := hnz_inj (by omega) (by omega) e
        omega
      have lhs : hs.length = j := by
        have := congrArg List.length hhs
        rw [List.length_map, List.length_map, List.length_range] at this
        exact this
      have nmE : ({ cps := #[117 + ((f / 24 + 2 * (j : Int)) % 3).toNat] } : Str) = hnz f j := rfl
      have dp : dput (poD hs) (.inr (hnz f j)) (.tup [.int x, .int y]) = poD (hs ++ [⟨hnz f j, x, y⟩]) := by
        rw [dput_new (po_keys new)]
        unfold poD
        rw [List.map_append]
        rfl
      have lm : (poD hs).length < sizeLine := by
        unfold poD
        rw [List.length_map]
        omega
      simp_arith [e3, mo, mn, dv24, gh8, lm, nmE, dp]
      have u7 : Upd [wh] S8 (put S8 wh (.dic (poD (hs ++ [⟨hnz f j, x, y⟩])))) := Upd.at (by simp)
      refine ⟨by show (3 : Nat) ≤ sizeLine; decide, hC _ _ ⟨j + 1, hs ++ [⟨hnz f j, x, y⟩], _, _, by omega, by rw [show (1 + v2 % 3).toNat - (j + 1) = g by omega]; rfl, rfl, u7 _ _ (by simpa using mh) gm8, put_same, ?_, ?_, d8.l.up u7 ?_ ?_, (u.trans (d8.u.mono (by simp))).trans (u7.mono (by simp))⟩⟩
      · rw [List.map_append, hhs, List.range_succ, List.map_append]
        rfl
      · intro z hz
        rcases List.mem_append.mp hz with hz | hz
        · exact hho z hz
        · rw [List.mem_singleton.mp hz]; exact ⟨x0, x1, y0, y1⟩
      · intro z; exact fh (by rw [List.mem_singleton.mp z]; simp)
      · intro z; exact fh (by rw [List.mem_singleton.mp z]; simp)
    · exact ⟨0, [], _, _, by omega, rfl, rfl, gm6, gh6, rfl, (fun x hx => by cases hx), d6.l, (u.trans (d6.u.mono (by simp))).mono (by simp)⟩
  · obtain ⟨i, ms, x5, x6, hi, hx, rfl, gm, hms, hok, ls, u⟩ := h
    have i12 : i < (1 + v % many).toNat := by
      have := congrArg List.length hx
      rw [rgD_len, List.length_cons] at this
      omega
    obtain ⟨g, hg⟩ : ∃ g, (1 + v % many).toNat - i = g + 1 := ⟨(1 + v % many).toNat - i - 1, by omega⟩
    rw [hg, rgD_cons] at hx
    obtain ⟨rfl, rfl⟩ := List.cons.inj hx
    have m6 := mod_lt (i := f + 5 * (i : Int)) e6
    have mn := mnop m6.1 m6.2
    have mo : N.MulOk 5 (i : Int) := .inl (by decide)
    have i3 : (3 : Nat) ≤ sizeLine := by decide
    simp_arith [e6, e4, mo, mn, dv6, hTT, l1]
    refine ⟨by show (6 : Nat) ≤ sizeLine; decide, by show (3 : Nat) ≤ sizeLine; decide, by omega, ?_⟩
    refine plainZ_ok m1 m2 ⟨ls, Upd.refl⟩ fun m S6 om ms0 mc0 d6 => ?_
    have g6 := d6.u _ _ fm gm
    have nmE : ({ cps := #[109 + ((f + 5 * (i : Int)) % 6).toNat] } : Str) ++ cutS (Str.ofString "aei") Option.none (some (f / 6 % 4)) = nmz f T' i := by rw [hTT]; rfl
    have new : ∀ r ∈ ms, r.1 ≠ nmz f T' i := by
      intro r hr z
      have hr1 : r.1 ∈ (List.range i).map (nmz f T') := by rw [← hms]; exact List.mem_map.mpr ⟨r, hr, rfl⟩
      obtain ⟨j, hj, e⟩ := List.mem_map.mp hr1
      rw [List.mem_range] at hj
      rw [z] at e
      have := nmz_inj (by omega) (by omega) e
      omega
    have dp : dput (maD ms) (.inr (nmz f T' i)) m.d = maD (ms ++ [(nmz f T' i, m)]) := by
      rw [dput_new (ma_keys new)]
      unfold maD
      rw [List.map_append]
      rfl
    have lm : (maD ms).length < sizeLine := by
      have := congrArg List.length hms
      rw [List.length_map, List.length_map, List.length_range] at this
      unfold maD
      rw [List.length_map]
      omega
    rw [nmE]
    simp_arith [g6, lm, dp]
    have u7 : Upd [wm] S6 (put S6 wm (.dic (maD (ms ++ [(nmz f T' i, m)])))) := Upd.at (by simp)
    refine hC _ _ ⟨i + 1, ms ++ [(nmz f T' i, m)], _, _, by omega, by rw [show (1 + v % many).toNat - (i + 1) = g by omega]; rfl, rfl, put_same, ?_, ?_, d6.l.up u7 ?_ ?_, (u.trans (d6.u.mono (by simp))).trans (u7.mono (by simp))⟩
    · rw [List.map_append, hms, List.range_succ, List.map_append]
      rfl
    · intro x hx
      rcases List.mem_append.mp hx with hx | hx
      · exact hok x hx
      · rw [List.mem_singleton.mp hx]; exact ⟨om, ms0, mc0⟩
    · intro z; exact fm (by rw [List.mem_singleton.mp z]; simp)
    · intro z; exact fm (by rw [List.mem_singleton.mp z]; simp)
  · exact ⟨0, [], _, _, by omega, rfl, rfl, gm3, rfl, (fun x hx => by cases hx), d3.l, d3.u.mono (by simp)⟩

/-! ### partings, in plain words -/
abbrev Row := Nat → Option Int
abbrev Bp := Option (Int × List Nat)
def cand (row : Row) (beh : Nat → Bp) (left l : Nat) : Bp := match row l, beh (left - l) with
  | some x, some (v, ps) => some (x + v, l :: ps)
  | _, _ => none
def pick (b c : Bp) : Bp := match c with
  | none => b
  | some c => (match b with
    | none => some c
    | some d => if d.1 < c.1 then some c else some d)
def bwith (row : Row) (beh : Nat → Bp) (left : Nat) : Bp := (List.range (left + 1)).foldl (fun b l => pick b (cand row beh left l)) none
def bfrom : List Row → Nat → Bp
  | [], 0 => some (0, [])
  | [], _ + 1 => none
  | row :: rows, left => bwith row (bfrom rows) left
/-- what a parting gets -/
def come : List Row → List Nat → Option Int
  | [], [] => some 0
  | row :: rows, l :: ps => (match row l, come rows ps with
    | some x, some v => some (x + v)
    | _, _ => none)
  | _, _ => none
theorem fold_pick (f : Nat → Bp) : ∀ (L : List Nat) (b : Bp), (L.foldl (fun b l => pick b (f l)) b = none → b = none ∧ ∀ l ∈ L, f l = none) ∧ ∀ c, L.foldl (fun b l => pick b (f l)) b = some c → (b = some c ∨ ∃ l ∈ L, f l = some c) ∧ (∀ l ∈ L, ∀ d, f l = some d → d.1 ≤ c.1) ∧ ∀ d, b = some d → d.1 ≤ c.1
  | [], b => ⟨fun h => ⟨h, fun _ hl => by cases hl⟩, fun c h => ⟨.inl h, (fun _ hl => by cases hl), (fun d e => by have h : b = some c := h; rw [h] at e; cases e; exact Int.le_refl _)⟩⟩
  | x :: t, b => by
    have ih := fold_pick f t (pick b (f x))
    rw [List.foldl_cons]
    refine ⟨fun h => ?_, fun c h => ?_⟩
    · obtain ⟨e, r⟩ := ih.1 h
      have : f x = none ∧ b = none := by
        unfold pick at e
        cases hf : f x with
        | none => rw [hf] at e; exact ⟨rfl, e⟩
        | some d =>
          rw [hf] at e
          cases b with
          | none => cases e
          | some d2 =>
            dsimp only at e
            split at e <;> cases e
      refine ⟨this.2, fun l hl => ?_⟩
      rcases List.mem_cons.mp hl with rfl | hl
      · exact this.1
      · exact r l hl
    · obtain ⟨o, m, n⟩ := ih.2 c h
      have pk : (pick b (f x) = some c → b = some c ∨ f x = some c) ∧ (∀ d, f x = some d → d.1 ≤ c.1) ∧ ∀ d, b = some d → d.1 ≤ c.1 := by
        unfold pick at n ⊢
        cases hf : f x with
        | none =>
          rw [hf] at n
          exact ⟨fun e => .inl e, (fun d e => by cases e), n⟩
        | some d =>
          rw [hf] at n
          cases b with
          | none =>
            have := n d rfl
            exact ⟨fun e => .inr e, (fun d' e => by cases e; exact this), (fun d' e => by cases e)⟩
          | some d2 =>
            dsimp only at n ⊢
            by_cases lt : d2.1 < d.1
            · rw [if_pos lt] at n ⊢
              have := n d rfl
              exact ⟨fun e => .inr e, (fun d' e => by cases e; exact this), (fun d' e => by cases e; omega)⟩
            · rw [if_neg lt] at n ⊢
              have := n d2 rfl
              exact ⟨fun e => .inl e, (fun d' e => by cases e; omega), (fun d' e => by cases e; exact this)⟩
      refine ⟨?_, fun l hl d e => ?_, pk.2.2⟩
      · rcases o with o | ⟨l, hl, e⟩
        · rcases pk.1 o with e | e
          · exact .inl e
          · exact .inr ⟨x, by simp, e⟩
        · exact .inr ⟨l, by simp [hl], e⟩
      · rcases List.mem_cons.mp hl with rfl | hl
        · exact pk.2.1 d e
        · exact m l hl d e
structure BSpec (rows : List Row) (n : Nat) (b : Bp) : Prop where
  no : b = none → ∀ ps : List Nat, ps.length = rows.length → ps.sum = n → come rows ps = none
  so : ∀ v ps, b = some (v, ps) → ps.length = rows.length ∧ ps.sum = n ∧ come rows ps = some v
  top : ∀ v ps, b = some (v, ps) → ∀ qs : List Nat, qs.length = rows.length → qs.sum = n → ∀ w, come rows qs = some w → w ≤ v
theorem bfrom_spec : ∀ (rows : List Row) (n : Nat), BSpec rows n (bfrom rows n)
  | [], 0 => by
    refine ⟨nofun, fun v ps e => ?_, fun v ps e qs hq hs w hw => ?_⟩
    · unfold bfrom at e; cases e; exact ⟨rfl, rfl, rfl⟩
    · unfold bfrom at e; cases e
      have : qs = [] := List.length_eq_zero_iff.mp hq
      rw [this] at hw
      unfold come at hw; cases hw; exact Int.le_refl _
  | [], n + 1 => by
    refine ⟨fun _ ps hp hs => ?_, fun v ps e => ?_, fun v ps e => ?_⟩
    · have : ps = [] := List.length_eq_zero_iff.mp hp
      rw [this] at hs; cases hs
    · unfold bfrom at e; cases e
    · unfold bfrom at e; cases e
  | row :: rows, n => by
    have ih := bfrom_spec rows
    have fp := fold_pick (cand row (bfrom rows) n) (List.range (n + 1)) none
    have ee : bfrom (row :: rows) n = (List.range (n + 1)).foldl (fun b l => pick b (cand row (bfrom rows) n l)) none := rfl
    rw [ee]
    have split : ∀ (ps : List Nat), ps.length = (row :: rows).length → ps.sum = n → ∃ l qs, ps = l :: qs ∧ qs.length = rows.length ∧ qs.sum = n - l ∧ l ∈ List.range (n + 1) := by
      intro ps hl hs
      cases ps with
      | nil => cases hl
      | cons l qs =>
        rw [List.sum_cons] at hs
        exact ⟨l, qs, rfl, by simpa using hl, by omega, by rw [List.mem_range]; omega⟩
    refine ⟨fun h ps hl hs => ?_, fun v ps h => ?_, fun v ps h qs hl hs w hw => ?_⟩
    · obtain ⟨l, qs, rfl, q1, q2, q3⟩ := split ps hl hs
      have cn := (fp.1 h).2 l q3
      unfold cand at cn
      unfold come
      cases hr : row l with
      | none => rfl
      | some x =>
        rw [hr] at cn
        cases hb : bfrom rows (n - l) with
        | none =>
          have := (ih (n - l)).no hb qs q1 q2
          rw [this]
        | some p =>
          rw [hb] at cn
          cases cn
    · obtain ⟨o, _, _⟩ := fp.2 _ h
      rcases o with o | ⟨l, hl, e⟩
      · cases o
      · rw [List.mem_range] at hl
        unfold cand at e
        cases hr : row l with
        | none => rw [hr] at e; cases e
        | some x =>
          rw [hr] at e
          cases hb : bfrom rows (n - l) with
          | none => rw [hb] at e; cases e
          | some p =>
            obtain ⟨v', qs⟩ := p
            rw [hb] at e
            cases e
            obtain ⟨a1, a2, a3⟩ := (ih (n - l)).so v' qs hb
            refine ⟨by simp [a1], by rw [List.sum_cons, a2]; omega, ?_⟩
            unfold come
            rw [hr, a3]
    · obtain ⟨_, m, _⟩ := fp.2 _ h
      obtain ⟨l, qs', rfl, q1, q2, q3⟩ := split qs hl hs
      unfold come at hw
      cases hr : row l with
      | none => rw [hr] at hw; cases hw
      | some x =>
        rw [hr] at hw
        cases hc : come rows qs' with
        | none => rw [hc] at hw; cases hw
        | some y =>
          rw [hc] at hw
          cases hw
          cases hb : bfrom rows (n - l) with
          | none =>
            have := (ih (n - l)).no hb qs' q1 q2
            rw [this] at hc; cases hc
          | some p =>
            obtain ⟨v', ps'⟩ := p
            have t := (ih (n - l)).top v' ps' hb qs' q1 q2 y hc
            have cn : cand row (bfrom rows) n l = some (x + v', l :: ps') := by unfold cand; rw [hr, hb]
            have := m l q3 _ cn
            have : x + v' ≤ v := this
            omega
/-- what a maker gives for so many lots -/
def lotsOf (m : Mk) (i z : Int) : Row := fun l => if l = 0 then some 0 else if m.stk i + z * l ≤ 1000000000000 then some (m.comes i (z * l)) else none
theorem comes_mono {m : Mk} {i n k : Int} (o : m.Ok) (sd : Sd i) (h1 : 1 ≤ n) (hk : n ≤ k) (top : m.stk i + k ≤ 1000000000000) : m.comes i n ≤ m.comes i k := by
  have sb := o.sb i
  have a1 : Ask0 m i n := ⟨o, sd, h1, by omega⟩
  have a2 : Ask0 m i k := ⟨o, sd, by omega, by omega⟩
  have as2 : Asks m i k := ⟨a2, top⟩
  by_cases w : 1 ≤ m.comes i n
  · obtain ⟨c1, f, c2, c3⟩ := (comes_iff a1 w).mp (Int.le_refl _)
    exact (comes_iff a2 w).mpr ⟨c1, f, c2, by omega⟩
  · have := as2.comes; omega

/-! ### partings, as the program finds them -/
theorem come_of_ok {p q : Addr} {m : Mk} {i z : Int} {l : Nat} {S : Sto} {Q : NQ} {E} {T : TgQ Q E} (h : MkAt p q m S) (o : m.Ok) (sd : Sd i) (z1 : 1 ≤ z) (z2 : z * l ≤ 10000000000000000) (k : Q (optD (lotsOf m i z l)) S) : runF sp_come_of [.ref p, .str (wr i), .int (z * l)] S Q E T := by
  simp_arith! [sp_come_of, m_come_of]
  unfold lotsOf at k
  by_cases l0 : l = 0
  · rw [if_pos l0] at k
    subst l0
    have e : decide (z * ((0 : Nat) : Int) = 0) = true := decide_eq_true (by omega)
    simp_arith [e]
    exact k
  · rw [if_neg l0] at k
    have l1 : (1 : Int) ≤ l := by omega
    have zl : 1 * 1 ≤ z * l := Int.mul_le_mul z1 l1 (by decide) (by omega)
    have e : decide (z * (l : Int) = 0) = false := decide_eq_false (by omega)
    have nt := mFs_no (m := m) (q := q) (f := "told") (by decide)
    by_cases top : m.stk i + z * l ≤ 1000000000000
    · rw [if_pos top] at k
      have sb := o.sb i
      simp_arith [e, h.ins, nt, mt_told]
      rw [told_ok h ⟨⟨o, sd, by omega, by omega⟩, top⟩]
      simp_arith []
      exact k
    · rw [if_neg top] at k
      have cm : catchOf CL "TooMuch" "TooMuch" = some true := by decide
      simp_arith [e, h.ins, nt, mt_told]
      rw [told_bad h sd (by omega) top, cm]
      simp_arith []
      exact k
def encB : Bp → D
  | none => .non
  | some (v, ps) => .tup [.int v, .tup (ps.map fun l : Nat => .int (l : Int))]
/-- a row, a list of findings, at an address -/
def RowAt (a : Addr) (row : Row) (n : Nat) (S : Sto) : Prop := S a = some (.lst ((List.range (n + 1)).map fun l => optD (row l)))
def BpAt (a : Addr) (f : Nat → Bp) (n : Nat) (S : Sto) : Prop := S a = some (.lst ((List.range (n + 1)).map fun l => encB (f l)))
theorem at_rng {f : Nat → D} {n l : Nat} (h : l ≤ n) : atI ((List.range (n + 1)).map f) (l : Int) = some (f l) := by
  rw [atI_nat' (by omega), List.getElem?_map, Int.toNat_natCast, List.getElem?_range (by omega)]
  rfl
theorem best_with_ok {a c : Addr} {row : Row} {beh : Nat → Bp} {n left : Nat} {S : Sto} {Q : NQ} {E} {T : TgQ Q E} (ha : RowAt a row n S) (hc : BpAt c beh n S) (hl : left ≤ n) (hn : n ≤ 1000) (hp : ∀ l v ps, beh l = some (v, ps) → ps.length ≤ 100) (k : Q (encB (bwith row beh left)) S) : runF sp_best_with [.ref a, .ref c, .int left] S Q E T := by
  have sl : (10000 : Nat) ≤ sizeLine := by decide
  unfold RowAt at ha
  unfold BpAt at hc
  simp_arith! [sp_best_with, m_best_with]
  simp_arith []
  refine ⟨by unfold RngOk; omega, ?_⟩
  have e1 : (left : Int) + 1 = ((left + 1 : Nat) : Int) := by omega
  rw [e1, Int.toNat_natCast]
  refine runL_invL (fun xs e S' => ∃ (l : Nat) (x4 x5 x6 : Option D), l ≤ left + 1 ∧ xs = rangeD l (left + 1 - l) ∧ e = [some (.ref a), some (.ref c), some (.int left), some (encB ((List.range l).foldl (fun b l => pick b (cand row beh left l)) none)), x4, x5, x6] ∧ S' = S)
    (fun xs e S h => trivial) (fun e S' h => ?_) (fun x xs e S' C h hC => ?_) ?_
  · obtain ⟨l, x4, x5, x6, hl, hx, rfl, rfl⟩ := h
    have i12 : l = left + 1 := by
      have := congrArg List.length hx
      rw [rgD_len, List.length_nil] at this
      omega
    subst i12
    simp_arith []
    exact k
  · obtain ⟨l, x4, x5, x6, hl2, hx, rfl, rfl⟩ := h
    have i12 : l < left + 1 := by
      have := congrArg List.length hx
      rw [rgD_len, List.length_cons] at this
      omega
    obtain ⟨g, hg⟩ : ∃ g, left + 1 - l = g + 1 := ⟨left - l, by omega⟩
    rw [hg, rgD_cons] at hx
    obtain ⟨rfl, rfl⟩ := List.cons.inj hx
    have sub : (left : Int) - (l : Int) = ((left - l : Nat) : Int) := by omega
    have r1 := at_rng (f := fun l => encB (beh l)) (n := n) (l := left - l) (by omega)
    have r2 := at_rng (f := fun l => optD (row l)) (n := n) (l := l) (by omega)
    have fin : ∀ b x5 x6, b = pick ((List.range l).foldl (fun b l => pick b (cand row beh left l)) none) (cand row beh left l) → C [some (.ref a), some (.ref c), some (.int left), some (encB b), some (.int (l : Int)), x5, x6] S' := by
      intro b x5 x6 e
      have fe : (List.range (l + 1)).foldl (fun b l => pick b (cand row beh left l)) none = b := by
        rw [List.range_succ, List.foldl_append, List.foldl_cons, List.foldl_nil, e]
      exact hC _ _ ⟨l + 1, some (.int (l : Int)), x5, x6, by omega, by rw [show left + 1 - (l + 1) = g by omega]; rfl, by rw [fe], rfl⟩
    generalize (List.range l).foldl (fun b l => pick b (cand row beh left l)) none = b at *
    simp_arith [hc, sub, r1, ha, r2]
    cases hr : row l with
    | none =>
      have cn : cand row beh left l = none := by unfold cand; rw [hr]
      rw [cn] at fin
      have od : optD Option.none = D.non := rfl
      rw [od]
      simp_arith [Bool.not_true]
      exact fin b _ _ rfl
    | some x =>
      have od : optD (some x) = D.int x := rfl
      rw [od]
      cases hb : beh (left - l) with
      | none =>
        have cn : cand row beh left l = none := by unfold cand; rw [hr, hb]
        rw [cn] at fin
        have od : encB Option.none = D.non := rfl
        rw [od]
        simp_arith [Bool.not_true, Bool.not_false]
        exact fin b _ _ rfl
      | some p =>
        obtain ⟨v, ps⟩ := p
        have cn : cand row beh left l = some (x + v, l :: ps) := by unfold cand; rw [hr, hb]
        rw [cn] at fin
        have lp := hp _ _ _ hb
        have ed : encB (some (v, ps)) = .tup [.int v, .tup (ps.map fun l : Nat => .int (l : Int))] := rfl
        have a0 : ∀ x y : D, atI [x, y] 0 = some x := fun _ _ => rfl
        have a1 : ∀ x y : D, atI [x, y] 1 = some y := fun _ _ => rfl
        have ec : encB (some (x + v, l :: ps)) = .tup [.int (x + v), .tup (.int (l : Int) :: ps.map fun l : Nat => .int (l : Int))] := rfl
        rw [ed]
        cases b with
        | none =>
          have od : encB Option.none = D.non := rfl
          rw [od]
          simp_arith [Bool.not_false, a0, a1, List.cons_append, List.nil_append]
          refine ⟨by rw [List.length_map]; omega, ?_⟩
          have f := fin (some (x + v, l :: ps)) (some (.tup [.int v, .tup (ps.map fun l : Nat => .int (l : Int))])) (some (.int (x + v))) rfl
          rw [ec] at f
          exact f
        | some d =>
          obtain ⟨dv, dp⟩ := d
          have ed2 : encB (some (dv, dp)) = .tup [.int dv, .tup (dp.map fun l : Nat => .int (l : Int))] := rfl
          rw [ed2]
          by_cases lt : dv < x + v
          · simp_arith [Bool.not_false, a0, a1, List.cons_append, List.nil_append, lt, decide_true]
            refine ⟨by rw [List.length_map]; omega, ?_⟩
            have f := fin (some (x + v, l :: ps)) (some (.tup [.int v, .tup (ps.map fun l : Nat => .int (l : Int))])) (some (.int (x + v))) (by unfold pick; dsimp only; rw [if_pos lt])
            rw [ec] at f
            exact f
          · simp_arith [Bool.not_false, a0, a1, lt, decide_false]
            have f := fin (some (dv, dp)) (some (.tup [.int v, .tup (ps.map fun l : Nat => .int (l : Int))])) (some (.int (x + v))) (by unfold pick; dsimp only; rw [if_neg lt])
            rw [ed2] at f
            exact f
  · exact ⟨0, _, _, _, by omega, rfl, rfl, rfl⟩

inductive RowsAt (n : Nat) (S : Sto) : List Addr → List Row → Prop
  | nil : RowsAt n S [] []
  | cons {a : Addr} {r : Row} {as : List Addr} {rs : List Row} : RowAt a r n S → RowsAt n S as rs → RowsAt n S (a :: as) (r :: rs)
theorem RowsAt.up {n : Nat} {S S' : Sto} {A : List Addr} (u : Upd A S S') : ∀ {as : List Addr} {rs : List Row}, RowsAt n S as rs → (∀ a ∈ as, a ∉ A) → RowsAt n S' as rs
  | _, _, .nil, _ => .nil
  | _, _, .cons h t, na => .cons (u _ _ (na _ (by simp)) h) (RowsAt.up u t fun a ha => na a (by simp [ha]))
theorem RowsAt.app {n : Nat} {S : Sto} {a : Addr} {r : Row} (h : RowAt a r n S) : ∀ {as : List Addr} {rs : List Row}, RowsAt n S as rs → RowsAt n S (as ++ [a]) (rs ++ [r])
  | _, _, .nil => .cons h .nil
  | _, _, .cons h1 t => .cons h1 (RowsAt.app h t)
theorem RowsAt.len {n : Nat} {S : Sto} : ∀ {as : List Addr} {rs : List Row}, RowsAt n S as rs → as.length = rs.length
  | _, _, .nil => rfl
  | _, _, .cons _ t => by simp [RowsAt.len t]
theorem RowsAt.split {n : Nat} {S : Sto} : ∀ {p q : List Addr} {rs : List Row}, RowsAt n S (p ++ q) rs → ∃ r1 r2, rs = r1 ++ r2 ∧ RowsAt n S p r1 ∧ RowsAt n S q r2
  | [], _, rs, h => ⟨[], rs, rfl, .nil, h⟩
  | a :: p, q, _, .cons h t => by
    obtain ⟨r1, r2, e, a1, a2⟩ := RowsAt.split t
    exact ⟨_ :: r1, r2, by rw [e]; rfl, .cons h a1, a2⟩
theorem rows_of_ok {g ps pk : Addr} {rs : List Mkr} {hs : List Hnd} {i z : Int} {n : Nat} {S : Sto} {Q : NQ} {E} {T : TgQ Q E} (G : MarketAt g ps pk rs hs S) (nd : (rs.map (·.nm)).Nodup) (ml : rs.length ≤ 6) (ok : ∀ x ∈ rs, x.m.Ok) (sd : Sd i) (z1 : 1 ≤ z) (z2 : z ≤ 1000000000001) (hn : n ≤ 30)
    (k : ∀ f as S', S' f = some (.lst (as.map D.ref)) → RowsAt n S' as (rs.map fun x => lotsOf x.m i z) → Keeps S S' → Q (.ref f) S') : runF sp_rows_of [.ref g, .str (wr i), .int z, .int n] S Q E T := by
  have sl : (10000 : Nat) ≤ sizeLine := by decide
  simp_arith! [sp_rows_of, m_rows_of]
  simp_arith []
  simp_all_arith [S, f, hf, S2, gf, K2]
  have ff : f ∉ fpM g ps pk rs := fun z => G.some z hf
  simp_all_arith! [K2, G]
  have gi := G.ins
  simp_arith [gi, mfl_no (f := "names") (by decide), mtm_names]
  refine names_ok G fun p S3 hp gp K3 => ?_
  have pf : p ≠ f := fun z => by rw [z, gf] at hp; cases hp
  simp_all_arith! [K3, G, gf]
  have K13 : Keeps S S3 := Upd.trans K2 K3
  simp_arith [gp]
  refine runL_invL (fun xs e S' => ∃ (dn rst : List Mkr) (as : List Addr) (x5 x6 x7 : Option D), rs = dn ++ rst ∧ xs = rst.map (fun x => .str x.nm) ∧ e = [some (.ref g), some (.str (wr i)), some (.int z), some (.int n), some (.ref f), x5, x6, x7] ∧ S' f = some (.lst (as.map D.ref)) ∧ f ∉ as ∧ RowsAt n S' as (dn.map fun x => lotsOf x.m i z) ∧ S' p = some (.lst (rs.map fun x => .str x.nm)) ∧ MarketAt g ps pk rs hs S' ∧ Upd [f] S3 S')
    (fun xs e S h => ?_) (fun e S' h => ?_) (fun x xs e S' C h hC => ?_) ?_
  · obtain ⟨dn, rst, as, x5, x6, x7, _, _, _, _, _, _, gp, _⟩ := h
    exact gp
  · obtain ⟨dn, rst, as, x5, x6, x7, hm, hx, rfl, gf, nf, R, gp, G, u⟩ := h
    have rn : rst = [] := List.map_eq_nil_iff.mp hx.symm
    rw [rn, List.append_nil] at hm
    subst hm
    simp_arith []
    refine k f as S' gf R ?_
    refine upd_drop0 (B := [f]) ((Keeps.up K13).trans u) fun x hx => ?_
    rw [List.mem_singleton.mp hx]
    exact hf
  · obtain ⟨dn, rst, as, x5, x6, x7, hm, hx, rfl, gf, nf, R, gp, G, u⟩ := h
    obtain ⟨y, ys, rfl⟩ : ∃ y ys, rst = y :: ys := by
      cases rst with
      | nil => cases hx
      | cons y ys => exact ⟨y, ys, rfl⟩
    rw [List.map_cons] at hx
    obtain ⟨rfl, rfl⟩ := List.cons.inj hx
    have hy : y ∈ rs := by rw [hm]; simp
    have gi := G.ins
    have e1 : (n : Int) + 1 = ((n + 1 : Nat) : Int) := by omega
    simp_arith [gi, mfl_no (f := "maker") (by decide), mtm_maker]
    refine maker_at G nd hy ?_
    simp_arith []
    refine ⟨⟨_, _, rfl, gf⟩, by unfold RngOk; omega, fun q hq => ?_⟩
    have qf : q ≠ f := fun z => by rw [z, gf] at hq; cases hq
    have qp : q ≠ p := fun z => by rw [z, gp] at hq; cases hq
    rw [e1, Int.toNat_natCast]
    refine runC_keepM (fun l : Nat => .int (0 + (l : Int))) (fun l => optD (lotsOf y.m i z l)) rfl hq (fun _ _ => trivial) (by rw [List.length_range]; omega) (fun l hl S5 Y NN K hY => ?_) fun S5 K5 g5 => ?_
    · rw [List.mem_range] at hl
      have M := (G.keep K).mks y hy
      have mo : N.MulOk z (l : Int) := mul_ok_r (by omega) (by omega)
      have zl : z * (l : Int) ≤ 1000000000001 * 31 := Int.mul_le_mul z2 (by omega) (by omega) (by decide)
      simp_arith [Int.zero_add, mo]
      refine come_of_ok M (ok y hy) sd z1 (by omega) ?_
      exact hY _ Upd.refl
    · simp_all_arith! [K5, gf, gp, G]
      have R5 := R.up (Keeps.up (A := [])  K5) (fun a _ => by simp)
      have ll : (as.map D.ref).length < sizeLine := by
        have l1 := R.len
        rw [List.length_map] at l1
        have l2 : dn.length ≤ rs.length := by rw [hm, List.length_append]; omega
        rw [List.length_map]; omega
      simp_arith [gf, ll]
      have u6 : Upd [f] S5 (put S5 f (.lst (as.map D.ref ++ [.ref q]))) := Upd.at (by simp)
      refine hC _ _ ⟨dn ++ [y], ys, as ++ [q], _, _, _, by rw [hm, List.append_assoc]; rfl, rfl, rfl, by rw [put_same, List.map_append]; rfl, ?_, ?_, u6 _ _ (by simpa using pf) gp, G.upF u6 (fun x hx => by rw [List.mem_singleton.mp hx]; exact ff), (u.trans (Keeps.up K5)).trans u6⟩
      · intro z
        rcases List.mem_append.mp z with z | z
        · exact nf z
        · exact qf (List.mem_singleton.mp z).symm
      · rw [List.map_append]
        exact RowsAt.app (u6 _ _ (by simpa using qf) g5) (R5.up u6 fun a ha z => nf (by rw [← List.mem_singleton.mp z]; exact ha))
  · exact ⟨[], rs, [], _, _, _, rfl, rfl, rfl, gf, by simp, .nil, gp, G, Upd.refl⟩

theorem first_bp (n : Nat) : D.tup [.int 0, .tup []] :: (List.replicate n [D.non]).flatten = (List.range (n + 1)).map fun l => encB (bfrom [] l) := by
  rw [List.range_succ_eq_map, List.map_cons, List.map_map]
  congr 1
  induction n with
  | zero => rfl
  | succ n ih =>
    rw [List.replicate_succ, List.flatten_cons, ih, List.range_succ_eq_map, List.map_cons, List.map_map]
    rfl
theorem best_from_ok {f : Addr} {as : List Addr} {rows : List Row} {n : Nat} {S : Sto} {Q : NQ} {E} {T : TgQ Q E} (gf : S f = some (.lst (as.map D.ref))) (R : RowsAt n S as rows) (hn : n ≤ 30) (ml : rows.length ≤ 6) (k : ∀ c S', BpAt c (bfrom rows) n S' → Keeps S S' → Q (.ref c) S') : runF sp_best_from [.ref f, .int n] S Q E T := by
  have sl : (10000 : Nat) ≤ sizeLine := by decide
  simp_arith! [sp_best_from, m_best_from]
  simp_arith []
  simp_all_arith [S, p1, hp1, S1, g1, K1]
  simp_all_arith! [K1, gf]
  have R := R.up (Keeps.up (A := []) K1) (fun a _ => by simp)
  simp_all_arith [S1, p2, hp2, S2, g2, K2]
  simp_all_arith! [K2, gf, g1]
  have R := R.up (Keeps.up (A := []) K2) (fun a _ => by simp)
  simp_arith [g2]
  refine ⟨⟨by omega, by omega, by omega⟩, ?_⟩
  rw [Int.toNat_natCast]
  simp_all_arith [S2, p3, hp3, S3, g3, K3]
  simp_all_arith! [K3, gf, g1]
  have R := R.up (Keeps.up (A := []) K3) (fun a _ => by simp)
  have fl : (List.replicate n [D.non]).flatten.length = n := by
    have := congrArg List.length (first_bp n)
    rw [List.length_cons, List.length_map, List.length_range] at this
    omega
  simp_arith [g1, g3, fl, List.cons_append, List.nil_append]
  refine ⟨by omega, ?_⟩
  rw [first_bp]
  simp_all_arith [S3, c0, hc0, S4, gc, K4]
  simp_all_arith! [K4, gf]
  have R := R.up (Keeps.up (A := []) K4) (fun a _ => by simp)
  have K04 : Keeps S S4 := Upd.trans (Upd.trans (Upd.trans K1 K2) K3) K4
  simp_arith [gf]
  simp_all_arith [S4, p, hp, S5, gp, K5]
  have pc : p ≠ c0 := fun z => by rw [z, gc] at hp; cases hp
  simp_all_arith! [K5, gc]
  simp_arith [gp]
  refine runL_invL (fun xs e S' => ∃ (pa sfa : List Addr) (pr sr : List Row) (c : Addr) (x3 x4 : Option D), as = pa ++ sfa ∧ rows = pr ++ sr ∧ RowsAt n S4 pa pr ∧ xs = (pa.map D.ref).reverse ∧ e = [some (.ref f), some (.int n), some (.ref c), x3, x4] ∧ BpAt c (bfrom sr) n S' ∧ Keeps S5 S')
    (fun xs e S h => ?_) (fun e S' h => ?_) (fun x xs e S' C h hC => ?_) ?_
  · obtain ⟨pa, sfa, pr, sr, c, x3, x4, _, _, _, _, _, _, K⟩ := h
    exact K _ _ (by simp) gp
  · obtain ⟨pa, sfa, pr, sr, c, x3, x4, ea, er, R, hx, rfl, B, K⟩ := h
    have pn : pa = [] := by
      have h2 := congrArg List.length hx
      rw [List.length_nil, List.length_reverse, List.length_map] at h2
      exact List.length_eq_zero_iff.mp h2.symm
    subst pn
    have : pr = [] := by
      have := R.len
      exact List.length_eq_zero_iff.mp this.symm
    rw [this, List.nil_append] at er
    subst er
    simp_arith []
    exact k c S' B (Upd.trans (Upd.trans K04 K5) K)
  · obtain ⟨pa, sfa, pr, sr, c, x3, x4, ea, er, R, hx, rfl, B, K⟩ := h
    rcases List.eq_nil_or_concat pa with rfl | ⟨pa', a, rfl⟩
    · simp at hx
    rw [List.concat_eq_append] at *
    rw [List.map_append, List.reverse_append] at hx
    obtain ⟨rfl, rfl⟩ := List.cons.inj hx
    obtain ⟨r1, r2, rfl, R1, R2⟩ := R.split
    cases R2 with
    | cons Ra Rn =>
      rename_i row rs2
      cases Rn
      have lr : ((r1 ++ [row]) ++ sr).length ≤ 6 := by rw [← er]; exact ml
      rw [List.length_append, List.length_append] at lr
      simp only [List.length_cons, List.length_nil] at lr
      have Ra' : RowAt a row n S' := K _ _ (by simp) (K5 _ _ (by simp) Ra)
      have e1 : (n : Int) + 1 = ((n + 1 : Nat) : Int) := by omega
      simp_arith []
      refine ⟨by unfold RngOk; omega, fun q hq => ?_⟩
      rw [e1, Int.toNat_natCast]
      refine runC_keepM (fun l : Nat => .int (0 + (l : Int))) (fun l => encB (bfrom (row :: sr) l)) rfl hq (fun _ _ => trivial) (by rw [List.length_range]; omega) (fun l hl S6 Y NN K6 hY => ?_) fun S6 K6 g6 => ?_
      · rw [List.mem_range] at hl
        simp_arith [Int.zero_add]
        refine best_with_ok (row := row) (beh := bfrom sr) (n := n) (K6 _ _ (by simp) Ra') (K6 _ _ (by simp) B) (by omega) (by omega) (fun l v ps e => ?_) ?_
        · have := ((bfrom_spec sr l).so v ps e).1
          omega
        · exact hY _ Upd.refl
      · try simp_arith []
        exact hC _ _ ⟨pa', a :: sfa, r1, row :: sr, q, _, _, by rw [ea, List.append_assoc]; rfl, by rw [er, List.append_assoc]; rfl, R1, rfl, rfl, g6, Upd.trans K K6⟩
  · exact ⟨as, [], rows, [], c0, _, _, by simp, by simp, R, rfl, rfl, gc, Upd.refl⟩
theorem is_number_nat {l : Nat} {S : Sto} {Q : NQ} {E} {T : TgQ Q E} : runF sp_is_number [.int (l : Int)] S Q E T = Q (.bl true) S := by
  have e : decide ((0 : Int) ≤ (l : Int)) = true := decide_eq_true (by omega)
  simp_arith! [sp_is_number, m_is_number]
  simp_arith [isi_int_int, isi_int_bool, Bool.not_false, e]
/-- the rows of a market's makers -/
def rowsM (rs : List Mkr) (i z : Int) : List Row := rs.map fun x => lotsOf x.m i z
theorem pbest_ok {g ps pk : Addr} {rs : List Mkr} {hs : List Hnd} {i z : Int} {n : Nat} {S : Sto} {Q : NQ} {E} {T : TgQ Q E} (G : MarketAt g ps pk rs hs S) (nd : (rs.map (·.nm)).Nodup) (ml : rs.length ≤ 6) (ok : ∀ x ∈ rs, x.m.Ok) (sd : Sd i) (z1 : 1 ≤ z) (z2 : z ≤ 1000000000001) (n1 : 1 ≤ n) (hn : n ≤ 30)
    (k1 : bfrom (rowsM rs i z) n = none → ∀ S', Keeps S S' → E "NoParting" Option.none S') (k2 : ∀ v ps, bfrom (rowsM rs i z) n = some (v, ps) → ∀ S', Keeps S S' → Q (.tup (ps.map fun l : Nat => .int (l : Int))) S') : runF sp_best [.ref g, .str (wr i), .int z, .int n] S Q E T := by
  have e1 : decide ((1 : Int) ≤ (n : Int)) = true := decide_eq_true (by omega)
  have e2 : decide ((n : Int) ≤ 30) = true := decide_eq_true (by omega)
  simp_arith! [sp_best, m_best]
  try simp_arith []
  rw [need_ware_ok sd]
  simp_arith []
  rw [need_count_ok z1]
  simp_arith []
  rw [is_number_nat]
  simp_arith [e1, e2, Bool.not_true]
  refine rows_of_ok G nd ml ok sd z1 z2 hn fun f as S2 gf R K2 => ?_
  simp_arith []
  refine best_from_ok gf R hn (by rw [List.length_map]; exact ml) fun c S3 B K3 => ?_
  have K : Keeps S S3 := Upd.trans K2 K3
  unfold BpAt at B
  have at1 := at_rng (f := fun l => encB (bfrom (rs.map fun x => lotsOf x.m i z) l)) (n := n) (l := n) (by omega)
  simp_arith [B, at1]
  cases e : bfrom (rs.map fun x => lotsOf x.m i z) n with
  | none =>
    have od : encB Option.none = D.non := rfl
    rw [od]
    simp_arith []
    exact k1 e _ K
  | some p =>
    obtain ⟨v, ps⟩ := p
    have ed : encB (some (v, ps)) = .tup [.int v, .tup (ps.map fun l : Nat => .int (l : Int))] := rfl
    have a1 : ∀ x y : D, atI [x, y] 1 = some y := fun _ _ => rfl
    rw [ed]
    simp_arith [a1]
    exact k2 v ps e _ K

theorem zipD_zip {α β : Type} (f : α → D) (g : β → D) : ∀ (l : List α) (m : List β), zipD (l.map f) (m.map g) = (l.zip m).map fun p => .tup [f p.1, g p.2]
  | [], _ => by simp [zipD]
  | _ :: _, [] => by simp [zipD]
  | x :: l, y :: m => by simp only [List.map_cons, zipD, List.zip_cons_cons, zipD_zip f g l m]
def glOf (rs : List Mkr) (i z : Int) (ps : List Nat) : List (Option Int) := (rs.zip ps).map fun x => lotsOf x.1.m i z x.2
theorem come_some {i z : Int} : ∀ {rs : List Mkr} {ps : List Nat} {v : Int}, come (rowsM rs i z) ps = some v → ∃ ws : List Int, glOf rs i z ps = ws.map some ∧ ws.sum = v
  | [], [], v, h => ⟨[], rfl, by unfold rowsM come at h; simpa using h⟩
  | [], _ :: _, v, h => by unfold rowsM come at h; cases h
  | x :: rs, [], v, h => by unfold rowsM at h; rw [List.map_cons] at h; unfold come at h; cases h
  | x :: rs, l :: ps, v, h => by
    unfold rowsM at h
    rw [List.map_cons] at h
    unfold come at h
    cases hr : lotsOf x.m i z l with
    | none => rw [hr] at h; cases h
    | some a =>
      rw [hr] at h
      cases hc : come (rs.map fun x => lotsOf x.m i z) ps with
      | none => rw [hc] at h; cases h
      | some b =>
        rw [hc] at h
        cases h
        obtain ⟨ws, e, s⟩ := come_some (rs := rs) (ps := ps) hc
        refine ⟨a :: ws, ?_, by rw [List.sum_cons, s]⟩
        unfold glOf at e ⊢
        rw [List.zip_cons_cons, List.map_cons, e, List.map_cons, hr]
theorem come_none {i z : Int} : ∀ {rs : List Mkr} {ps : List Nat}, ps.length = rs.length → come (rowsM rs i z) ps = none → none ∈ glOf rs i z ps
  | [], [], _, h => by unfold rowsM come at h; cases h
  | [], _ :: _, hl, _ => by cases hl
  | x :: rs, [], hl, _ => by cases hl
  | x :: rs, l :: ps, hl, h => by
    unfold rowsM at h
    rw [List.map_cons] at h
    unfold come at h
    unfold glOf
    rw [List.zip_cons_cons, List.map_cons]
    cases hr : lotsOf x.m i z l with
    | none => simp
    | some a =>
      rw [hr] at h
      cases hc : come (rs.map fun x => lotsOf x.m i z) ps with
      | none =>
        have := come_none (rs := rs) (ps := ps) (by simpa using hl) hc
        exact List.mem_cons_of_mem _ this
      | some b => rw [hc] at h; cases h
theorem opt_flat (l : List (Option Int)) : (l.map optD).all flatD = true := by
  rw [List.all_eq_true]
  intro d hd
  obtain ⟨x, _, rfl⟩ := List.mem_map.mp hd
  cases x <;> rfl
theorem opt_any (l : List (Option Int)) : (l.map optD).any (fun d => eqF d .non) = decide (none ∈ l) := by
  induction l with
  | nil => rfl
  | cons x t ih =>
    rw [List.map_cons, List.any_cons, ih]
    cases x with
    | none => simp [optD, eqF]
    | some a =>
      have : eqF (optD (some a)) .non = false := rfl
      rw [this, Bool.false_or]
      simp
theorem blsT : ∀ n : Nat, blsOf (List.replicate n (D.bl true)) = some (List.replicate n true)
  | 0 => rfl
  | n + 1 => by
    show (blsOf (List.replicate n (D.bl true))).map (true :: ·) = _
    rw [blsT n]; rfl
theorem gets_ok {g ps pk : Addr} {rs : List Mkr} {hs : List Hnd} {i z : Int} {ls : List Nat} {S : Sto} {Q : NQ} {E} {T : TgQ Q E} (G : MarketAt g ps pk rs hs S) (nd : (rs.map (·.nm)).Nodup) (ml : rs.length ≤ 6) (ok : ∀ x ∈ rs, x.m.Ok) (sd : Sd i) (z1 : 1 ≤ z) (z2 : z ≤ 1000000000001) (hl : ls.length = rs.length) (hb : ∀ l ∈ ls, l ≤ 2000)
    (k1 : come (rowsM rs i z) ls = none → ∀ S', Keeps S S' → E "NoParting" Option.none S') (k2 : ∀ v, come (rowsM rs i z) ls = some v → ∀ S', Keeps S S' → Q (.int v) S') : runF sp_gets [.ref g, .str (wr i), .int z, .tup (ls.map fun l : Nat => .int (l : Int))] S Q E T := by
  have sl : (10000 : Nat) ≤ sizeLine := by decide
  simp_arith! [sp_gets, m_gets]
  try simp_arith []
  rw [need_ware_ok sd]
  simp_arith []
  rw [need_count_ok z1]
  have gi := G.ins
  simp_arith [gi, mfl_no (f := "names") (by decide), mtm_names]
  refine names_ok G fun p S2 hp gp K2 => ?_
  simp_all_arith! [K2, G]
  have le : decide ((ls.length : Int) = (rs.length : Int)) = true := decide_eq_true (by omega)
  simp_arith [isi_tup_tuple, Bool.not_true]
  simp_arith [gp]
  have le' : decide (((ls.map fun l : Nat => D.int (l : Int)).length : Int) = ((rs.map fun r => D.str r.nm).length : Int)) = true := by
    rw [List.length_map, List.length_map]; exact le
  rw [le']
  simp_arith [Bool.not_true]
  trace_state
  intro q hq
  have pq : p ≠ q := fun z => by rw [z, hq] at gp; cases gp
  refine runC_keepM (fun l : Nat => .int (l : Int)) (fun _ => .bl true) rfl hq (fun _ _ => trivial) (by omega) (fun l hl S5 Y NN K hY => ?_) fun S5 K5 g5 => ?_
  · simp_arith []
    rw [is_number_nat]
    exact hY _ Upd.refl
  · simp_all_arith! [K5, G, gp]
    have er : (ls.map fun _ => D.bl true) = List.replicate ls.length (D.bl true) := by
      rw [List.map_const']
    rw [er] at g5
    have al : (List.replicate ls.length true).all id = true := by simp
    simp_arith [g5, blsT, al, Bool.not_true, gp]
    intro q2 hq2
    have pq2 : p ≠ q2 := fun z => by rw [z, hq2] at gp; cases gp
    rw [zipD_zip]
    have gp' : put S5 q2 (.lst []) p = some (.lst (rs.map fun r => .str r.nm)) := by rw [put_ne pq2]; exact gp
    refine ⟨⟨gp', trivial⟩, ?_⟩
    refine runC_keepM (fun x : Mkr × Nat => .tup [.str x.1.nm, .int (x.2 : Int)]) (fun x => optD (lotsOf x.1.m i z x.2)) rfl hq2 (fun S K => ⟨K _ _ (by simp) gp, trivial⟩) (by rw [List.length_zip]; omega) (fun x hx S6 Y NN K6 hY => ?_) fun S6 K6 g6 => ?_
    · have hx1 : x.1 ∈ rs := (List.of_mem_zip (a := x.1) (b := x.2) hx).1
      have hx2 : x.2 ∈ ls := (List.of_mem_zip (a := x.1) (b := x.2) hx).2
      have G6 := G.keep K6
      have gi6 := G6.ins
      have M := G6.mks x.1 hx1
      have mo : N.MulOk z (x.2 : Int) := mul_ok_r (by omega) (by have := hb _ hx2; omega)
      have zl : z * (x.2 : Int) ≤ 1000000000001 * 2000 := Int.mul_le_mul z2 (by have := hb _ hx2; omega) (by omega) (by decide)
      simp_arith [gi6, mfl_no (f := "maker") (by decide), mtm_maker]
      refine maker_at G6 nd hx1 ?_
      simp_arith [mo]
      refine come_of_ok M (ok _ hx1) sd z1 (by omega) ?_
      exact hY _ Upd.refl
    · have K : Keeps S S6 := Upd.trans (Upd.trans K2 K5) K6
      have e6 : (rs.zip ls).map (fun x => optD (lotsOf x.1.m i z x.2)) = (glOf rs i z ls).map optD := by unfold glOf; rw [List.map_map]; rfl
      rw [e6] at g6
      have fl := opt_flat (glOf rs i z ls)
      have an := opt_any (glOf rs i z ls)
      have fn : flatD .non = true := rfl
      cases e : come (rowsM rs i z) ls with
      | none =>
        have inn := come_none hl e
        rw [decide_eq_true inn] at an
        simp_arith [g6, fl, fn, an]
        exact k1 e _ K
      | some v =>
        obtain ⟨ws, e1, e2⟩ := come_some e
        have nin : none ∉ glOf rs i z ls := by rw [e1]; simp
        rw [decide_eq_false nin] at an
        have ew : (glOf rs i z ls).map optD = ws.map D.int := by rw [e1, List.map_map]; rfl
        have iw : intsOf (ws.map D.int) = some ws := intsM ws
        rw [ew] at g6 fl an
        simp_arith [g6, fl, fn, an, iw, e2]
        exact k2 v e _ K

/-! ### partings: what the law reckons -/
abbrev dl (ls : List Nat) : List D := ls.map fun l : Nat => .int (l : Int)
theorem come_cons {row : Row} {rows : List Row} {l : Nat} {ps : List Nat} : come (row :: rows) (l :: ps) = (row l).bind fun x => (come rows ps).map (x + ·) := by
  rw [come]
  cases row l with
  | none => rfl
  | some x => cases come rows ps <;> rfl
theorem lcome_ok {p : Addr} {ms : List Mk} {i z : Int} {ls : List Nat} {S : Sto} {Q : NQ} {E} {T : TgQ Q E} (g : S p = some (.lst (ms.map Mk.d))) (ok : ∀ m ∈ ms, m.Ok) (sd : Sd i) (z1 : 1 ≤ z) (z2 : z ≤ 1000000000001) (hl : ls.length = ms.length) (hb : ∀ l ∈ ls, l ≤ 30) (k : Q (optD (come (ms.map fun m => lotsOf m i z) ls)) S) : runF sp__law_come [.ref p, .int i, .int z, .tup (dl ls)] S Q E T := by
  simp_arith! [sp__law_come, m__law_come]
  simp_arith [g]
  rw [zipD_zip]
  refine runL_invL (fun xs e S' => ∃ (ms' : List Mk) (ls' : List Nat) (v : Int) (x5 x6 x7 : Option D), S' = S ∧ ms'.length = ls'.length ∧ (∀ m ∈ ms', m.Ok) ∧ (∀ l ∈ ls', l ≤ 30) ∧ come (ms.map fun m => lotsOf m i z) ls = (come (ms'.map fun m => lotsOf m i z) ls').map (v + ·) ∧ xs = (ms'.zip ls').map (fun x => .tup [x.1.d, .int (x.2 : Int)]) ∧ e = [some (.ref p), some (.int i), some (.int z), some (.tup (dl ls)), some (.int v), x5, x6, x7])
    (fun xs e S' h => ?_) (fun e S' h => ?_) (fun x xs e S' C h hC => ?_) ?_
  · obtain ⟨_, _, _, _, _, _, rfl, _⟩ := h
    exact ⟨g, trivial⟩
  · obtain ⟨ms', ls', v, x5, x6, x7, rfl, hl, o, b, ec, hx, rfl⟩ := h
    have : ms' = [] ∧ ls' = [] := by
      cases ms' with
      | nil => cases ls' with
        | nil => exact ⟨rfl, rfl⟩
        | cons _ _ => cases hl
      | cons m t => cases ls' with
        | nil => cases hl
        | cons _ _ => cases hx
    obtain ⟨rfl, rfl⟩ := this
    have ec : come (ms.map fun m => lotsOf m i z) ls = some (v + 0) := ec
    rw [ec, Int.add_zero] at k
    simp_arith []
    exact k
  · obtain ⟨ms', ls', v, x5, x6, x7, rfl, hl, o, b, ec, hx, rfl⟩ := h
    obtain ⟨m, mt, l, lt, rfl, rfl⟩ : ∃ m mt l lt, ms' = m :: mt ∧ ls' = l :: lt := by
      cases ms' with
      | nil => cases hx
      | cons m mt => cases ls' with
        | nil => cases hx
        | cons l lt => exact ⟨_, _, _, _, rfl, rfl⟩
    rw [List.zip_cons_cons, List.map_cons] at hx
    obtain ⟨rfl, rfl⟩ := List.cons.inj hx
    have bl := b l (by simp)
    have om := o m (by simp)
    have mo : N.MulOk z (l : Int) := mul_ok_r (by omega) (by omega)
    rw [List.map_cons, come_cons] at ec
    have rest : mt.length = lt.length ∧ (∀ m ∈ mt, m.Ok) ∧ ∀ l ∈ lt, l ≤ 30 := ⟨by simpa using hl, fun y hy => o y (by simp [hy]), fun y hy => b y (by simp [hy])⟩
    by_cases l0 : l = 0
    · subst l0
      have e0 : lotsOf m i z 0 = some 0 := by unfold lotsOf; rw [if_pos rfl]
      rw [e0] at ec
      have d0 : decide (((0 : Nat) : Int) > 0) = false := rfl
      simp_arith [d0]
      refine hC _ _ ⟨mt, lt, v, _, _, _, rfl, rest.1, rest.2.1, rest.2.2, ?_, rfl, rfl⟩
      rw [ec]
      cases come (mt.map fun m => lotsOf m i z) lt with
      | none => rfl
      | some w => show some (v + (0 + w)) = some (v + w); rw [Int.zero_add]
    · have l1 : 1 ≤ l := by omega
      have d1 : decide ((l : Int) > 0) = true := decide_eq_true (by omega)
      have p1 : 1 * 1 ≤ z * (l : Int) := Int.mul_le_mul z1 (by omega) (by decide) (by omega)
      have p2 : z * (l : Int) ≤ 1000000000001 * 30 := Int.mul_le_mul z2 (by omega) (by omega) (by decide)
      have A : Ask0 m i (z * l) := ⟨om, sd, by omega, by omega⟩
      simp_arith [d1, mo, law_comes_ok A]
      by_cases top : 1000000000000 < m.stk i + z * l
      · have e0 : lotsOf m i z l = none := by unfold lotsOf; rw [if_neg l0, if_neg (by omega)]
        rw [e0] at ec
        have ec : come (ms.map fun m => lotsOf m i z) ls = none := ec
        rw [ec] at k
        simp_arith [if_pos top, decide_true]
        exact k
      · have e0 : lotsOf m i z l = some (m.comes i (z * l)) := by unfold lotsOf; rw [if_neg l0, if_pos (by omega)]
        rw [e0] at ec
        simp_arith [if_neg top, decide_false]
        refine hC _ _ ⟨mt, lt, v + m.comes i (z * l), _, _, _, rfl, rest.1, rest.2.1, rest.2.2, ?_, rfl, rfl⟩
        rw [ec]
        cases come (mt.map fun m => lotsOf m i z) lt with
        | none => rfl
        | some w => show some (v + (m.comes i (z * l) + w)) = some (v + m.comes i (z * l) + w); rw [Int.add_assoc]
  · exact ⟨ms, ls, 0, _, _, _, rfl, hl.symm, ok, hb, by cases come (ms.map fun m => lotsOf m i z) ls <;> simp, rfl, rfl⟩
/-! ### lists of lots -/
theorem at_dl {ls : List Nat} {k : Nat} (h : k < ls.length) : atI (dl ls) (k : Int) = some (.int ((ls[k] : Nat) : Int)) := by
  rw [atI_nat' (by omega), Int.toNat_natCast, List.getElem?_map, List.getElem?_eq_getElem h]
  rfl
theorem set_dl {ls : List Nat} {k v : Nat} : (dl ls).set k (.int (v : Int)) = dl (ls.set k v) := by
  unfold dl; rw [List.map_set]
theorem rep_dl (n : Nat) : (List.replicate n [D.int 0]).flatten = dl (List.replicate n 0) := by
  unfold dl
  rw [List.map_replicate]
  induction n with
  | zero => rfl
  | succ n ih => rw [List.replicate_succ, List.flatten_cons, ih, List.replicate_succ]; rfl
theorem sum_setN : ∀ {ls : List Nat} {k v : Nat} (h : k < ls.length), (ls.set k v).sum + ls[k] = ls.sum + v
  | [], _, _, h => absurd h (by simp)
  | x :: t, 0, v, _ => by simp; omega
  | x :: t, k + 1, v, h => by
    have := sum_setN (ls := t) (k := k) (v := v) (by simpa using h)
    simp only [List.set_cons_succ, List.sum_cons, List.getElem_cons_succ]
    omega
theorem mem_rg {lo : Int} {n : Nat} {x : D} (h : x ∈ rangeD lo n) : ∃ k : Nat, k < n ∧ x = .int (lo + k) := by
  unfold rangeD at h
  obtain ⟨k, hk, rfl⟩ := List.mem_map.mp h
  exact ⟨k, List.mem_range.mp hk, rfl⟩

/-! ### other partings -/
theorem rg_cons {lo : Int} {n : Nat} : rangeD lo (n + 1) = .int lo :: rangeD (lo + 1) n := by
  unfold rangeD
  rw [List.range_succ_eq_map, List.map_cons, List.map_map]
  congr 1
  · simp
  · apply List.map_congr_left
    intro k _
    show D.int (lo + ((k + 1 : Nat) : Int)) = .int (lo + 1 + k)
    congr 1
    omega
theorem rg_nil {lo : Int} : rangeD lo 0 = [] := rfl
theorem runL_rg {g : NG} {b : NS} {Z : NEnds} {kp : Keep} {T : TgZ g b Z} (n : Nat) (J : Nat → N.Env → Sto → Prop) (hk : ∀ i e S, J i e S → kp S) (hz : ∀ e S, J n e S → Z.nx e S) (hs : ∀ (k : Nat) e S (C : N.Env → Sto → Prop), k < n → J k e S → (∀ e' S', J (k + 1) e' S' → C e' S') → g (.int (k : Int)) e S fun e1 S1 => b { nx := C, ct := C, bk := Z.nx, rt := Z.rt } e1 S1) {e : N.Env} {S : Sto} (h : J 0 e S) : runL g b Z kp (rangeD 0 n) e S T := by
  refine runL_invL (fun xs e S => ∃ i m : Nat, i + m = n ∧ xs = rangeD (i : Int) m ∧ J i e S) (fun xs e S h => ?_) (fun e S h => ?_) (fun x xs e S C h hC => ?_) ⟨0, n, by omega, rfl, h⟩
  · obtain ⟨i, m, _, _, h⟩ := h
    exact hk i e S h
  · obtain ⟨i, m, em, hx, h⟩ := h
    cases m with
    | zero => have : i = n := by omega
              rw [this] at h; exact hz e S h
    | succ m => rw [rg_cons] at hx; cases hx
  · obtain ⟨i, m, em, hx, h⟩ := h
    cases m with
    | zero => cases hx
    | succ m =>
      rw [rg_cons] at hx
      obtain ⟨rfl, rfl⟩ := List.cons.inj hx
      exact hs i e S C (by omega) h fun e' S' h' => hC e' S' ⟨i + 1, m, by omega, by rw [Int.natCast_add]; rfl, h'⟩
theorem dr_put {a b f : Addr} {ns : List Int} {S0 S1 : Sto} {o : Ob} (h : Dr a b ns S0 S1) (hf : S0 f = none) (ff : f ∉ [a, b]) : Dr a b ns S0 (put S1 f o) := by
  have u : Upd [f] S1 (put S1 f o) := Upd.at (by simp)
  refine ⟨h.l.up u (fun z => ff (by rw [← List.mem_singleton.mp z]; simp)) (fun z => ff (by rw [← List.mem_singleton.mp z]; simp)), fun p x hp e => ?_⟩
  have : p ≠ f := fun z => by rw [z, hf] at e; cases e
  rw [put_ne this]
  exact h.u p x hp e
theorem dr_new {a b f : Addr} {ns : List Int} {S0 S1 : Sto} (h : Dr a b ns S0 S1) (hf : S1 f = none) : S0 f = none ∧ f ∉ [a, b] := ⟨Upd.fresh' h.u hf (dr_free h.l hf), dr_free h.l hf⟩
structure Lots (n many : Nat) (o : List Nat) : Prop where
  l : o.length = n
  s : o.sum = many
theorem others_ok {a b : Addr} {ns : List Int} {n many : Nat} {ls : List Nat} {S : Sto} {Q : NQ} {E} {T : TgQ Q E} (h : LSt a b ns S) (hp : Lots n many ls) (n1 : 1 ≤ n) (n6 : n ≤ 6) (hm : many ≤ 30)
    (k : ∀ (f : Addr) (os : List (List Nat)) (S' : Sto), S f = none → (∀ o ∈ os, Lots n many o) → os.length ≤ 46 → S' f = some (.lst (os.map fun o => D.tup (dl o))) → Dr a b ns S S' → Q (.ref f) S') : runF sp__law_others [.ref a, .tup (dl ls), .int (many : Int)] S Q E T := by
  have sl : (10000 : Nat) ≤ sizeLine := by decide
  have ll := hp.l
  simp_arith! [sp__law_others, m__law_others]
  simp_arith []
  simp_all_arith [S, f, hf, S1, gf, K1]
  have ff : f ∉ [a, b] := dr_free h hf
  have d : Dr a b ns S S1 := dr_keep ⟨h, Upd.refl⟩ K1
  simp_arith [List.length_map, ll]
  refine ⟨by unfold RngOk; omega, ?_⟩
  rw [Int.toNat_natCast]
  refine runL_rg n (fun i e S' => ∃ (x4 x5 x6 x7 x8 x9 x10 : Option D) (os : List (List Nat)), e = [some (.ref a), some (.tup (dl ls)), some (.int (many : Int)), some (.ref f), x4, x5, x6, x7, x8, x9, x10] ∧ Dr a b ns S S' ∧ S' f = some (.lst (os.map fun o => D.tup (dl o))) ∧ (∀ o ∈ os, Lots n many o) ∧ os.length ≤ 7 * i)
    (fun i e S h => trivial) (fun e S' h => ?_) (fun i e S' C hi h hC => ?_) ?_
  · obtain ⟨x4, x5, x6, x7, x8, x9, x10, os, rfl, d, gf, ho, lo⟩ := h
    simp_arith []
    refine ⟨by unfold RngOk; decide, ?_⟩
    refine runL_rg 4 (fun i e S' => ∃ (x4 x5 x6 x7 x8 x9 x10 : Option D) (os : List (List Nat)), e = [some (.ref a), some (.tup (dl ls)), some (.int (many : Int)), some (.ref f), x4, x5, x6, x7, x8, x9, x10] ∧ Dr a b ns S S' ∧ S' f = some (.lst (os.map fun o => D.tup (dl o))) ∧ (∀ o ∈ os, Lots n many o) ∧ os.length ≤ 42 + i)
      (fun i e S h => trivial) (fun e S' h => ?_) (fun i e S' C hi h hC => ?_) ?_
    · obtain ⟨x4, x5, x6, x7, x8, x9, x10, os, rfl, d, gf, ho, lo⟩ := h
      simp_arith []
      exact k f os S' hf ho (by omega) gf d
    · obtain ⟨x4, x5, x6, x7, x8, x9, x10, os, rfl, d, gf, ho, lo⟩ := h
      simp_arith []
      simp_all_arith [S', p1, hp1, S2, g1, K2]
      have d := dr_keep d K2
      simp_all_arith! [K2, gf]
      simp_arith [g1, List.length_map, ll]
      refine ⟨⟨by omega, by omega, by omega⟩, ?_⟩
      rw [Int.toNat_natCast, rep_dl]
      simp_all_arith [S2, p2, hp2, S3, g2, K3]
      have p2n := dr_new d hp2
      have pf : p2 ≠ f := fun z => by rw [z, gf] at hp2; cases hp2
      have d := dr_keep d K3
      simp_all_arith! [K3, gf]
      refine ⟨by unfold RngOk; omega, ?_⟩
      try rw [Int.toNat_natCast]
      refine runL_rg many (fun j e S' => ∃ (x9 x10 : Option D) (q : List Nat), e = [some (.ref a), some (.tup (dl ls)), some (.int (many : Int)), some (.ref f), some (.int (i : Int)), x5, x6, x7, some (.ref p2), x9, x10] ∧ Dr a b ns S S' ∧ S' f = some (.lst (os.map fun o => D.tup (dl o))) ∧ S' p2 = some (.lst (dl q)) ∧ q.length = n ∧ q.sum = j)
        (fun i e S h => trivial) (fun e S' h => ?_) (fun j e S' C hj h hC => ?_) ?_
      · obtain ⟨x9, x10, q, rfl, d, gf, gq, lq, sq⟩ := h
        simp_arith [gq]
        refine ⟨⟨_, _, rfl, gf⟩, ?_⟩
        simp_arith [gf, List.length_map]
        have d := dr_put d hf ff (o := .lst (os.map (fun o => D.tup (dl o)) ++ [D.tup (dl q)]))
        refine ⟨by omega, hC _ _ ⟨_, _, _, _, _, _, _, os ++ [q], rfl, d, by rw [put_same, List.map_append]; rfl, fun o h => ?_, by rw [List.length_append, List.length_singleton]; omega⟩⟩
        rcases List.mem_append.mp h with h | h
        · exact ho o h
        · rw [List.mem_singleton.mp h]; exact ⟨lq, sq⟩
      · obtain ⟨x9, x10, q, rfl, d, gf, gq, lq, sq⟩ := h
        simp_arith []
        refine nx_ok ⟨d.l, Upd.refl⟩ fun v S4 v0 v1 d4 => ?_
        have gf := d4.u _ _ ff gf
        have gq := d4.u _ _ p2n.2 gq
        have d := d.trans d4
        have n0 : (0 : Int) < (n : Int) := by omega
        have mv := mod_lt (i := v) n0
        obtain ⟨w, ew⟩ : ∃ w : Nat, v % (n : Int) = (w : Int) := ⟨(v % (n : Int)).toNat, by omega⟩
        have wn : w < n := by omega
        have lw : w < q.length := by omega
        have ix : ixN n (w : Int) = some w := by rw [ixN_in (by omega) (by omega), Int.toNat_natCast]
        have e2 : ((q[w] : Nat) : Int) + 1 = ((q[w] + 1 : Nat) : Int) := by omega
        simp_arith [n0, List.length_map, ll, ew, gq, at_dl lw, lq, ix, e2, set_dl]
        have d := dr_put d p2n.1 p2n.2 (o := .lst (dl (q.set w (q[w] + 1))))
        have sm := sum_setN (ls := q) (k := w) (v := q[w] + 1) lw
        exact hC _ _ ⟨_, _, q.set w (q[w] + 1), rfl, d, by rw [put_ne (Ne.symm pf)]; exact gf, put_same, by rw [List.length_set]; exact lq, by omega⟩
      · exact ⟨_, _, _, rfl, d, gf, g2, by simp, by simp⟩
    · exact ⟨_, _, _, _, _, _, _, os, rfl, d, gf, ho, by omega⟩
  · obtain ⟨x4, x5, x6, x7, x8, x9, x10, os, rfl, d, gf, ho, lo⟩ := h
    simp_arith []
    simp_all_arith [S', p1, hp1, S2, g1, K2]
    have d := dr_keep d K2
    simp_all_arith! [K2, gf]
    simp_arith [g1, List.length_map, ll]
    refine ⟨⟨by omega, by omega, by omega⟩, ?_⟩
    rw [Int.toNat_natCast, rep_dl]
    simp_all_arith [S2, p2, hp2, S3, g2, K3]
    have p2n := dr_new d hp2
    have pf : p2 ≠ f := fun z => by rw [z, gf] at hp2; cases hp2
    have d := dr_keep d K3
    simp_all_arith! [K3, gf]
    have ix : ixN n (i : Int) = some i := by rw [ixN_in (by omega) (by omega), Int.toNat_natCast]
    simp_arith [g2, List.length_map, List.length_replicate, ix, set_dl]
    have d := dr_put d p2n.1 p2n.2 (o := .lst (dl ((List.replicate n 0).set i many)))
    have gf4 : put S3 p2 (.lst (dl ((List.replicate n 0).set i many))) f = some (.lst (os.map fun o => D.tup (dl o))) := by rw [put_ne (Ne.symm pf)]; exact gf
    have g4 : put S3 p2 (.lst (dl ((List.replicate n 0).set i many))) p2 = some (.lst (dl ((List.replicate n 0).set i many))) := put_same
    generalize put S3 p2 (.lst (dl ((List.replicate n 0).set i many))) = S4 at *
    refine ⟨⟨_, _, rfl, gf4⟩, ?_⟩
    simp_arith [g4, gf4, List.length_map]
    refine ⟨by omega, by unfold RngOk; omega, ?_⟩
    have lone : Lots n many ((List.replicate n 0).set i many) := by
      refine ⟨by rw [List.length_set, List.length_replicate], ?_⟩
      have := sum_setN (ls := List.replicate n 0) (k := i) (v := many) (by rw [List.length_replicate]; exact hi)
      rw [List.getElem_replicate, List.sum_replicate_nat] at this
      omega
    have d := dr_put d hf ff (o := .lst (os.map (fun o => D.tup (dl o)) ++ [D.tup (dl ((List.replicate n 0).set i many))]))
    try rw [Int.toNat_natCast]
    refine runL_rg n (fun j e S' => ∃ (x6 x7 x8 x9 x10 : Option D) (os : List (List Nat)), e = [some (.ref a), some (.tup (dl ls)), some (.int (many : Int)), some (.ref f), some (.int (i : Int)), some (.ref p2), x6, x7, x8, x9, x10] ∧ Dr a b ns S S' ∧ S' f = some (.lst (os.map fun o => D.tup (dl o))) ∧ (∀ o ∈ os, Lots n many o) ∧ os.length ≤ 7 * i + 1 + j)
      (fun i e S h => trivial) (fun e S' h => ?_) (fun j e S' C hj h hC => ?_) ?_
    · obtain ⟨x6, x7, x8, x9, x10, os, rfl, d, gf, ho, lo⟩ := h
      exact hC _ _ ⟨_, _, _, _, _, _, _, os, rfl, d, gf, ho, by omega⟩
    · obtain ⟨x6, x7, x8, x9, x10, os, rfl, d, gf, ho, lo⟩ := h
      have li : i < ls.length := by omega
      simp_arith [at_dl li]
      by_cases c : 0 < ls[i] ∧ j ≠ i
      · have c1 : decide (((ls[i] : Nat) : Int) > 0) = true := decide_eq_true (by omega)
        have c2 : decide ((j : Int) = (i : Int)) = false := decide_eq_false (by omega)
        simp_arith [c1, c2, Bool.not_false]
        simp_all_arith [S', p3, hp3, S5, g5, K5]
        have p3n := dr_new d hp3
        have p3f : p3 ≠ f := fun z => by rw [z, gf] at hp3; cases hp3
        have d := dr_keep d K5
        simp_all_arith! [K5, gf]
        have ix : ixN n (i : Int) = some i := by rw [ixN_in (by omega) (by omega), Int.toNat_natCast]
        have jx : ixN n (j : Int) = some j := by rw [ixN_in (by omega) (by omega), Int.toNat_natCast]
        have e1 : ((ls[i] : Nat) : Int) - 1 = ((ls[i] - 1 : Nat) : Int) := by omega
        simp_arith [g5, at_dl li, List.length_map, ll, ix, e1, set_dl]
        have gf6 : put S5 p3 (.lst (dl (ls.set i (ls[i] - 1)))) f = some (.lst (os.map fun o => D.tup (dl o))) := by rw [put_ne (Ne.symm p3f)]; exact gf
        have g6 : put S5 p3 (.lst (dl (ls.set i (ls[i] - 1)))) p3 = some (.lst (dl (ls.set i (ls[i] - 1)))) := put_same
        have d := dr_put d p3n.1 p3n.2 (o := .lst (dl (ls.set i (ls[i] - 1))))
        have sm1 := sum_setN (ls := ls) (k := i) (v := ls[i] - 1) li
        have ln1 : (ls.set i (ls[i] - 1)).length = n := by rw [List.length_set]; exact ll
        generalize put S5 p3 (.lst (dl (ls.set i (ls[i] - 1)))) = S6 at *
        generalize ls.set i (ls[i] - 1) = l1 at *
        have lj : j < l1.length := by omega
        have e2 : ((l1[j] : Nat) : Int) + 1 = ((l1[j] + 1 : Nat) : Int) := by omega
        simp_arith [g6, at_dl lj, List.length_map, ln1, jx, e2, set_dl]
        have gf7 : put S6 p3 (.lst (dl (l1.set j (l1[j] + 1)))) f = some (.lst (os.map fun o => D.tup (dl o))) := by rw [put_ne (Ne.symm p3f)]; exact gf6
        have g7 : put S6 p3 (.lst (dl (l1.set j (l1[j] + 1)))) p3 = some (.lst (dl (l1.set j (l1[j] + 1)))) := put_same
        have d := dr_put d p3n.1 p3n.2 (o := .lst (dl (l1.set j (l1[j] + 1))))
        have sm2 := sum_setN (ls := l1) (k := j) (v := l1[j] + 1) lj
        have ln2 : (l1.set j (l1[j] + 1)).length = n := by rw [List.length_set]; exact ln1
        generalize put S6 p3 (.lst (dl (l1.set j (l1[j] + 1)))) = S7 at *
        generalize l1.set j (l1[j] + 1) = l2 at *
        refine ⟨⟨_, _, rfl, gf7⟩, ?_⟩
        simp_arith [g7, gf7, List.length_map]
        have d := dr_put d hf ff (o := .lst (os.map (fun o => D.tup (dl o)) ++ [D.tup (dl l2)]))
        have hs := hp.s
        have lo2 : Lots n many l2 := ⟨ln2, by omega⟩
        refine ⟨by omega, hC _ _ ⟨_, _, _, _, _, os ++ [l2], rfl, d, by rw [put_same, List.map_append]; rfl, fun o h => ?_, by rw [List.length_append, List.length_singleton]; omega⟩⟩
        rcases List.mem_append.mp h with h | h
        · exact ho o h
        · rw [List.mem_singleton.mp h]; exact lo2
      · have fin := hC [some (.ref a), some (.tup (dl ls)), some (.int (many : Int)), some (.ref f), some (.int (i : Int)), some (.ref p2), some (.int (j : Int)), x7, x8, x9, x10] S' ⟨_, _, _, _, _, os, rfl, d, gf, ho, by omega⟩
        by_cases z : 0 < ls[i]
        · have ji : j = i := by
            by_cases ji : j = i
            · exact ji
            · exact absurd ⟨z, ji⟩ c
          have c1 : decide (((ls[i] : Nat) : Int) > 0) = true := decide_eq_true (by omega)
          have c2 : decide ((j : Int) = (i : Int)) = true := decide_eq_true (by omega)
          simp_arith [c1, c2, Bool.not_true]
          exact fin
        · have c1 : decide (((ls[i] : Nat) : Int) > 0) = false := decide_eq_false (by omega)
          simp_arith [c1]
          exact fin
    · exact ⟨_, _, _, _, _, os ++ [(List.replicate n 0).set i many], rfl, d, by rw [put_same, List.map_append]; rfl, fun o h => by
        rcases List.mem_append.mp h with h | h
        · exact ho o h
        · rw [List.mem_singleton.mp h]; exact lone, by rw [List.length_append, List.length_singleton]; omega⟩
  · exact ⟨_, _, _, _, _, _, _, [], rfl, d, gf, (fun o ho => by cases ho), by simp⟩

/-! ### one lot more -/
theorem le_sumN : ∀ {ls : List Nat} {l : Nat}, l ∈ ls → l ≤ ls.sum
  | x :: t, l, h => by
    rw [List.sum_cons]
    rcases List.mem_cons.mp h with rfl | h
    · omega
    · have := le_sumN h; omega
theorem lots_more {m : Mk} {i z : Int} {l l' : Nat} {x x' : Int} (o : m.Ok) (sd : Sd i) (z1 : 1 ≤ z) (hl : l < l') (h : lotsOf m i z l = some x) (h' : lotsOf m i z l' = some x') : ∃ y, lotsOf m i z (l + 1) = some y ∧ x ≤ y := by
  have t' : m.stk i + z * (l' : Int) ≤ 1000000000000 := by
    unfold lotsOf at h'
    rw [if_neg (by omega)] at h'
    by_cases c : m.stk i + z * (l' : Int) ≤ 1000000000000
    · exact c
    · rw [if_neg c] at h'; cases h'
  have le : z * ((l + 1 : Nat) : Int) ≤ z * (l' : Int) := Int.mul_le_mul_of_nonneg_left (by omega) (by omega)
  have ex : z * ((l + 1 : Nat) : Int) = z * (l : Int) + z := by rw [Int.natCast_add, Int.mul_add]; simp
  have l0 : 0 ≤ z * (l : Int) := Int.mul_nonneg (by omega) (by omega)
  have sb := o.sb i
  refine ⟨m.comes i (z * ((l + 1 : Nat) : Int)), by unfold lotsOf; rw [if_neg (by omega), if_pos (by omega)], ?_⟩
  have A : Asks m i (z * ((l + 1 : Nat) : Int)) := ⟨⟨o, sd, by omega, by omega⟩, by omega⟩
  by_cases c : l = 0
  · subst c
    unfold lotsOf at h
    rw [if_pos rfl] at h
    cases h
    exact A.comes.1
  · unfold lotsOf at h
    rw [if_neg c, if_pos (by omega)] at h
    cases h
    have p1 : 1 * 1 ≤ z * (l : Int) := Int.mul_le_mul z1 (by omega) (by decide) (by omega)
    exact comes_mono o sd (by omega) (by omega) (by omega)
theorem come_more {i z : Int} (sd : Sd i) (z1 : 1 ≤ z) : ∀ {ms : List Mk} {ps qs : List Nat} {v w : Int}, (∀ m ∈ ms, m.Ok) → ps.length = ms.length → qs.length = ms.length → ps.sum < qs.sum → come (ms.map fun m => lotsOf m i z) ps = some v → come (ms.map fun m => lotsOf m i z) qs = some w →
    ∃ rs u, rs.length = ms.length ∧ rs.sum = ps.sum + 1 ∧ come (ms.map fun m => lotsOf m i z) rs = some u ∧ v ≤ u
  | [], ps, qs, v, w, _, hp, hq, hs, _, _ => by
    have e1 : ps = [] := List.length_eq_zero_iff.mp hp
    have e2 : qs = [] := List.length_eq_zero_iff.mp hq
    rw [e1, e2] at hs
    exact absurd hs (by decide)
  | m :: ms, [], qs, v, w, _, hp, _, _, _, _ => by cases hp
  | m :: ms, p :: ps, [], v, w, _, _, hq, _, _, _ => by cases hq
  | m :: ms, p :: ps, q :: qs, v, w, ok, hp, hq, hs, h1, h2 => by
    rw [List.map_cons, come_cons] at h1 h2
    rw [List.sum_cons, List.sum_cons] at hs
    have o := ok m (by simp)
    cases e1 : lotsOf m i z p with
    | none => rw [e1] at h1; cases h1
    | some x =>
      cases e2 : lotsOf m i z q with
      | none => rw [e2] at h2; cases h2
      | some y =>
        rw [e1] at h1; rw [e2] at h2
        cases f1 : come (ms.map fun m => lotsOf m i z) ps with
        | none => rw [f1] at h1; cases h1
        | some a =>
          cases f2 : come (ms.map fun m => lotsOf m i z) qs with
          | none => rw [f2] at h2; cases h2
          | some c =>
            rw [f1] at h1
            have h1 : some (x + a) = some v := h1
            cases h1
            by_cases lt : p < q
            · obtain ⟨y', g1, g2⟩ := lots_more o sd z1 lt e1 e2
              refine ⟨(p + 1) :: ps, y' + a, by simpa using hp, by rw [List.sum_cons, List.sum_cons]; omega, ?_, by omega⟩
              rw [List.map_cons, come_cons, g1, f1]; rfl
            · obtain ⟨rs, u, r1, r2, r3, r4⟩ := come_more sd z1 (ms := ms) (ps := ps) (qs := qs) (fun y hy => ok y (by simp [hy])) (by simpa using hp) (by simpa using hq) (by omega) f1 f2
              refine ⟨p :: rs, x + u, by simpa using r1, by rw [List.sum_cons, List.sum_cons]; omega, ?_, by omega⟩
              rw [List.map_cons, come_cons, e1, r3]; rfl
theorem best_more {rs : List Mkr} {i z : Int} {n : Nat} {v w : Int} {ps qs : List Nat} (ok : ∀ x ∈ rs, x.m.Ok) (sd : Sd i) (z1 : 1 ≤ z) (h1 : bfrom (rowsM rs i z) n = some (v, ps)) (h2 : bfrom (rowsM rs i z) (n + 1) = some (w, qs)) : v ≤ w := by
  have s1 := bfrom_spec (rowsM rs i z) n
  have s2 := bfrom_spec (rowsM rs i z) (n + 1)
  obtain ⟨a1, a2, a3⟩ := s1.so _ _ h1
  obtain ⟨b1, b2, b3⟩ := s2.so _ _ h2
  have er : rowsM rs i z = (rs.map (·.m)).map fun m => lotsOf m i z := by unfold rowsM; rw [List.map_map]; rfl
  have lr : (rowsM rs i z).length = (rs.map (·.m)).length := by rw [er, List.length_map]
  rw [er] at a3 b3
  obtain ⟨us, u, r1, r2, r3, r4⟩ := come_more (ms := rs.map (·.m)) sd z1 (fun m hm => by obtain ⟨x, hx, rfl⟩ := List.mem_map.mp hm; exact ok x hx) (by rw [a1, lr]) (by rw [b1, lr]) (by omega) a3 b3
  rw [← er] at r3
  have := s2.top _ _ h2 us (by rw [r1, lr]) (by omega) _ r3
  omega
/-! ### the best, or its refusal -/
theorem lbest_ok {g ps pk : Addr} {rs : List Mkr} {hs : List Hnd} {i z : Int} {n : Nat} {S : Sto} {Q : NQ} {E} {T : TgQ Q E} (G : MarketAt g ps pk rs hs S) (nd : (rs.map (·.nm)).Nodup) (ml : rs.length ≤ 6) (ok : ∀ x ∈ rs, x.m.Ok) (sd : Sd i) (z1 : 1 ≤ z) (z2 : z ≤ 1000000000001) (n1 : 1 ≤ n) (hn : n ≤ 30)
    (k1 : bfrom (rowsM rs i z) n = none → ∀ x S', S' x = some (.exc "NoParting" Option.none) → Keeps S S' → Q (.tup [.non, .ref x]) S') (k2 : ∀ v qs, bfrom (rowsM rs i z) n = some (v, qs) → ∀ S', Keeps S S' → Q (.tup [.tup (dl qs), .non]) S') : runF sp__law_best [.ref g, .str (wr i), .int z, .int (n : Int)] S Q E T := by
  have cm : catchOf CL "NoParting" "MartError" = some true := by decide
  simp_arith! [sp__law_best, m__law_best]
  simp_arith []
  refine pbest_ok G nd ml ok sd z1 z2 n1 hn (fun e S1 K1 => ?_) fun v qs e S1 K1 => ?_
  · rw [cm]
    dsimp only
    refine ⟨by decide, fun x hx => ?_⟩
    simp_arith []
    exact k1 e _ _ put_same (Upd.trans K1 (Upd.new hx))
  · simp_arith []
    exact k2 v qs e _ K1

/-! ### one good -/
structure In25 (a b g ps pk pl : Addr) (ns : List Int) (rs : List Mkr) (hs : List Hnd) (S : Sto) : Prop where
  G : MarketAt g ps pk rs hs S
  l : LSt a b ns S
  p : S pl = some (.lst ((rs.map (·.m)).map Mk.d))
  d1 : ∀ x ∈ fpM g ps pk rs, x ∉ [a, b]
  dp : pl ∉ [a, b]
theorem In25.keep {a b g ps pk pl : Addr} {ns : List Int} {rs : List Mkr} {hs : List Hnd} {S S' : Sto} (I : In25 a b g ps pk pl ns rs hs S) (K : Keeps S S') : In25 a b g ps pk pl ns rs hs S' := ⟨I.G.keep K, I.l.up K (by simp) (by simp), K _ _ (by simp) I.p, I.d1, I.dp⟩
theorem In25.dr {a b g ps pk pl : Addr} {ns : List Int} {rs : List Mkr} {hs : List Hnd} {S S' : Sto} (I : In25 a b g ps pk pl ns rs hs S) (d : Dr a b ns S S') : In25 a b g ps pk pl ns rs hs S' := ⟨I.G.upF d.u fun x hx z => I.d1 x z hx, d.l, d.u _ _ I.dp I.p, I.d1, I.dp⟩
theorem dr_of {a b g ps pk pl : Addr} {ns : List Int} {rs : List Mkr} {hs : List Hnd} {S S' : Sto} (I : In25 a b g ps pk pl ns rs hs S) (K : Keeps S S') : Dr a b ns S S' := dr_keep ⟨I.l, Upd.refl⟩ K
theorem eqT_nn0 {S : Sto} {f p : Addr} (h1 : S f = some (.lst [])) (h2 : S p = some (.lst [])) : N.eqT S (.ref f) (.ref p) = some true := by
  unfold N.eqT
  simp only [N.pyT, h1, h2, pyDs, Option.map_some]
  rfl
theorem sum_dl (ls : List Nat) : intsOf (dl ls) = some (ls.map fun l : Nat => (l : Int)) := by
  have : dl ls = (ls.map fun l : Nat => (l : Int)).map D.int := by rw [List.map_map]; rfl
  rw [this]; exact intsM _
theorem sumZ (ls : List Nat) : (ls.map fun l : Nat => (l : Int)).sum = (ls.sum : Int) := by
  induction ls with
  | nil => rfl
  | cons x t ih => rw [List.map_cons, List.sum_cons, List.sum_cons, ih, Int.natCast_add]
theorem minZ : ∀ (ls : List Nat) (x : Int), 0 ≤ x → 0 ≤ (ls.map fun l : Nat => (l : Int)).foldl min x
  | [], x, h => h
  | y :: t, x, h => by
    rw [List.map_cons, List.foldl_cons]
    exact minZ t _ (by omega)
theorem one_good_ok {a b g ps pk pl : Addr} {ns : List Int} {rs : List Mkr} {hs : List Hnd} {i z : Int} {n : Nat} {S : Sto} {Q : NQ} {E} {T : TgQ Q E} (I : In25 a b g ps pk pl ns rs hs S) (nd : (rs.map (·.nm)).Nodup) (ml : rs.length ≤ 6) (m0 : 1 ≤ rs.length) (ok : ∀ x ∈ rs, x.m.Ok) (sd : Sd i) (z1 : 1 ≤ z) (z2 : z ≤ 1000000000001) (n1 : 1 ≤ n) (hn : n ≤ 30)
    (k : ∀ S', In25 a b g ps pk pl ns rs hs S' → Dr a b ns S S' → Q (.bl true) S') : runF sp__law_one_good [.ref a, .ref g, .ref pl, .int i, .int z, .int (n : Int)] S Q E T := by
  have sl : (10000 : Nat) ≤ sizeLine := by decide
  have er : rowsM rs i z = (rs.map (·.m)).map fun m => lotsOf m i z := by unfold rowsM; rw [List.map_map]; rfl
  have lr : (rs.map (·.m)).length = rs.length := List.length_map _
  have lrr : (rowsM rs i z).length = rs.length := by unfold rowsM; exact List.length_map _
  have okm : ∀ m ∈ rs.map (·.m), m.Ok := fun m hm => by obtain ⟨x, hx, rfl⟩ := List.mem_map.mp hm; exact ok x hx
  have s1 := bfrom_spec (rowsM rs i z) n
  simp_arith! [sp__law_one_good, m__law_one_good]
  simp_arith [at_wares sd]
  refine lbest_ok I.G nd ml ok sd z1 z2 n1 hn (fun e x S1 gx K1 => ?_) fun v qs e S1 K1 => ?_
  · have d := dr_of I K1
    have I := I.keep K1
    have no : ∀ o : List Nat, Lots rs.length n o → come ((rs.map (·.m)).map fun m => lotsOf m i z) o = none := fun o ho => by
      rw [← er]; exact s1.no e o (by rw [ho.l, lrr]) ho.s
    simp_arith []
    simp_all_arith [S1, p1, hp1, S2, g1, K2]
    have d := d.trans (dr_of I K2)
    have I := I.keep K2
    simp_all_arith! [K2, gx]
    have ip := I.p
    simp_all_arith [S2, p2, hp2, S3, g2, K3]
    have d := d.trans (dr_of I K3)
    have I := I.keep K3
    simp_all_arith! [K3, gx, g1]
    have ip := I.p
    simp_arith [ip, g2, List.length_map, lr]
    refine ⟨⟨by omega, by omega, by omega⟩, ?_⟩
    have ek : ((rs.length : Int) - 1).toNat = rs.length - 1 := by omega
    rw [ek, rep_dl]
    simp_all_arith [S3, p3, hp3, S4, g3, K4]
    have d := d.trans (dr_of I K4)
    have I := I.keep K4
    simp_all_arith! [K4, gx, g1]
    simp_arith [g1, g3, List.length_map, List.length_replicate]
    refine ⟨by omega, ?_⟩
    have eb : [D.int (n : Int)] ++ dl (List.replicate (rs.length - 1) 0) = dl (n :: List.replicate (rs.length - 1) 0) := rfl
    rw [eb]
    simp_all_arith [S4, p4, hp4, S5, g4, K5]
    have d := d.trans (dr_of I K5)
    have I := I.keep K5
    simp_all_arith! [K5, gx]
    simp_arith [g4]
    have lb : Lots rs.length n (n :: List.replicate (rs.length - 1) 0) := ⟨by simp; omega, by simp⟩
    refine others_ok I.l lb m0 ml hn fun f os S6 hf ho lo gf d6 => ?_
    have gxn : x ∉ [a, b] := fun z => by
      obtain ⟨_, _, _, q1, q2, _⟩ := I.l
      rcases List.mem_cons.mp z with z | z
      · rw [z] at gx; rw [gx] at q1; cases q1
      · rw [List.mem_singleton.mp z] at gx; rw [gx] at q2; cases q2
    have gx := d6.u _ _ gxn gx
    have d := d.trans d6
    have I := I.dr d6
    simp_arith [gf]
    intro q hq
    have qf : f ≠ q := fun z => by rw [z, hq] at gf; cases gf
    refine ⟨by rw [put_ne qf]; exact gf, ?_⟩
    refine runC_keepM (fun o : List Nat => .tup (dl o)) (fun _ => .non) rfl hq (fun S K => K _ _ (by simp) gf) (by omega) (fun o ho' S7 Y NN K hY => ?_) fun S7 K7 g7 => ?_
    · have I := I.keep K
      have lo' := ho o ho'
      simp_arith []
      refine lcome_ok I.p okm sd z1 z2 (by rw [lo'.l, lr]) (fun l hl => by have := le_sumN hl; have := lo'.s; omega) ?_
      rw [no o lo']
      exact hY _ Upd.refl
    · have d := d.trans (dr_of I K7)
      have I := I.keep K7
      simp_all_arith! [K7, gx]
      have h3 : (T1 CL).contains (.cls "NoParting") = true := by decide
      have i1 := fun (Q : NQ) => isi_exc (x := "NoParting") Q gx h3 (by decide)
      have b1 : isT (.cls "NoParting") (.cls "NoParting") = true := by decide
      simp_arith [i1, b1, g7]
      intro p5 hp5
      have qp : q ≠ p5 := fun z => by rw [z, hp5] at g7; cases g7
      refine ⟨by rw [put_ne qp]; exact g7, ?_⟩
      refine runC_pure (fun _ => none) (fun l => by rw [put_ne qp]; exact g7) (by rw [List.length_map]; omega) (fun y hy l Y N h => ?_) ?_
      · obtain ⟨o, _, rfl⟩ := List.mem_map.mp hy
        simp_arith []
        exact h
      · have e0 : ∀ l : List D, l.filterMap (fun _ => (none : Option D)) = [] := fun l => by
          induction l with
          | nil => rfl
          | cons y t ih => rw [List.filterMap_cons_none rfl]; exact ih
        rw [e0]
        have g8 : put S7 p5 (.lst []) p5 = some (.lst []) := put_same
        have K8 : Keeps S7 (put S7 p5 (.lst [])) := Upd.new hp5
        generalize put S7 p5 (.lst []) = S8 at *
        have d := d.trans (dr_of I K8)
        have I := I.keep K8
        simp_arith []
        simp_all_arith [S8, p6, hp6, S9, g9, K9]
        have d := d.trans (dr_of I K9)
        have I := I.keep K9
        simp_all_arith! [K9, g8]
        simp_arith [eqT_nn0 g8 g9]
        exact k _ I d
  · have d := dr_of I K1
    have I := I.keep K1
    obtain ⟨a1, a2, a3⟩ := s1.so _ _ e
    have tp := s1.top _ _ e
    rw [lrr] at a1 tp
    rw [er] at a3 tp
    have lo : Lots rs.length n qs := ⟨a1, a2⟩
    have ip := I.p
    obtain ⟨q0, qt, hq⟩ : ∃ q0 qt, qs = q0 :: qt := by
      cases qs with
      | nil => simp at a1; omega
      | cons q0 qt => exact ⟨q0, qt, rfl⟩
    subst hq
    have mn : decide (((qt.map fun l : Nat => (l : Int)).foldl min (q0 : Int)) < 0) = false := decide_eq_false (by have := minZ qt q0 (by omega); omega)
    have sI : intsOf (D.int (q0 : Int) :: dl qt) = some ((q0 : Int) :: qt.map fun l : Nat => (l : Int)) := sum_dl (q0 :: qt)
    have sS : ((q0 : Int) :: qt.map fun l : Nat => (l : Int)).sum = (n : Int) := by
      have := sumZ (q0 :: qt)
      rw [List.map_cons] at this
      rw [this, a2]
    have lq : qt.length + 1 = rs.length := by simpa using a1
    have lq' : decide (((qt.length + 1 : Nat) : Int) = (rs.length : Int)) = true := decide_eq_true (by omega)
    have lb : ∀ l ∈ q0 :: qt, l ≤ 30 := fun l hl => by have := le_sumN hl; omega
    simp_arith [isi_tup_tuple, Bool.not_true, ip, List.length_map, lr, lq', sI, sS, decide_true, sum_dl, mn]
    refine ⟨by omega, ?_⟩
    refine lcome_ok (ls := q0 :: qt) I.p okm sd z1 z2 (by rw [lr]; exact a1) lb ?_
    have oe : ∀ w : Int, optD (some w) = .int w := fun _ => rfl
    have on0 : optD none = .non := rfl
    rw [a3, oe]
    simp_arith [at_wares sd]
    refine gets_ok (ls := q0 :: qt) I.G nd ml ok sd z1 z2 a1 (fun l hl => by have := lb l hl; omega) (fun e' => by rw [er, a3] at e'; cases e') fun v' e' S2 K2 => ?_
    rw [er, a3] at e'
    cases e'
    have d := d.trans (dr_of I K2)
    have I := I.keep K2
    simp_arith [decide_true, Bool.not_true]
    refine others_ok (ls := q0 :: qt) I.l lo m0 ml hn fun f os S3 hf ho lo3 gf d3 => ?_
    have d := d.trans d3
    have I := I.dr d3
    simp_arith [gf]
    refine runL_inv (fun e S' => ∃ x10 x13, e = [some (.ref a), some (.ref g), some (.ref pl), some (.int i), some (.int z), some (.int (n : Int)), some (.tup (dl (q0 :: qt))), some .non, none, none, x10, none, some (.int v), x13, none, none] ∧ S' = S3)
      (fun e S h => by obtain ⟨_, _, _, rfl⟩ := h; exact gf) (fun e S' h => ?_) ?_ (fun x hx e S' C h hC => ?_)
    · obtain ⟨x10, x13, rfl, rfl⟩ := h
      simp_arith [at_wares sd]
      obtain ⟨n', en, hn', cs⟩ : ∃ n' : Nat, (if (n : Int) + 1 < 30 then (n : Int) + 1 else 30) = (n' : Int) ∧ (1 ≤ n' ∧ n' ≤ 30) ∧ (n' = n + 1 ∨ n' = n) := by
        by_cases c : n + 1 < 30
        · exact ⟨n + 1, by rw [if_pos (by omega)]; omega, by omega, .inl rfl⟩
        · exact ⟨30, by rw [if_neg (by omega)]; rfl, by omega, by omega⟩
      rw [en]
      refine lbest_ok I.G nd ml ok sd z1 z2 hn'.1 hn'.2 (fun e2 x S4 gx K4 => ?_) fun v2 qs2 e2 S4 K4 => ?_
      · simp_arith []
        exact k _ (I.keep K4) (d.trans (dr_of I K4))
      · have vv : v ≤ v2 := by
          rcases cs with rfl | rfl
          · exact best_more ok sd z1 e e2
          · rw [e] at e2; cases e2; exact Int.le_refl _
        obtain ⟨c1, c2, c3⟩ := (bfrom_spec (rowsM rs i z) n').so _ _ e2
        rw [lrr] at c1
        rw [er] at c3
        have d := d.trans (dr_of I K4)
        have I := I.keep K4
        simp_arith []
        refine lcome_ok I.p okm sd z1 z2 (by rw [lr]; exact c1) (fun l hl => by have := le_sumN hl; omega) ?_
        rw [c3, oe]
        have dv : decide (v2 ≥ v) = true := decide_eq_true (by omega)
        simp_arith [dv]
        exact k _ I d
    · exact ⟨_, _, rfl, rfl⟩
    · obtain ⟨x10, x13, rfl, rfl⟩ := h
      obtain ⟨o, ho', rfl⟩ := List.mem_map.mp hx
      have lo' := ho o ho'
      simp_arith []
      refine lcome_ok I.p okm sd z1 z2 (by rw [lo'.l, lr]) (fun l hl => by have := le_sumN hl; have := lo'.s; omega) ?_
      cases ec : come ((rs.map (·.m)).map fun m => lotsOf m i z) o with
      | none =>
        rw [on0]
        simp_arith []
        exact hC _ _ ⟨_, _, rfl, rfl⟩
      | some w =>
        rw [oe]
        have le := tp o lo'.l lo'.s w ec
        have dw : decide (w > v) = false := decide_eq_false (by omega)
        simp_arith [dw]
        exact hC _ _ ⟨_, _, rfl, rfl⟩

/-! ### the law -/
theorem pyD_mk (m : Mk) : ∃ p, pyD m.d = some p ∧ PyData.canLay0 p = true ∧ p.depth ≤ 8 := by
  obtain ⟨k, s, c, t, b, x, y⟩ := m
  cases k
  · exact ⟨.tuple [.str "product", .int s, .int c, .tuple [.int t, .int b]], rfl, by simp [PyData.canLayAll0, PyData.canLay0, str_ok], by simp [PyData.depthAll, PyData.depth]⟩
  · exact ⟨.tuple [.str "stretch", .int s, .int c, .tuple [.int t, .int b], .tuple [.int x, .int y]], rfl, by simp [PyData.canLayAll0, PyData.canLay0, str_ok], by simp [PyData.depthAll, PyData.depth]⟩
  · exact ⟨.tuple [.str "sum", .int s, .int c, .tuple [.int t, .int b], .tuple [.int x, .int y]], rfl, by simp [PyData.canLayAll0, PyData.canLay0, str_ok], by simp [PyData.depthAll, PyData.depth]⟩
theorem pyDs_mks : ∀ ms : List Mk, ∃ ps, pyDs (ms.map Mk.d) = some ps ∧ PyData.canLayAll0 ps = true ∧ PyData.depthAll ps ≤ 8
  | [] => ⟨[], rfl, rfl, by simp [PyData.depthAll]⟩
  | m :: t => by
    obtain ⟨p, a1, a2, a3⟩ := pyD_mk m
    obtain ⟨ps, b1, b2, b3⟩ := pyDs_mks t
    refine ⟨p :: ps, ?_, ?_, ?_⟩
    · rw [List.map_cons]
      simp only [pyDs, a1, b1]
    · simp only [PyData.canLayAll0, a2, b2, Bool.and_self]
    · simp only [PyData.depthAll]
      omega
theorem eqT_mks {ms : List Mk} {S : Sto} {f p : Addr} (h1 : S f = some (.lst (ms.map Mk.d))) (h2 : S p = some (.lst (ms.map Mk.d))) : N.eqT S (.ref f) (.ref p) = some true := by
  obtain ⟨ps, e1, e2, e3⟩ := pyDs_mks ms
  have c' : PyData.canLay0 (.list ps) = true := by simp only [PyData.canLay0]; exact e2
  have h3 : SeqAt.shaped (.list ps) = true := by
    unfold SeqAt.shaped
    rw [c']
    simp [PyData.depth]
    omega
  unfold N.eqT
  simp only [N.pyT, h1, h2, e1, Option.map_some, h3, SeqAt.eqv_refl _ c', Bool.and_self, if_true]
theorem law_run {ns : List Int} {S : Sto} {Q : NQ} {E} {T : TgQ Q E} (h : ns.length ≤ 63) (k : ∀ S', Q (.bl true) S') : runF sp_law [.rol (ns.map D.int)] S Q E T := by
  have sl : (10000 : Nat) ≤ sizeLine := by decide
  have n2 : (0 : Int) < 2 := by decide
  have n3 : (0 : Int) < 3 := by decide
  have n30 : (0 : Int) < 30 := by decide
  have dv : DivOk (ns.length : Int) 16 := div_ok (by decide) (by decide)
  have pw : PowOk 10 12 := ⟨by decide, by decide, by decide⟩
  have pw2 : PowOk 10 6 := ⟨by decide, by decide, by decide⟩
  have pw3 : PowOk 10 9 := ⟨by decide, by decide, by decide⟩
  have e12 : (10 : Int) ^ (12 : Int).toNat = 1000000000000 := by decide
  have e6 : (10 : Int) ^ (6 : Int).toNat = 1000000 := by decide
  have e9 : (10 : Int) ^ (9 : Int).toNat = 1000000000 := by decide
  simp_arith! [sp_law, m_law]
  simp_arith []
  intro a ha b hb
  have ba : b ≠ a := fun z => by rw [z, put_same] at hb; cases hb
  have g1 : ∀ o o', put (put S a o) b o' a = some o := fun o o' => by rw [put_ne (Ne.symm ba), put_same]
  refine ⟨g1 _ _, by decide, ?_⟩
  rw [stD_mk]
  have L : LSt a b ns (put (put (put S a (.dic [])) b (.lst (ns.map D.int))) a (.dic (N.stD (ns.map D.int) b 0))) := ⟨Ne.symm ba, 0, ns, put_same, by rw [put_ne ba, put_same], rfl⟩
  generalize put (put (put S a (.dic [])) b (.lst (ns.map D.int))) a (.dic (N.stD (ns.map D.int) b 0)) = S1 at *
  simp_arith [pw, pw2, e12, e6]
  simp_all_arith [S1, p, hp, S2, gp, K2]
  have fp : p ∉ [a, b] := dr_free L hp
  simp_all_arith! [K2, L]
  refine nx_ok ⟨L, Upd.refl⟩ fun v S3 v0 v1 d => ?_
  have L := d.l
  have gp := d.u _ _ fp gp
  have m3 := mod_lt (i := v) n3
  obtain ⟨most, em, o1, o2⟩ : ∃ most : Int, atI ([.int 1000000000000, .int 1000, .int 1000000] : List D) (v % 3) = some (.int most) ∧ 1 ≤ most ∧ most ≤ 1000000000000 := by
    have c : v % 3 = 0 ∨ v % 3 = 1 ∨ v % 3 = 2 := by omega
    rcases c with e | e | e <;> rw [e]
    · exact ⟨_, rfl, by decide, by decide⟩
    · exact ⟨_, rfl, by decide, by decide⟩
    · exact ⟨_, rfl, by decide, by decide⟩
  simp_arith [n3, gp, em]
  refine marketZ_ok L o1 o2 (by decide) (by decide) fun wm wh ms hs S4 hwm hwh mh gm gh X h0 l5 _ L4 u4 => ?_
  have wfr : wm ∉ [a, b] := dr_free L hwm
  simp_arith []
  refine read_ok X fun g ps pk rs S5 er G g0 g1 g2 g3 K5 => ?_
  have fr := fp_fresh g0 g1 g2 g3
  have d1 : ∀ x ∈ fpM g ps pk rs, x ∉ [a, b] := fun x hx => dr_free L4 (fr x hx)
  have d3 : wm ∉ fpM g ps pk rs := fun z => by
    have := fr _ z
    rw [gm] at this; cases this
  simp_all_arith! [K5, gm, L4]
  have nd := X.nd
  rw [List.nodup_append] at nd
  have ndm : (rs.map (·.nm)).Nodup := by have := nd.1; rw [← er, List.map_map] at this; exact this
  have lrs : rs.length = ms.length := by rw [← er, List.length_map]
  have ml : rs.length ≤ 6 := by have := X.m6; omega
  have m0 : 1 ≤ rs.length := by
    have := List.length_pos_iff.mpr X.m0
    omega
  have okx : ∀ x ∈ rs, x.m.Ok := fun x hx => (X.mo x.two (by rw [← er]; exact List.mem_map.mpr ⟨x, hx, rfl⟩)).1
  simp_arith [gm]
  simp_all_arith [S5, pl, hpl, S6, gl, K6]
  have el : (maD ms).map (fun kv => kv.2) = (rs.map (·.m)).map Mk.d := by
    rw [← er]
    unfold maD
    rw [List.map_map, List.map_map, List.map_map]; rfl
  rw [el] at gl
  have plf : pl ∉ [a, b] := dr_free L4 hpl
  have plw : pl ≠ wm := fun z => by rw [z, gm] at hpl; cases hpl
  simp_all_arith! [K6, gm, L4, G]
  have I : In25 a b g ps pk pl ns rs hs S6 := ⟨G, L4, gl, d1, plf⟩
  clear G L4 gl
  simp_arith [List.length_map, dv]
  have q16 : 0 ≤ (ns.length : Int) / 16 := Int.ediv_nonneg (by omega) (by decide)
  refine ⟨by unfold RngOk; constructor <;> split <;> omega, ?_⟩
  refine runL_inv (fun e S' => ∃ x7 x8 x9 x10, e = [some (.rol (ns.map D.int)), some (.ref a), some (.str (mtext ms hs)), some (.ref wm), some (.ref wh), some (.ref g), some (.ref pl), x7, x8, x9, x10] ∧ In25 a b g ps pk pl ns rs hs S' ∧ S' wm = some (.dic (maD ms)))
    (fun e S h => trivial) (fun e S' h => ?_) ?_ (fun x hx e S' C h hC => ?_)
  · obtain ⟨x7, x8, x9, x10, rfl, I, gm⟩ := h
    simp_arith []
    refine lock_e gm ?_
    have gs : put S' wm (.lok (maD ms)) wm = some (.lok (maD ms)) := put_same
    have uk : Upd [wm] S' (put S' wm (.lok (maD ms))) := Upd.at (by simp)
    have G := I.G.upF uk fun x hx => by rw [List.mem_singleton.mp hx]; exact d3
    have gp := uk _ _ (by simpa using plw) I.p
    generalize put S' wm (.lok (maD ms)) = S8 at *
    simp_arith [gs]
    intro q hq
    have qw : wm ≠ q := fun z => by rw [z, hq] at gs; cases gs
    have pq : pl ≠ q := fun z => by rw [z, hq] at gp; cases gp
    have ek : (maD ms).map (fun kv => kD kv.1) = rs.map fun r : Mkr => D.str r.nm := by
      rw [← er]
      unfold maD
      rw [List.map_map, List.map_map]; rfl
    refine runC_keepM (fun r : Mkr => .str r.nm) (fun r : Mkr => r.m.d) ek hq (fun _ _ => trivial) (by omega) (fun r hr S9 Y NN K hY => ?_) fun S9 K9 g9 => ?_
    · have G := G.keep K
      have gi := G.ins
      have M := G.mks r hr
      simp_arith [gi, mfl_no (f := "maker") (by decide), mtm_maker]
      refine maker_at G ndm hr ?_
      simp_arith [M.ins, mt_plain]
      rw [get_plain_ok M]
      simp_arith [mFs_no (m := r.m) (q := r.q) (f := "plain") (by decide)]
      exact hY _ Upd.refl
    · have gp := K9 _ _ (by simp) gp
      have e9 : (rs.map fun r : Mkr => r.m.d) = (rs.map (·.m)).map Mk.d := by rw [List.map_map]; rfl
      rw [e9] at g9
      have h1 : put S9 wm (.dic (maD ms)) q = some (.lst ((rs.map (·.m)).map Mk.d)) := by rw [put_ne (Ne.symm qw)]; exact g9
      have h2 : put S9 wm (.dic (maD ms)) pl = some (.lst ((rs.map (·.m)).map Mk.d)) := by rw [put_ne plw]; exact gp
      simp_arith [eqT_mks h1 h2]
      exact k _
  · exact ⟨_, _, _, _, rfl, I, gm⟩
  · obtain ⟨x7, x8, x9, x10, rfl, I, gm⟩ := h
    simp_arith []
    refine nx_ok ⟨I.l, Upd.refl⟩ fun v S7 v0 v1 d7 => ?_
    have I := I.dr d7
    have gm := d7.u _ _ wfr gm
    have sd : Sd (v % 2) := by unfold Sd; omega
    simp_arith [n2, pw, pw3, e12, e9]
    generalize v % 2 = i at *
    simp_all_arith [S7, p8, hp8, S8, g8, K8]
    have f8 : p8 ∉ [a, b] := dr_free I.l hp8
    have I := I.keep K8
    simp_all_arith! [K8, gm]
    refine nx_ok ⟨I.l, Upd.refl⟩ fun v2 S9 v20 v21 d9 => ?_
    have I := I.dr d9
    have gm := d9.u _ _ wfr gm
    have g8 := d9.u _ _ f8 g8
    have m3 := mod_lt (i := v2) n3
    obtain ⟨top, em, o1, o2⟩ : ∃ top : Int, atI ([.int 1000000000000, .int 100, .int 1000000000] : List D) (v2 % 3) = some (.int top) ∧ 0 ≤ top ∧ top ≤ 1000000000000 := by
      have c : v2 % 3 = 0 ∨ v2 % 3 = 1 ∨ v2 % 3 = 2 := by omega
      rcases c with e | e | e <;> rw [e]
      · exact ⟨_, rfl, by decide, by decide⟩
      · exact ⟨_, rfl, by decide, by decide⟩
      · exact ⟨_, rfl, by decide, by decide⟩
    simp_arith [n3, g8, em]
    refine great_ok o1 ⟨I.l, Upd.refl⟩ fun z S10 z0 z1 d10 => ?_
    have I := I.dr d10
    have gm := d10.u _ _ wfr gm
    simp_arith []
    refine nx_ok ⟨I.l, Upd.refl⟩ fun v3 S11 v30 v31 d11 => ?_
    have I := I.dr d11
    have gm := d11.u _ _ wfr gm
    have m30 := mod_lt (i := v3) n30
    obtain ⟨n, en⟩ : ∃ n : Nat, 1 + v3 % 30 = (n : Int) := ⟨(1 + v3 % 30).toNat, by omega⟩
    simp_arith [n30, en]
    refine one_good_ok I ndm ml m0 okx sd (by omega) (by omega) (by omega) (by omega) fun S12 I d12 => ?_
    have gm := d12.u _ _ wfr gm
    simp_arith [Bool.not_true]
    exact hC _ _ ⟨_, _, _, _, rfl, I, gm⟩
theorem law_ok (ns : List Int) (h : ns.length ≤ 63) : sp_law [.rol (ns.map D.int)] (fun _ => Option.none) (fun d _ => d = .bl true) (fun _ _ _ => False) :=
  law_run (Q := fun d _ => d = .bl true) (E := fun _ _ _ => False) (T := {}) h fun _ => rfl

end K25

set_option Elab.async false
set_option linter.all false
set_option maxRecDepth 100000
set_option maxHeartbeats 0
namespace K25
open PySem PySem.Spec PyProof.Rows L2 N
/-! ### the head -/
def fa : List He.Fa := ([.free "all", .free "bool", .free "enumerate", .free "int", .free "isinstance", .free "len", .free "list", .free "max", .free "min", .free "range"] : List He.Fa) ++ ([.free "str", .free "sum", .free "tuple", .free "zip", .glo "BadCount", .exc "BadCount", .glo "BadMaker", .exc "BadMaker", .glo "BadWare", .exc "BadWare"] : List He.Fa) ++ ([.str "FIGURES" "0123456789", .int "MOST" 1000000000000, .int "MOST_BOTTOM" 10000, .int "MOST_FIGURES" 13, .int "MOST_GRAINS" 1000000000000, .int "MOST_HANDS" 6, .int "MOST_LOTS" 30, .int "MOST_MAKERS" 6, .int "MOST_RATE" 1000000, .int "MOST_SIGNS" 8] : List He.Fa) ++ ([.glo "Market", .glo "MartError", .glo "NoName", .exc "NoName", .glo "NoParting", .exc "NoParting", .glo "NoText", .glo "Product", .glo "SIZES", .str "SMALL" "abcdefghijklmnopqrstuvwxyz"] : List He.Fa) ++ ([.glo "Stretch", .glo "Sum", .glo "TooLittle", .exc "TooLittle", .glo "TooMuch", .exc "TooMuch", .glo "WARES", .glo "_law_best", .glo "_law_come", .glo "_law_comes"] : List He.Fa) ++ ([.glo "_law_due_of", .glo "_law_great", .glo "_law_market", .glo "_law_mixed", .glo "_law_next", .glo "_law_one_good", .glo "_law_others", .glo "_law_plain", .glo "_law_row", .glo "best"] : List He.Fa) ++ ([.glo "best_from", .glo "best_with", .glo "come_of", .glo "due_in", .glo "gets", .glo "hand_row", .glo "is_among", .glo "is_due", .glo "is_name", .glo "is_number"] : List He.Fa) ++ ([.glo "is_pair", .glo "is_plain", .glo "is_put", .glo "is_whole", .glo "law", .glo "made_or_none", .glo "maker_of", .glo "maker_row", .glo "need_count", .glo "need_ware"] : List He.Fa) ++ ([.glo "number_in", .glo "plain_in", .glo "product_coming", .glo "product_wanted", .glo "put_hand", .glo "put_maker", .glo "read", .glo "rounded_up", .glo "rows_of", .glo "told_or_none"] : List He.Fa) ++ ([.mkr "Market", .mkr "Product", .mkr "Stretch", .mkr "Sum", .meth "Product" "called", .meth "Stretch" "called", .meth "Sum" "called", .meth "Product" "coming", .meth "Stretch" "coming", .meth "Sum" "coming"] : List He.Fa) ++ ([.meth "Product" "haves", .meth "Stretch" "haves", .meth "Sum" "haves", .meth "Product" "is_dealt", .meth "Stretch" "is_dealt", .meth "Sum" "is_dealt", .meth "Product" "plain", .meth "Stretch" "plain", .meth "Sum" "plain", .meth "Stretch" "propped"] : List He.Fa) ++ ([.meth "Product" "told", .meth "Stretch" "told", .meth "Sum" "told", .meth "Market" "maker", .meth "Market" "names"] : List He.Fa)
def fnl : List He.DefD := ([⟨("NoText", some "__init__"), "__init__", "NoText.__init__", defArgs s_NoText_init, defBody s_NoText_init, defScope s_NoText_init, [], []⟩, ⟨("_law_mixed", none), "_law_mixed", "_law_mixed", defArgs s__law_mixed, defBody s__law_mixed, defScope s__law_mixed, [], []⟩, ⟨("_law_next", none), "_law_next", "_law_next", defArgs s__law_next, defBody s__law_next, defScope s__law_next, [], []⟩, ⟨("_law_great", none), "_law_great", "_law_great", defArgs s__law_great, defBody s__law_great, defScope s__law_great, [], []⟩, ⟨("_law_due_of", none), "_law_due_of", "_law_due_of", defArgs s__law_due_of, defBody s__law_due_of, defScope s__law_due_of, [], []⟩, ⟨("_law_plain", none), "_law_plain", "_law_plain", defArgs s__law_plain, defBody s__law_plain, defScope s__law_plain, [], []⟩] : List He.DefD) ++ ([⟨("_law_row", none), "_law_row", "_law_row", defArgs s__law_row, defBody s__law_row, defScope s__law_row, [], []⟩, ⟨("_law_market", none), "_law_market", "_law_market", defArgs s__law_market, defBody s__law_market, defScope s__law_market, [], []⟩, ⟨("best_with", none), "best_with", "best_with", defArgs s_best_with, defBody s_best_with, defScope s_best_with, [], []⟩, ⟨("best_from", none), "best_from", "best_from", defArgs s_best_from, defBody s_best_from, defScope s_best_from, [], []⟩, ⟨("is_number", none), "is_number", "is_number", defArgs s_is_number, defBody s_is_number, defScope s_is_number, [], []⟩, ⟨("is_whole", none), "is_whole", "is_whole", defArgs s_is_whole, defBody s_is_whole, defScope s_is_whole, [], []⟩] : List He.DefD) ++ ([⟨("need_count", none), "need_count", "need_count", defArgs s_need_count, defBody s_need_count, defScope s_need_count, [], []⟩, ⟨("need_ware", none), "need_ware", "need_ware", defArgs s_need_ware, defBody s_need_ware, defScope s_need_ware, [], []⟩, ⟨("product_coming", none), "product_coming", "product_coming", defArgs s_product_coming, defBody s_product_coming, defScope s_product_coming, [], []⟩, ⟨("come_of", none), "come_of", "come_of", defArgs s_come_of, defBody s_come_of, defScope s_come_of, [], []⟩, ⟨("rows_of", none), "rows_of", "rows_of", defArgs s_rows_of, defBody s_rows_of, defScope s_rows_of, [], []⟩, ⟨("best", none), "best", "best", defArgs s_best, defBody s_best, defScope s_best, [], []⟩] : List He.DefD) ++ ([⟨("_law_best", none), "_law_best", "_law_best", defArgs s__law_best, defBody s__law_best, defScope s__law_best, [], []⟩, ⟨("_law_comes", none), "_law_comes", "_law_comes", defArgs s__law_comes, defBody s__law_comes, defScope s__law_comes, [], []⟩, ⟨("_law_come", none), "_law_come", "_law_come", defArgs s__law_come, defBody s__law_come, defScope s__law_come, [], []⟩, ⟨("_law_others", none), "_law_others", "_law_others", defArgs s__law_others, defBody s__law_others, defScope s__law_others, [], []⟩, ⟨("gets", none), "gets", "gets", defArgs s_gets, defBody s_gets, defScope s_gets, [], []⟩, ⟨("_law_one_good", none), "_law_one_good", "_law_one_good", defArgs s__law_one_good, defBody s__law_one_good, defScope s__law_one_good, [], []⟩] : List He.DefD) ++ ([⟨("is_name", none), "is_name", "is_name", defArgs s_is_name, defBody s_is_name, defScope s_is_name, [], []⟩, ⟨("number_in", none), "number_in", "number_in", defArgs s_number_in, defBody s_number_in, defScope s_number_in, [], []⟩, ⟨("put_hand", none), "put_hand", "put_hand", defArgs s_put_hand, defBody s_put_hand, defScope s_put_hand, [], []⟩, ⟨("is_among", none), "is_among", "is_among", defArgs s_is_among, defBody s_is_among, defScope s_is_among, [], []⟩, ⟨("is_pair", none), "is_pair", "is_pair", defArgs s_is_pair, defBody s_is_pair, defScope s_is_pair, [], []⟩, ⟨("is_due", none), "is_due", "is_due", defArgs s_is_due, defBody s_is_due, defScope s_is_due, [], []⟩] : List He.DefD) ++ ([⟨("is_plain", none), "is_plain", "is_plain", defArgs s_is_plain, defBody s_is_plain, defScope s_is_plain, [], []⟩, ⟨("maker_of", none), "maker_of", "maker_of", defArgs s_maker_of, defBody s_maker_of, defScope s_maker_of, [], []⟩, ⟨("made_or_none", none), "made_or_none", "made_or_none", defArgs s_made_or_none, defBody s_made_or_none, defScope s_made_or_none, [], []⟩, ⟨("due_in", none), "due_in", "due_in", defArgs s_due_in, defBody s_due_in, defScope s_due_in, [], []⟩, ⟨("plain_in", none), "plain_in", "plain_in", defArgs s_plain_in, defBody s_plain_in, defScope s_plain_in, [], []⟩, ⟨("put_maker", none), "put_maker", "put_maker", defArgs s_put_maker, defBody s_put_maker, defScope s_put_maker, [], []⟩] : List He.DefD) ++ ([⟨("is_put", none), "is_put", "is_put", defArgs s_is_put, defBody s_is_put, defScope s_is_put, [], []⟩, ⟨("read", none), "read", "read", defArgs s_read, defBody s_read, defScope s_read, [], []⟩, ⟨("law", none), "law", "law", defArgs s_law, defBody s_law, defScope s_law, [], []⟩, ⟨("Market", some "__init__"), "__init__", "Market.__init__", defArgs s_Market___init__, defBody s_Market___init__, defScope s_Market___init__, [], []⟩, ⟨("Product", some "__init__"), "__init__", "Maker.__init__", defArgs s_Maker___init__, defBody s_Maker___init__, defScope s_Maker___init__, [], []⟩, ⟨("Stretch", some "__init__"), "__init__", "Maker.__init__", defArgs s_Maker___init__, defBody s_Maker___init__, defScope s_Maker___init__, [], []⟩] : List He.DefD) ++ ([⟨("Sum", some "__init__"), "__init__", "Maker.__init__", defArgs s_Maker___init__, defBody s_Maker___init__, defScope s_Maker___init__, [], []⟩, ⟨("Product", some "called"), "called", "Maker.called", defArgs s_Maker_called, defBody s_Maker_called, defScope s_Maker_called, [], []⟩, ⟨("Stretch", some "called"), "called", "Stretch.called", defArgs s_Stretch_called, defBody s_Stretch_called, defScope s_Stretch_called, [], []⟩, ⟨("Sum", some "called"), "called", "Sum.called", defArgs s_Sum_called, defBody s_Sum_called, defScope s_Sum_called, [], []⟩, ⟨("Product", some "coming"), "coming", "Product.coming", defArgs s_Product_coming, defBody s_Product_coming, defScope s_Product_coming, [], []⟩, ⟨("Stretch", some "coming"), "coming", "Stretch.coming", defArgs s_Stretch_coming, defBody s_Stretch_coming, defScope s_Stretch_coming, [], []⟩] : List He.DefD) ++ ([⟨("Sum", some "coming"), "coming", "Sum.coming", defArgs s_Sum_coming, defBody s_Sum_coming, defScope s_Sum_coming, [], []⟩, ⟨("Product", some "haves"), "haves", "Maker.haves", defArgs s_Maker_haves, defBody s_Maker_haves, defScope s_Maker_haves, [], []⟩, ⟨("Stretch", some "haves"), "haves", "Maker.haves", defArgs s_Maker_haves, defBody s_Maker_haves, defScope s_Maker_haves, [], []⟩, ⟨("Sum", some "haves"), "haves", "Maker.haves", defArgs s_Maker_haves, defBody s_Maker_haves, defScope s_Maker_haves, [], []⟩, ⟨("Product", some "is_dealt"), "is_dealt", "Maker.is_dealt", defArgs s_Maker_is_dealt, defBody s_Maker_is_dealt, defScope s_Maker_is_dealt, [], []⟩, ⟨("Stretch", some "is_dealt"), "is_dealt", "Maker.is_dealt", defArgs s_Maker_is_dealt, defBody s_Maker_is_dealt, defScope s_Maker_is_dealt, [], []⟩] : List He.DefD) ++ ([⟨("Sum", some "is_dealt"), "is_dealt", "Maker.is_dealt", defArgs s_Maker_is_dealt, defBody s_Maker_is_dealt, defScope s_Maker_is_dealt, [], []⟩, ⟨("Product", some "plain"), "plain", "Maker.plain", defArgs s_Maker_plain, defBody s_Maker_plain, defScope s_Maker_plain, [], []⟩, ⟨("Stretch", some "plain"), "plain", "Maker.plain", defArgs s_Maker_plain, defBody s_Maker_plain, defScope s_Maker_plain, [], []⟩, ⟨("Sum", some "plain"), "plain", "Maker.plain", defArgs s_Maker_plain, defBody s_Maker_plain, defScope s_Maker_plain, [], []⟩, ⟨("Stretch", some "propped"), "propped", "Stretch.propped", defArgs s_Stretch_propped, defBody s_Stretch_propped, defScope s_Stretch_propped, [], []⟩, ⟨("Product", some "told"), "told", "Maker.told", defArgs s_Maker_told, defBody s_Maker_told, defScope s_Maker_told, [], []⟩] : List He.DefD) ++ ([⟨("Stretch", some "told"), "told", "Maker.told", defArgs s_Maker_told, defBody s_Maker_told, defScope s_Maker_told, [], []⟩, ⟨("Sum", some "told"), "told", "Maker.told", defArgs s_Maker_told, defBody s_Maker_told, defScope s_Maker_told, [], []⟩, ⟨("Market", some "maker"), "maker", "Market.maker", defArgs s_Market_maker, defBody s_Market_maker, defScope s_Market_maker, [], []⟩, ⟨("Market", some "names"), "names", "Market.names", defArgs s_Market_names, defBody s_Market_names, defScope s_Market_names, [], []⟩] : List He.DefD)
def ex (K : PySem.W.Frag) : Bool := (kfW CL K && kiW IC K) && (tupW K "WARES" c_WARES && (tabV K (He.ga K "SIZES") c_SIZES && (oexW K "NoText" "line" && (clsW K "Market" && (clsW K "Product" && (clsW K "Stretch" && (clsW K "Sum" && true)))))))
def names : List Str := (["_wall", "MartError", "BadMaker", "BadWare", "BadCount", "TooMuch", "NoText", "NoName", "TooLittle", "NoParting", "WARES", "MOST"] : List Str) ++ (["MOST_BOTTOM", "MOST_RATE", "is_whole", "is_among", "is_pair", "is_due", "need_ware", "need_count", "rounded_up", "product_coming", "product_wanted", "Maker"] : List Str) ++ (["Product", "Stretch", "Sum", "is_plain", "maker_of", "MOST_LOTS", "is_number", "come_of", "rows_of", "best_from", "best_with", "best"] : List Str) ++ (["gets", "SMALL", "FIGURES", "MOST_SIGNS", "MOST_FIGURES", "MOST_GRAINS", "MOST_MAKERS", "MOST_HANDS", "SIZES", "Market", "told_or_none", "maker_row"] : List Str) ++ (["hand_row", "is_name", "number_in", "due_in", "plain_in", "made_or_none", "put_maker", "put_hand", "is_put", "read", "_law_cell_at", "_law_mixed"] : List Str) ++ (["_law_next", "_law_great", "_law_due_of", "_law_plain", "_law_comes", "_law_dealt", "_law_row", "_law_market", "_law_come", "_law_others", "_law_best", "_law_one_good"] : List Str)
abbrev R : PySem.W.OpenRow := PySem.W.OpenLaw.row PySem.Challenge.rw_rumourmart_k25_whole_partings_move_no_be
def tbl : List (Str × List Str) := [("SIZES", c_SIZES.map (·.1))]
abbrev hk : PySem.W.Hook := hookM 6 fa fnl ex tbl
def ob (s : PySem.W.SharedT) : AlM := obsM 6 fa fnl ex tbl (HandSHeadRun.getT s)
theorem ob_eq (s : PySem.W.SharedT) : ob s = hk.obs s.abs := obsM_eq (HandSHeadRun.getT_eq s)
def kq (s : PySem.W.SharedT) : PySem.W.Frag := He.frG (HandSHeadRun.getT s) (asN (HandSHeadRun.getT s) 6)
def pD (w : World) : Prop := ∀ os : OsState, ((HandSHeadRun.endF (HandSHeadRun.stepQ (HandSHeadRun.denQ HandSHeadRun.tabQ) R.prog w) 20000 R.prog w os).map fun s => (HandSHeadRun.looksF R.prog (PySem.W.boot_heap w.params) s.abs, HandSHeadRun.seenQ (PySem.W.view R.prog [77]) names (importedModules R.prog.main.body) (fun s => PySem.W.xlAt (PySem.W.view R.prog [77]) [] s && PySem.W.recOk R.toRowW.records s) s.abs)) = some (true, PySem.W.openGood (PySem.W.view R.prog [77]) names)
def pE (w : World) : Prop := ∀ os : OsState, ((HandSHeadRun.endF (HandSHeadRun.stepQ (HandSHeadRun.denQ HandSHeadRun.tabQ) R.prog w) 20000 R.prog w os).map fun s => ((ex (kq s) && ((fa.all fun f => f.ok (kq s)) && fnl.all fun d => d.ok (kq s)), fnl.map fun d => He.fnW (kq s) d.at_), tbl.map fun t => He.dicW (kq s) (He.ga (kq s) t.1))) = some ((true, fnl.map He.DefD.val), tbl.map fun t => some (He.keysIn w.params t.2))
theorem runD0 (w : World) : pD (w.withFollow "special-get-raises" false) := by
  intro os
  kernel_rfl
theorem runD1 (w : World) : pD (w.withFollow "special-get-raises" true) := by
  intro os
  kernel_rfl
theorem runE0 (w : World) : pE (w.withFollow "special-get-raises" false) := by
  intro os
  kernel_rfl
theorem runE1 (w : World) : pE (w.withFollow "special-get-raises" true) := by
  intro os
  kernel_rfl
theorem run (w : World) : HandSHeadRun.RunEq R (PySem.W.view R.prog [77]) hk ob 20000 names w := runEq_ofM (fun _ => rfl) (fun _ => rfl) (PySem.W.byRow2 "special-get-raises" (P := pD) runD0 runD1 w) (PySem.W.byRow2 "special-get-raises" (P := pE) runE0 runE1 w)
theorem txt [TabList] {K : PySem.W.Frag} {h : Heap} {mg : Str → Option Value} (X : K.In h) (G : h.Ns mainGlobals mg) (c : He.SaysD fa fnl K) (e : ex K = true) {w : World} (tt : (tbl.map fun t => He.dicW K (He.ga K t.1)) = tbl.map fun t => some (He.keysIn w.params t.2)) : Txt w K mg := by
  obtain ⟨e0, e⟩ := He.ba e
  obtain ⟨e1, e⟩ := He.ba e
  obtain ⟨e2, e⟩ := He.ba e
  obtain ⟨e3, e⟩ := He.ba e
  obtain ⟨e4, e⟩ := He.ba e
  obtain ⟨e5, e⟩ := He.ba e
  obtain ⟨e6, e⟩ := He.ba e
  obtain ⟨e7, e⟩ := He.ba e
  obtain ⟨e0, ei⟩ := He.ba e0
  refine ⟨kfW_ok e0, kxW_ok e0, kiW_ok ei, ?_, ?_, ?_, ?_, ?_, ?_, ?_, ?_, ?_, ?_, ?_, ?_, ?_, ?_, ?_, ?_, ?_, ?_, ?_, ?_, ?_, ?_, ?_, ?_, ?_, ?_, ?_, ?_, ?_, ?_, ?_, ?_, ?_, ?_, ?_, ?_, ?_, ?_, ?_, ?_, ?_, ?_, ?_, ?_, ?_, ?_, ?_, ?_, ?_, ?_, ?_, ?_, ?_, ?_, ?_, ?_, ?_, ?_, ?_, ?_, ?_, ?_, ?_, ?_, ?_, ?_, ?_, ?_, ?_, ?_, ?_, ?_, ?_, ?_, ?_, ?_, ?_, ?_, ?_, ?_, ?_, ?_, ?_, ?_, ?_, ?_, ?_, ?_, ?_, ?_, ?_, ?_, ?_, ?_, ?_, ?_, ?_, ?_, ?_, ?_, ?_, ?_, ?_, ?_, ?_, ?_, ?_, ?_, ?_, ?_, ?_, ?_, ?_, ?_, ?_, ?_, ?_, ?_, ?_, ?_, ?_, ?_, ?_, ?_, ?_, ?_, ?_, ?_, ?_, ?_, ?_, ?_, ?_, ?_, ?_, ?_, ?_, ?_, ?_, ?_, ?_, ?_, ?_, ?_, ?_, ?_, ?_, ?_, ?_, ?_, ?_, ?_, ?_, ?_, ?_, ?_, ?_, ?_, ?_, ?_, ?_, ?_, ?_, ?_, ?_, ?_, ?_, ?_, ?_, ?_, ?_, ?_, ?_, ?_, ?_, ?_, ?_, ?_, ?_, ?_, ?_, ?_, ?_, ?_, ?_, ?_⟩
  · exact He.free_ok X G (c.fact 0 (f := .free "all") rfl)
  · exact He.free_ok X G (c.fact 1 (f := .free "bool") rfl)
  · exact He.free_ok X G (c.fact 2 (f := .free "enumerate") rfl)
  · exact He.free_ok X G (c.fact 3 (f := .free "int") rfl)
  · exact He.free_ok X G (c.fact 4 (f := .free "isinstance") rfl)
  · exact He.free_ok X G (c.fact 5 (f := .free "len") rfl)
  · exact He.free_ok X G (c.fact 6 (f := .free "list") rfl)
  · exact He.free_ok X G (c.fact 7 (f := .free "max") rfl)
  · exact He.free_ok X G (c.fact 8 (f := .free "min") rfl)
  · exact He.free_ok X G (c.fact 9 (f := .free "range") rfl)
  · exact He.free_ok X G (c.fact 10 (f := .free "str") rfl)
  · exact He.free_ok X G (c.fact 11 (f := .free "sum") rfl)
  · exact He.free_ok X G (c.fact 12 (f := .free "tuple") rfl)
  · exact He.free_ok X G (c.fact 13 (f := .free "zip") rfl)
  · exact He.glo_ok X G (c.fact 14 (f := .glo "BadCount") rfl)
  · exact c.fact 15 (f := .exc "BadCount") rfl
  · exact He.glo_ok X G (c.fact 16 (f := .glo "BadMaker") rfl)
  · exact c.fact 17 (f := .exc "BadMaker") rfl
  · exact He.glo_ok X G (c.fact 18 (f := .glo "BadWare") rfl)
  · exact c.fact 19 (f := .exc "BadWare") rfl
  · exact He.str_ok X G (c.fact 20 (f := .str "FIGURES" "0123456789") rfl)
  · exact He.int_ok X G (c.fact 21 (f := .int "MOST" 1000000000000) rfl)
  · exact He.int_ok X G (c.fact 22 (f := .int "MOST_BOTTOM" 10000) rfl)
  · exact He.int_ok X G (c.fact 23 (f := .int "MOST_FIGURES" 13) rfl)
  · exact He.int_ok X G (c.fact 24 (f := .int "MOST_GRAINS" 1000000000000) rfl)
  · exact He.int_ok X G (c.fact 25 (f := .int "MOST_HANDS" 6) rfl)
  · exact He.int_ok X G (c.fact 26 (f := .int "MOST_LOTS" 30) rfl)
  · exact He.int_ok X G (c.fact 27 (f := .int "MOST_MAKERS" 6) rfl)
  · exact He.int_ok X G (c.fact 28 (f := .int "MOST_RATE" 1000000) rfl)
  · exact He.int_ok X G (c.fact 29 (f := .int "MOST_SIGNS" 8) rfl)
  · exact He.glo_ok X G (c.fact 30 (f := .glo "Market") rfl)
  · exact He.glo_ok X G (c.fact 31 (f := .glo "MartError") rfl)
  · exact He.glo_ok X G (c.fact 32 (f := .glo "NoName") rfl)
  · exact c.fact 33 (f := .exc "NoName") rfl
  · exact He.glo_ok X G (c.fact 34 (f := .glo "NoParting") rfl)
  · exact c.fact 35 (f := .exc "NoParting") rfl
  · exact He.glo_ok X G (c.fact 36 (f := .glo "NoText") rfl)
  · exact He.glo_ok X G (c.fact 37 (f := .glo "Product") rfl)
  · exact He.glo_ok X G (c.fact 38 (f := .glo "SIZES") rfl)
  · exact He.str_ok X G (c.fact 39 (f := .str "SMALL" "abcdefghijklmnopqrstuvwxyz") rfl)
  · exact He.glo_ok X G (c.fact 40 (f := .glo "Stretch") rfl)
  · exact He.glo_ok X G (c.fact 41 (f := .glo "Sum") rfl)
  · exact He.glo_ok X G (c.fact 42 (f := .glo "TooLittle") rfl)
  · exact c.fact 43 (f := .exc "TooLittle") rfl
  · exact He.glo_ok X G (c.fact 44 (f := .glo "TooMuch") rfl)
  · exact c.fact 45 (f := .exc "TooMuch") rfl
  · exact tupW_ok e1
  · exact He.glo_ok X G (c.fact 46 (f := .glo "WARES") rfl)
  · exact He.glo_ok X G (c.fact 47 (f := .glo "_law_best") rfl)
  · exact He.glo_ok X G (c.fact 48 (f := .glo "_law_come") rfl)
  · exact He.glo_ok X G (c.fact 49 (f := .glo "_law_comes") rfl)
  · exact He.glo_ok X G (c.fact 50 (f := .glo "_law_due_of") rfl)
  · exact He.glo_ok X G (c.fact 51 (f := .glo "_law_great") rfl)
  · exact He.glo_ok X G (c.fact 52 (f := .glo "_law_market") rfl)
  · exact He.glo_ok X G (c.fact 53 (f := .glo "_law_mixed") rfl)
  · exact He.glo_ok X G (c.fact 54 (f := .glo "_law_next") rfl)
  · exact He.glo_ok X G (c.fact 55 (f := .glo "_law_one_good") rfl)
  · exact He.glo_ok X G (c.fact 56 (f := .glo "_law_others") rfl)
  · exact He.glo_ok X G (c.fact 57 (f := .glo "_law_plain") rfl)
  · exact He.glo_ok X G (c.fact 58 (f := .glo "_law_row") rfl)
  · exact He.glo_ok X G (c.fact 59 (f := .glo "best") rfl)
  · exact He.glo_ok X G (c.fact 60 (f := .glo "best_from") rfl)
  · exact He.glo_ok X G (c.fact 61 (f := .glo "best_with") rfl)
  · exact He.glo_ok X G (c.fact 62 (f := .glo "come_of") rfl)
  · exact He.glo_ok X G (c.fact 63 (f := .glo "due_in") rfl)
  · exact He.glo_ok X G (c.fact 64 (f := .glo "gets") rfl)
  · exact He.glo_ok X G (c.fact 65 (f := .glo "hand_row") rfl)
  · exact He.glo_ok X G (c.fact 66 (f := .glo "is_among") rfl)
  · exact He.glo_ok X G (c.fact 67 (f := .glo "is_due") rfl)
  · exact He.glo_ok X G (c.fact 68 (f := .glo "is_name") rfl)
  · exact He.glo_ok X G (c.fact 69 (f := .glo "is_number") rfl)
  · exact He.glo_ok X G (c.fact 70 (f := .glo "is_pair") rfl)
  · exact He.glo_ok X G (c.fact 71 (f := .glo "is_plain") rfl)
  · exact He.glo_ok X G (c.fact 72 (f := .glo "is_put") rfl)
  · exact He.glo_ok X G (c.fact 73 (f := .glo "is_whole") rfl)
  · exact He.glo_ok X G (c.fact 74 (f := .glo "law") rfl)
  · exact He.glo_ok X G (c.fact 75 (f := .glo "made_or_none") rfl)
  · exact He.glo_ok X G (c.fact 76 (f := .glo "maker_of") rfl)
  · exact He.glo_ok X G (c.fact 77 (f := .glo "maker_row") rfl)
  · exact He.glo_ok X G (c.fact 78 (f := .glo "need_count") rfl)
  · exact He.glo_ok X G (c.fact 79 (f := .glo "need_ware") rfl)
  · exact He.glo_ok X G (c.fact 80 (f := .glo "number_in") rfl)
  · exact He.glo_ok X G (c.fact 81 (f := .glo "plain_in") rfl)
  · exact He.glo_ok X G (c.fact 82 (f := .glo "product_coming") rfl)
  · exact He.glo_ok X G (c.fact 83 (f := .glo "product_wanted") rfl)
  · exact He.glo_ok X G (c.fact 84 (f := .glo "put_hand") rfl)
  · exact He.glo_ok X G (c.fact 85 (f := .glo "put_maker") rfl)
  · exact He.glo_ok X G (c.fact 86 (f := .glo "read") rfl)
  · exact He.glo_ok X G (c.fact 87 (f := .glo "rounded_up") rfl)
  · exact He.glo_ok X G (c.fact 88 (f := .glo "rows_of") rfl)
  · exact He.glo_ok X G (c.fact 89 (f := .glo "told_or_none") rfl)
  · exact tabN_of (tab_at tt 0 rfl) e2
  · exact oexW_ok e3
  · exact c.def_ 0 (d := ⟨("NoText", some "__init__"), "__init__", "NoText.__init__", defArgs s_NoText_init, defBody s_NoText_init, defScope s_NoText_init, [], []⟩) rfl
  · exact c.def_ 1 (d := ⟨("_law_mixed", none), "_law_mixed", "_law_mixed", defArgs s__law_mixed, defBody s__law_mixed, defScope s__law_mixed, [], []⟩) rfl
  · exact c.def_ 2 (d := ⟨("_law_next", none), "_law_next", "_law_next", defArgs s__law_next, defBody s__law_next, defScope s__law_next, [], []⟩) rfl
  · exact c.def_ 3 (d := ⟨("_law_great", none), "_law_great", "_law_great", defArgs s__law_great, defBody s__law_great, defScope s__law_great, [], []⟩) rfl
  · exact c.def_ 4 (d := ⟨("_law_due_of", none), "_law_due_of", "_law_due_of", defArgs s__law_due_of, defBody s__law_due_of, defScope s__law_due_of, [], []⟩) rfl
  · exact c.def_ 5 (d := ⟨("_law_plain", none), "_law_plain", "_law_plain", defArgs s__law_plain, defBody s__law_plain, defScope s__law_plain, [], []⟩) rfl
  · exact c.def_ 6 (d := ⟨("_law_row", none), "_law_row", "_law_row", defArgs s__law_row, defBody s__law_row, defScope s__law_row, [], []⟩) rfl
  · exact c.def_ 7 (d := ⟨("_law_market", none), "_law_market", "_law_market", defArgs s__law_market, defBody s__law_market, defScope s__law_market, [], []⟩) rfl
  · exact c.def_ 8 (d := ⟨("best_with", none), "best_with", "best_with", defArgs s_best_with, defBody s_best_with, defScope s_best_with, [], []⟩) rfl
  · exact c.def_ 9 (d := ⟨("best_from", none), "best_from", "best_from", defArgs s_best_from, defBody s_best_from, defScope s_best_from, [], []⟩) rfl
  · exact c.def_ 10 (d := ⟨("is_number", none), "is_number", "is_number", defArgs s_is_number, defBody s_is_number, defScope s_is_number, [], []⟩) rfl
  · exact c.def_ 11 (d := ⟨("is_whole", none), "is_whole", "is_whole", defArgs s_is_whole, defBody s_is_whole, defScope s_is_whole, [], []⟩) rfl
  · exact c.def_ 12 (d := ⟨("need_count", none), "need_count", "need_count", defArgs s_need_count, defBody s_need_count, defScope s_need_count, [], []⟩) rfl
  · exact c.def_ 13 (d := ⟨("need_ware", none), "need_ware", "need_ware", defArgs s_need_ware, defBody s_need_ware, defScope s_need_ware, [], []⟩) rfl
  · exact c.def_ 14 (d := ⟨("product_coming", none), "product_coming", "product_coming", defArgs s_product_coming, defBody s_product_coming, defScope s_product_coming, [], []⟩) rfl
  · exact c.def_ 15 (d := ⟨("come_of", none), "come_of", "come_of", defArgs s_come_of, defBody s_come_of, defScope s_come_of, [], []⟩) rfl
  · exact c.def_ 16 (d := ⟨("rows_of", none), "rows_of", "rows_of", defArgs s_rows_of, defBody s_rows_of, defScope s_rows_of, [], []⟩) rfl
  · exact c.def_ 17 (d := ⟨("best", none), "best", "best", defArgs s_best, defBody s_best, defScope s_best, [], []⟩) rfl
  · exact c.def_ 18 (d := ⟨("_law_best", none), "_law_best", "_law_best", defArgs s__law_best, defBody s__law_best, defScope s__law_best, [], []⟩) rfl
  · exact c.def_ 19 (d := ⟨("_law_comes", none), "_law_comes", "_law_comes", defArgs s__law_comes, defBody s__law_comes, defScope s__law_comes, [], []⟩) rfl
  · exact c.def_ 20 (d := ⟨("_law_come", none), "_law_come", "_law_come", defArgs s__law_come, defBody s__law_come, defScope s__law_come, [], []⟩) rfl
  · exact c.def_ 21 (d := ⟨("_law_others", none), "_law_others", "_law_others", defArgs s__law_others, defBody s__law_others, defScope s__law_others, [], []⟩) rfl
  · exact c.def_ 22 (d := ⟨("gets", none), "gets", "gets", defArgs s_gets, defBody s_gets, defScope s_gets, [], []⟩) rfl
  · exact c.def_ 23 (d := ⟨("_law_one_good", none), "_law_one_good", "_law_one_good", defArgs s__law_one_good, defBody s__law_one_good, defScope s__law_one_good, [], []⟩) rfl
  · exact c.def_ 24 (d := ⟨("is_name", none), "is_name", "is_name", defArgs s_is_name, defBody s_is_name, defScope s_is_name, [], []⟩) rfl
  · exact c.def_ 25 (d := ⟨("number_in", none), "number_in", "number_in", defArgs s_number_in, defBody s_number_in, defScope s_number_in, [], []⟩) rfl
  · exact c.def_ 26 (d := ⟨("put_hand", none), "put_hand", "put_hand", defArgs s_put_hand, defBody s_put_hand, defScope s_put_hand, [], []⟩) rfl
  · exact c.def_ 27 (d := ⟨("is_among", none), "is_among", "is_among", defArgs s_is_among, defBody s_is_among, defScope s_is_among, [], []⟩) rfl
  · exact c.def_ 28 (d := ⟨("is_pair", none), "is_pair", "is_pair", defArgs s_is_pair, defBody s_is_pair, defScope s_is_pair, [], []⟩) rfl
  · exact c.def_ 29 (d := ⟨("is_due", none), "is_due", "is_due", defArgs s_is_due, defBody s_is_due, defScope s_is_due, [], []⟩) rfl
  · exact c.def_ 30 (d := ⟨("is_plain", none), "is_plain", "is_plain", defArgs s_is_plain, defBody s_is_plain, defScope s_is_plain, [], []⟩) rfl
  · exact c.def_ 31 (d := ⟨("maker_of", none), "maker_of", "maker_of", defArgs s_maker_of, defBody s_maker_of, defScope s_maker_of, [], []⟩) rfl
  · exact c.def_ 32 (d := ⟨("made_or_none", none), "made_or_none", "made_or_none", defArgs s_made_or_none, defBody s_made_or_none, defScope s_made_or_none, [], []⟩) rfl
  · exact c.def_ 33 (d := ⟨("due_in", none), "due_in", "due_in", defArgs s_due_in, defBody s_due_in, defScope s_due_in, [], []⟩) rfl
  · exact c.def_ 34 (d := ⟨("plain_in", none), "plain_in", "plain_in", defArgs s_plain_in, defBody s_plain_in, defScope s_plain_in, [], []⟩) rfl
  · exact c.def_ 35 (d := ⟨("put_maker", none), "put_maker", "put_maker", defArgs s_put_maker, defBody s_put_maker, defScope s_put_maker, [], []⟩) rfl
  · exact c.def_ 36 (d := ⟨("is_put", none), "is_put", "is_put", defArgs s_is_put, defBody s_is_put, defScope s_is_put, [], []⟩) rfl
  · exact c.def_ 37 (d := ⟨("read", none), "read", "read", defArgs s_read, defBody s_read, defScope s_read, [], []⟩) rfl
  · exact c.def_ 38 (d := ⟨("law", none), "law", "law", defArgs s_law, defBody s_law, defScope s_law, [], []⟩) rfl
  · exact clsW_ok e4
  · exact He.mkr_ok (c.fact 90 (f := .mkr "Market") rfl)
  · exact c.def_ 39 (d := ⟨("Market", some "__init__"), "__init__", "Market.__init__", defArgs s_Market___init__, defBody s_Market___init__, defScope s_Market___init__, [], []⟩) rfl
  · exact clsW_ok e5
  · exact He.mkr_ok (c.fact 91 (f := .mkr "Product") rfl)
  · exact c.def_ 40 (d := ⟨("Product", some "__init__"), "__init__", "Maker.__init__", defArgs s_Maker___init__, defBody s_Maker___init__, defScope s_Maker___init__, [], []⟩) rfl
  · exact clsW_ok e6
  · exact He.mkr_ok (c.fact 92 (f := .mkr "Stretch") rfl)
  · exact c.def_ 41 (d := ⟨("Stretch", some "__init__"), "__init__", "Maker.__init__", defArgs s_Maker___init__, defBody s_Maker___init__, defScope s_Maker___init__, [], []⟩) rfl
  · exact clsW_ok e7
  · exact He.mkr_ok (c.fact 93 (f := .mkr "Sum") rfl)
  · exact c.def_ 42 (d := ⟨("Sum", some "__init__"), "__init__", "Maker.__init__", defArgs s_Maker___init__, defBody s_Maker___init__, defScope s_Maker___init__, [], []⟩) rfl
  · exact He.meth_ok (c.fact 94 (f := .meth "Product" "called") rfl)
  · exact c.def_ 43 (d := ⟨("Product", some "called"), "called", "Maker.called", defArgs s_Maker_called, defBody s_Maker_called, defScope s_Maker_called, [], []⟩) rfl
  · exact He.meth_ok (c.fact 95 (f := .meth "Stretch" "called") rfl)
  · exact c.def_ 44 (d := ⟨("Stretch", some "called"), "called", "Stretch.called", defArgs s_Stretch_called, defBody s_Stretch_called, defScope s_Stretch_called, [], []⟩) rfl
  · exact He.meth_ok (c.fact 96 (f := .meth "Sum" "called") rfl)
  · exact c.def_ 45 (d := ⟨("Sum", some "called"), "called", "Sum.called", defArgs s_Sum_called, defBody s_Sum_called, defScope s_Sum_called, [], []⟩) rfl
  · exact He.meth_ok (c.fact 97 (f := .meth "Product" "coming") rfl)
  · exact c.def_ 46 (d := ⟨("Product", some "coming"), "coming", "Product.coming", defArgs s_Product_coming, defBody s_Product_coming, defScope s_Product_coming, [], []⟩) rfl
  · exact He.meth_ok (c.fact 98 (f := .meth "Stretch" "coming") rfl)
  · exact c.def_ 47 (d := ⟨("Stretch", some "coming"), "coming", "Stretch.coming", defArgs s_Stretch_coming, defBody s_Stretch_coming, defScope s_Stretch_coming, [], []⟩) rfl
  · exact He.meth_ok (c.fact 99 (f := .meth "Sum" "coming") rfl)
  · exact c.def_ 48 (d := ⟨("Sum", some "coming"), "coming", "Sum.coming", defArgs s_Sum_coming, defBody s_Sum_coming, defScope s_Sum_coming, [], []⟩) rfl
  · exact He.meth_ok (c.fact 100 (f := .meth "Product" "haves") rfl)
  · exact c.def_ 49 (d := ⟨("Product", some "haves"), "haves", "Maker.haves", defArgs s_Maker_haves, defBody s_Maker_haves, defScope s_Maker_haves, [], []⟩) rfl
  · exact He.meth_ok (c.fact 101 (f := .meth "Stretch" "haves") rfl)
  · exact c.def_ 50 (d := ⟨("Stretch", some "haves"), "haves", "Maker.haves", defArgs s_Maker_haves, defBody s_Maker_haves, defScope s_Maker_haves, [], []⟩) rfl
  · exact He.meth_ok (c.fact 102 (f := .meth "Sum" "haves") rfl)
  · exact c.def_ 51 (d := ⟨("Sum", some "haves"), "haves", "Maker.haves", defArgs s_Maker_haves, defBody s_Maker_haves, defScope s_Maker_haves, [], []⟩) rfl
  · exact He.meth_ok (c.fact 103 (f := .meth "Product" "is_dealt") rfl)
  · exact c.def_ 52 (d := ⟨("Product", some "is_dealt"), "is_dealt", "Maker.is_dealt", defArgs s_Maker_is_dealt, defBody s_Maker_is_dealt, defScope s_Maker_is_dealt, [], []⟩) rfl
  · exact He.meth_ok (c.fact 104 (f := .meth "Stretch" "is_dealt") rfl)
  · exact c.def_ 53 (d := ⟨("Stretch", some "is_dealt"), "is_dealt", "Maker.is_dealt", defArgs s_Maker_is_dealt, defBody s_Maker_is_dealt, defScope s_Maker_is_dealt, [], []⟩) rfl
  · exact He.meth_ok (c.fact 105 (f := .meth "Sum" "is_dealt") rfl)
  · exact c.def_ 54 (d := ⟨("Sum", some "is_dealt"), "is_dealt", "Maker.is_dealt", defArgs s_Maker_is_dealt, defBody s_Maker_is_dealt, defScope s_Maker_is_dealt, [], []⟩) rfl
  · exact He.meth_ok (c.fact 106 (f := .meth "Product" "plain") rfl)
  · exact c.def_ 55 (d := ⟨("Product", some "plain"), "plain", "Maker.plain", defArgs s_Maker_plain, defBody s_Maker_plain, defScope s_Maker_plain, [], []⟩) rfl
  · exact He.meth_ok (c.fact 107 (f := .meth "Stretch" "plain") rfl)
  · exact c.def_ 56 (d := ⟨("Stretch", some "plain"), "plain", "Maker.plain", defArgs s_Maker_plain, defBody s_Maker_plain, defScope s_Maker_plain, [], []⟩) rfl
  · exact He.meth_ok (c.fact 108 (f := .meth "Sum" "plain") rfl)
  · exact c.def_ 57 (d := ⟨("Sum", some "plain"), "plain", "Maker.plain", defArgs s_Maker_plain, defBody s_Maker_plain, defScope s_Maker_plain, [], []⟩) rfl
  · exact He.meth_ok (c.fact 109 (f := .meth "Stretch" "propped") rfl)
  · exact c.def_ 58 (d := ⟨("Stretch", some "propped"), "propped", "Stretch.propped", defArgs s_Stretch_propped, defBody s_Stretch_propped, defScope s_Stretch_propped, [], []⟩) rfl
  · exact He.meth_ok (c.fact 110 (f := .meth "Product" "told") rfl)
  · exact c.def_ 59 (d := ⟨("Product", some "told"), "told", "Maker.told", defArgs s_Maker_told, defBody s_Maker_told, defScope s_Maker_told, [], []⟩) rfl
  · exact He.meth_ok (c.fact 111 (f := .meth "Stretch" "told") rfl)
  · exact c.def_ 60 (d := ⟨("Stretch", some "told"), "told", "Maker.told", defArgs s_Maker_told, defBody s_Maker_told, defScope s_Maker_told, [], []⟩) rfl
  · exact He.meth_ok (c.fact 112 (f := .meth "Sum" "told") rfl)
  · exact c.def_ 61 (d := ⟨("Sum", some "told"), "told", "Maker.told", defArgs s_Maker_told, defBody s_Maker_told, defScope s_Maker_told, [], []⟩) rfl
  · exact He.meth_ok (c.fact 113 (f := .meth "Market" "maker") rfl)
  · exact c.def_ 62 (d := ⟨("Market", some "maker"), "maker", "Market.maker", defArgs s_Market_maker, defBody s_Market_maker, defScope s_Market_maker, [], []⟩) rfl
  · exact He.meth_ok (c.fact 114 (f := .meth "Market" "names") rfl)
  · exact c.def_ 63 (d := ⟨("Market", some "names"), "names", "Market.names", defArgs s_Market_names, defBody s_Market_names, defScope s_Market_names, [], []⟩) rfl
theorem walk (plain : ∀ ns : List Int, ns.length ≤ 63 → sp_law [.rol (ns.map D.int)] (fun _ => none) (fun d _ => d = .bl true) (fun _ _ _ => False)) : PySem.Challenge.rw_rumourmart_k25_whole_partings_move_no_be.Holds := by
  w_on; o_law
  refine HandSHeadRun.head_any (r := PySem.W.OpenLaw.row PySem.Challenge.rw_rumourmart_k25_whole_partings_move_no_be) (q := PySem.W.view (PySem.W.OpenLaw.row PySem.Challenge.rw_rumourmart_k25_whole_partings_move_no_be).prog [77]) (H := hk) (ob := ob) (M := 20000) (loose := names) (d := HandSHeadRun.topDef (PySem.W.OpenLaw.row PySem.Challenge.rw_rumourmart_k25_whole_partings_move_no_be).prog 77) (kwd := []) ob_eq
    (by kernel_rfl) (fun s => by kernel_rfl) run (by kernel_rfl) (by kernel_rfl) (by kernel_rfl) (by rfl) (by first | assumption | decide +kernel) (by decide +kernel) ⟨rfl, rfl, rfl, rfl, rfl, by decide +kernel⟩ ?hw ?hc
  case hw => w_witness2
  case hc =>
    refine walk_ofN (l := PySem.Challenge.rw_rumourmart_k25_whole_partings_move_no_be) (k := 11) (x := "_law_script") (sp := sp_law) rfl (by kernel_rfl) ⟨rfl, by decide, by decide⟩ plain ?F
    intro w mg fa' h Y G hmg0
    obtain ⟨K, KX, c, e, tt⟩ := Y
    have hmg : mg ("law" : PySem.Str) = some (.ref fa') := by
      have e : (HandSHeadRun.topDef (PySem.W.OpenLaw.row PySem.Challenge.rw_rumourmart_k25_whole_partings_move_no_be).prog 77).name = ("law" : PySem.Str) := by kernel_rfl
      rw [← e]
      exact hmg0
    letI : TabList := ⟨[]⟩
    have T : Txt w K mg := txt KX G c e tt
    have ea := hmg.symm.trans T.g_law
    cases ea
    obtain ⟨fd, F⟩ := T.d_law
    refine ⟨K, fd, KX, fun s v => (FunD.bindsA (ps := ["_law_script"]) F fun _ _ _ _ _ _ us hl => match us, hl with | [_], _ => rfl) s [v] rfl, fun base _ _ => ok_law F T⟩
end K25

theorem PySem.Challenge.cw_rumourmart_k25_whole_partings_move_no_be_holds : PySem.Challenge.rw_rumourmart_k25_whole_partings_move_no_be.Holds :=
  K25.walk K25.law_ok
