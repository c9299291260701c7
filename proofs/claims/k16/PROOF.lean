import PyProof.Rows.All
import Wide.All
import OpenK.AllK
import Wide.FinOn
import HandS.Base
import HandS.Call
import HandS.List
import HandS.Ends
import HandS.Words
import HandS.Exc
import HandS.ExcOwn
import HandS.WordsExc
import HandS.Wide
import HandS.Dict
import HandS.TupAny
import HandS.TupLe
import HandS.Style
import HandS.IsInst
import HandS.Small
import HandS.Text
import HandS.TryOnly
import HandS.Defaults
import HandS.Lambda
import HandS.HeadHook1
import HandS.HeadHook2
import HandS.ExcIs
import HandS.Strs
import HandS.Comp
import HandS.Iter
import HandS.Zip
import HandS.More
import KE.DataMinMax
import HandS.StrSplit
import HandS.EndTab
import KE.KNest
import KE.KStateDown
import HandS.Head0
import HandS.Head1
import HandS.Head2
import HandS.HeadEnd
import PySem.Challenge.RW_rumourmart_k16_gains
set_option Elab.async false
set_option linter.all false
set_option maxRecDepth 100000
set_option maxHeartbeats 4000000
set_option Elab.async false
set_option linter.all false
set_option maxRecDepth 100000
set_option maxHeartbeats 4000000
namespace N
open PySem PySem.Spec PyProof.Rows L2

/-- the tables of code objects that stand, and the names of what they hold -/
class TabList where
  T : List (Addr × Str)
/-! ### nice values and stores -/
inductive D where
  | non | bl (b : Bool) | int (i : Int) | str (x : Str) | ref (a : Addr) | ty (n : String) | cls (c : Str) | tup (ds : List D) | rol (ds : List D)

inductive Ob where
  | lst (ds : List D)
  | dic (kvs : List (Key × D))
  | ins (c : Str) (fs : List (Str × D))
  | exc (c : Str) (d : Option Addr)
  | xd (fs : List (Str × D))

abbrev Sto := Addr → Option Ob
def put (S : Sto) (a : Addr) (o : Ob) : Sto := fun b => if b = a then some o else S b
theorem put_same {S : Sto} {a : Addr} {o : Ob} : put S a o a = some o := by unfold put; rw [if_pos rfl]
theorem put_ne {S : Sto} {a b : Addr} {o : Ob} (h : b ≠ a) : put S a o b = S b := by unfold put; rw [if_neg h]

variable [TabList]
section
variable (K : PySem.W.Frag)
def TupR (H : Hp) (a : Addr) (vs : List V) : Prop := H a = some (.tup vs) ∨
  ∃ (dd : Option Addr) (sl : Array (Option Value)) (its : List Value) (n : Nat), K.lookup a = some ⟨.type "tuple", dd, .seq its.toArray n, sl⟩ ∧ its.length ≤ sizeLine ∧ Vals vs its
def RolR (H : Hp) (a : Addr) (vs : List V) : Prop := (∃ o, H a = some (.frz o (.lst vs))) ∨
  ∃ (o : Obj) (its : Array Value) (n : Nat), K.lookup a = some o ∧ o.cls = .type "list" ∧ o.dict = none ∧ o.data = .seq its n ∧ its.size ≤ sizeLine ∧ Vals vs its.toList
theorem TupR.sq {K : PySem.W.Frag} {H : Hp} {a : Addr} {vs : List V} (h : TupR K H a vs) : SqT K H a vs := by
  rcases h with h | ⟨dd, sl, its, n, e, z, r⟩
  · exact .inl (.inl h)
  · exact .inr ⟨_, its.toArray, n, e, rfl, rfl, by simpa using z, by simpa using r⟩
theorem RolR.sq {K : PySem.W.Frag} {H : Hp} {a : Addr} {vs : List V} (h : RolR K H a vs) : SqL K H a vs := by
  rcases h with ⟨o, h⟩ | h
  · exact .inl (.inr ⟨o, h⟩)
  · exact .inr h
mutual
inductive VR (H : Hp) : D → V → Prop
  | non : VR H .non .non
  | bl (b : Bool) : VR H (.bl b) (.bl b)
  | int (i : Int) : VR H (.int i) (.int i)
  | str (x : Str) : VR H (.str x) (.str x)
  | ref (a : Addr) : VR H (.ref a) (.ref a)
  | ty (n : String) : VR H (.ty n) (.ty n)
  | cls (c : Str) : VR H (.cls c) (.ref (He.ga K c))
  | tup {a : Addr} {vs : List V} {ds : List D} : TupR K H a vs → VRs H ds vs → VR H (.tup ds) (.ref a)
  | rol {a : Addr} {vs : List V} {ds : List D} : RolR K H a vs → VRs H ds vs → VR H (.rol ds) (.ref a)
inductive VRs (H : Hp) : List D → List V → Prop
  | nil : VRs H [] []
  | cons {d : D} {ds : List D} {v : V} {vs : List V} : VR H d v → VRs H ds vs → VRs H (d :: ds) (v :: vs)
end
/-- what never changes is kept; the tables of code objects stay such -/
structure HExt (H H' : Hp) : Prop where
  tup : ∀ a vs, H a = some (.tup vs) → H' a = some (.tup vs)
  frz : ∀ a o u, H a = some (.frz o u) → H' a = some (.frz o u)
  cod : ∀ a q, H a = some (LamX.CodeO a q) → H' a = some (LamX.CodeO a q)
  tab : LamX.Tabs TabList.T H → LamX.Tabs TabList.T H'
end
/-- what is changed by statements -/
def MutN : Option HO → Prop
  | some (.lst _) => True
  | some (.dK _) => True
  | some (.ins _ _ _) => True
  | _ => False
section
variable {K : PySem.W.Frag} {H H' H1 H2 : Hp}
theorem HExt.refl (H : Hp) : HExt H H := ⟨fun _ _ h => h, fun _ _ _ h => h, fun _ _ h => h, fun h => h⟩
theorem HExt.trans (a : HExt H H1) (b : HExt H1 H2) : HExt H H2 := ⟨fun c v h => b.tup c v (a.tup c v h), fun c o u h => b.frz c o u (a.frz c o u h), fun c q h => b.cod c q (a.cod c q h), fun h => b.tab (a.tab h)⟩
theorem HExt.off {p : Addr} {u : HO} (n : ∀ a o, H a = some o → (∀ vs, o = .tup vs → a ≠ p) ∧ (∀ b v, o = .frz b v → a ≠ p) ∧ (∀ q, o = LamX.CodeO a q → a ≠ p) ∧ ∀ ps, o = .tbl ps → a ≠ p) : HExt H (upd H p u) :=
  ⟨fun a v e => by rw [upd_ne ((n a _ e).1 v rfl)]; exact e, fun a ob w e => by rw [upd_ne ((n a _ e).2.1 ob w rfl)]; exact e, fun a q e => by rw [upd_ne ((n a _ e).2.2.1 q rfl)]; exact e,
   fun h p hp => let ⟨ps, h1, h2, h3⟩ := h p hp; ⟨ps, by rw [upd_ne ((n _ _ h1).2.2.2 ps rfl)]; exact h1, h2, fun pos cv hc => let ⟨c, e1, e2⟩ := h3 pos cv hc; ⟨c, e1, by rw [upd_ne ((n c _ e2).2.2.1 _ rfl)]; exact e2⟩⟩⟩
theorem HExt.new {p : Addr} {o : HO} (h : H p = none) : HExt H (upd H p o) :=
  HExt.off fun a ob e => have na := ne_of_none e h; ⟨fun _ _ => na, fun _ _ _ => na, fun _ _ => na, fun _ _ => na⟩
/-- a change at what is no tuple and not locked -/
theorem HExt.upd {p : Addr} {o u : HO} (h : H p = some o) (m : MutN (some o)) : HExt H (upd H p u) :=
  HExt.off fun a ob e => ⟨fun vs z w => by rw [w, h] at e; cases e; rw [z] at m; exact m, fun b v z w => by rw [w, h] at e; cases e; rw [z] at m; exact m,
    fun q z w => by rw [w, h] at e; cases e; rw [z] at m; exact m, fun ps z w => by rw [w, h] at e; cases e; rw [z] at m; exact m⟩
/-- a lambda is made: the tables grow -/
theorem HExt.lam (x : LamX.ExtN H H') (t : LamX.Tabs TabList.T H') : HExt H H' :=
  ⟨fun a v e => x a _ e (fun _ z => by cases z), fun a o u e => x a _ e (fun _ z => by cases z), fun a q e => x a _ e LamX.codeO_ne, fun _ => t⟩
theorem TupR.ext {a : Addr} {vs : List V} (h : TupR K H a vs) (x : HExt H H') : TupR K H' a vs := h.elim (fun h => .inl (x.tup a vs h)) .inr
theorem RolR.ext {a : Addr} {vs : List V} (h : RolR K H a vs) (x : HExt H H') : RolR K H' a vs := h.elim (fun ⟨o, h⟩ => .inl ⟨o, x.frz a o _ h⟩) .inr
mutual
theorem VR.ext (x : HExt H H') : ∀ {d : D} {v : V}, VR K H d v → VR K H' d v
  | _, _, .non => .non
  | _, _, .bl b => .bl b
  | _, _, .int i => .int i
  | _, _, .str z => .str z
  | _, _, .ref a => .ref a
  | _, _, .ty n => .ty n
  | _, _, .cls n => .cls n
  | _, _, .tup h r => .tup (h.ext x) (VRs.ext x r)
  | _, _, .rol h r => .rol (h.ext x) (VRs.ext x r)
theorem VRs.ext (x : HExt H H') : ∀ {ds : List D} {vs : List V}, VRs K H ds vs → VRs K H' ds vs
  | _, _, .nil => .nil
  | _, _, .cons h r => .cons (VR.ext x h) (VRs.ext x r)
end
theorem VRs.length : ∀ {ds : List D} {vs : List V}, VRs K H ds vs → ds.length = vs.length
  | _, _, .nil => rfl
  | _, _, .cons _ r => congrArg Nat.succ r.length
theorem VRs.get : ∀ {ds : List D} {vs : List V} {i : Nat} {d : D}, VRs K H ds vs → ds[i]? = some d → ∃ v, vs[i]? = some v ∧ VR K H d v
  | _, _, 0, _, .cons r _, e => by simp at e; subst e; exact ⟨_, rfl, r⟩
  | _, _, i + 1, _, .cons _ t, e => by
    obtain ⟨v, h1, h2⟩ := VRs.get (i := i) t (by simpa using e)
    exact ⟨v, by simpa using h1, h2⟩
  | _, _, _, _, .nil, e => by simp at e
theorem VRs.append : ∀ {ds es : List D} {vs ws : List V}, VRs K H ds vs → VRs K H es ws → VRs K H (ds ++ es) (vs ++ ws)
  | _, _, _, _, .nil, s => s
  | _, _, _, _, .cons r t, s => .cons r (VRs.append t s)
theorem VRs.take : ∀ {ds : List D} {vs : List V} (n : Nat), VRs K H ds vs → VRs K H (ds.take n) (vs.take n)
  | _, _, 0, _ => .nil
  | _, _, _ + 1, .nil => .nil
  | _, _, n + 1, .cons r t => .cons r (VRs.take n t)
theorem VRs.drop : ∀ {ds : List D} {vs : List V} (n : Nat), VRs K H ds vs → VRs K H (ds.drop n) (vs.drop n)
  | _, _, 0, r => r
  | _, _, _ + 1, .nil => .nil
  | _, _, n + 1, .cons _ t => VRs.drop n t
theorem VRs.set {d : D} {v : V} (r : VR K H d v) : ∀ {ds : List D} {vs : List V} (i : Nat), VRs K H ds vs → VRs K H (ds.set i d) (vs.set i v)
  | _, _, _, .nil => .nil
  | _, _, 0, .cons _ t => .cons r t
  | _, _, i + 1, .cons q t => .cons q (VRs.set r i t)
theorem VRs.reverse {ds : List D} {vs : List V} (h : VRs K H ds vs) : VRs K H ds.reverse vs.reverse := by
  induction h using VRs.rec (motive_1 := fun _ _ _ => True) with
  | nil => exact .nil
  | cons r t _ ih => simp only [List.reverse_cons]; exact VRs.append ih (.cons r .nil)
  | _ => trivial
theorem VRs.ints : ∀ {ns : List Int} , VRs K H (ns.map D.int) (ns.map V.int)
  | [] => .nil
  | n :: r => .cons (.int n) (VRs.ints (ns := r))

abbrev KVR (K : PySem.W.Frag) (H : Hp) {κ : Type} : List (κ × D) → List (κ × V) → Prop := Paired fun p q => p.1 = q.1 ∧ VR K H p.2 q.2
theorem KVR.ext {κ : Type} (x : HExt H H') {a : List (κ × D)} {b : List (κ × V)} (h : KVR K H a b) : KVR K H' a b := Paired.mapP h fun _ _ z => ⟨z.1, z.2.ext x⟩

/-- an exception that was caught, at a: its class, its dict -/
def excP (a : Addr) (c : Value) (d : Option Addr) : Heap → Prop := fun h => ∃ oe vs, h.get? a = some oe ∧ Zc c d oe ∧ oe.data = .fields vs

/-- the names of all fields of the program's instances -/
def FN : List Str := ["stock", "due", "more", "rest", "parts", "keeper", "stalls", "pockets", "market"]
/-- a class of the program: plain, and no name of a field is its own -/
structure ClsOk (K : PySem.W.Frag) (c : Str) : Prop where
  cl : Cls K (He.ga K c)
  no : ∀ f ∈ FN, NoAttr K (He.ga K c) f
def OR (K : PySem.W.Frag) (H : Hp) (a : Addr) : Ob → Prop
  | .lst ds => ∃ vs, H a = some (.lst vs) ∧ VRs K H ds vs
  | .dic kvs => ∃ ws, H a = some (.dK ws) ∧ KVR K H kvs ws
  | .ins c fs => ∃ dx ws, H a = some (.ins (He.ga K c) dx ws) ∧ KVR K H fs ws ∧ ClsOk K c
  | .exc c d => H a = some (.ext (excP a (.ref (He.ga K c)) d))
  | .xd fs => ∃ ws, H a = some (.xd ws) ∧ KVR K H fs ws
theorem OR.ext {a : Addr} {o : Ob} (x : HExt H H') (k : H' a = H a) (h : OR K H a o) : OR K H' a o := by
  cases o with
  | lst ds => obtain ⟨vs, e, r⟩ := h; exact ⟨vs, k.trans e, r.ext x⟩
  | dic kvs => obtain ⟨vs, e, r⟩ := h; exact ⟨vs, k.trans e, KVR.ext x r⟩
  | ins C fs => obtain ⟨dx, vs, e, r, c⟩ := h; exact ⟨dx, vs, k.trans e, KVR.ext x r, c⟩
  | exc c d => exact k.trans h
  | xd fs => obtain ⟨vs, e, r⟩ := h; exact ⟨vs, k.trans e, KVR.ext x r⟩
theorem OR.some {a : Addr} {o : Ob} (h : OR K H a o) : ∃ u, H a = some u := by
  cases o with
  | lst ds => obtain ⟨vs, e, r⟩ := h; exact ⟨_, e⟩
  | dic kvs => obtain ⟨vs, e, r⟩ := h; exact ⟨_, e⟩
  | ins C fs => obtain ⟨dx, vs, e, r⟩ := h; exact ⟨_, e⟩
  | exc c d => exact ⟨_, h⟩
  | xd fs => obtain ⟨vs, e, r⟩ := h; exact ⟨_, e⟩
/-- the store is held -/
def SR (K : PySem.W.Frag) (S : Sto) (H : Hp) : Prop := ∀ a o, S a = some o → OR K H a o
theorem SR.fresh {S : Sto} {a : Addr} (h : SR K S H) (e : H a = none) : S a = none := by
  cases q : S a with
  | none => rfl
  | some o =>
    obtain ⟨u, z⟩ := (h a o q).some
    rw [e] at z; cases z
/-- an object laid at a, or changed there -/
theorem SR.put {S : Sto} {a : Addr} {o : Ob} {u : HO} (h : SR K S H) (x : HExt H (upd H a u)) (n : OR K (upd H a u) a o) : SR K (put S a o) (upd H a u) := fun b q e => by
  by_cases hb : b = a
  · subst hb; rw [put_same] at e; cases e; exact n
  · rw [put_ne hb] at e
    exact (h b q e).ext x (upd_ne hb)
/-- a new object that the store does not tell -/
theorem SR.more {S : Sto} {a : Addr} {u : HO} (h : SR K S H) (n : H a = none) : SR K S (upd H a u) := fun b q e => by
  have hb : b ≠ a := fun z => by rw [z, h.fresh n] at e; cases e
  exact (h b q e).ext (.new n) (upd_ne hb)
end

/-! ### environments -/
abbrev Env := List (Option D)
def OVR (K : PySem.W.Frag) (H : Hp) (o : Option D) (v : Option V) : Prop := ∀ d, o = some d → ∃ w, v = some w ∧ VR K H d w
abbrev ER (K : PySem.W.Frag) (H : Hp) : Env → L2.St → Prop := Paired (OVR K H)
section
variable {K : PySem.W.Frag} {H H' : Hp}
theorem ER.ext (x : HExt H H') {e : Env} {s : L2.St} (h : ER K H e s) : ER K H' e s := Paired.mapP h fun _ _ z d q => let ⟨w, a, b⟩ := z d q; ⟨w, a, b.ext x⟩
theorem ER.get : ∀ {e : Env} {s : L2.St} {i : Nat} {d : D}, ER K H e s → e[i]? = some (some d) → ∃ v, s[i]? = some (some v) ∧ VR K H d v
  | _, _, 0, _, .cons r _, q => by
    simp at q; subst q
    obtain ⟨w, a, b⟩ := r _ rfl
    exact ⟨w, by simp [a], b⟩
  | _, _, i + 1, _, .cons _ t, q => by
    obtain ⟨v, h1, h2⟩ := ER.get (i := i) t (by simpa using q)
    exact ⟨v, by simpa using h1, h2⟩
  | _, _, _, _, .nil, q => by simp at q
theorem ER.set {d : D} {v : V} (r : VR K H d v) : ∀ {e : Env} {s : L2.St} (i : Nat), ER K H e s → ER K H (e.set i (some d)) (s.set i (some v))
  | _, _, _, .nil => .nil
  | _, _, 0, .cons _ t => .cons (fun _ q => by cases q; exact ⟨v, rfl, r⟩) t
  | _, _, i + 1, .cons q t => .cons q (ER.set r i t)
theorem ER.unset : ∀ {e : Env} {s : L2.St} (i : Nat), ER K H e s → ER K H (e.set i none) (s.set i none)
  | _, _, _, .nil => .nil
  | _, _, 0, .cons _ t => .cons (fun _ q => by cases q) t
  | _, _, i + 1, .cons q t => .cons q (ER.unset i t)
theorem ER.none : ∀ (n : Nat), ER K H (List.replicate n none) (List.replicate n none)
  | 0 => .nil
  | n + 1 => .cons (fun _ q => by cases q) (ER.none n)
theorem ER.some : ∀ {ds : List D} {vs : List V}, VRs K H ds vs → ER K H (ds.map Option.some) (vs.map Option.some)
  | _, _, .nil => .nil
  | _, _, .cons r t => .cons (fun _ q => by cases q; exact ⟨_, rfl, r⟩) (ER.some t)
theorem ER.app : ∀ {e f : Env} {s t : L2.St}, ER K H e s → ER K H f t → ER K H (e ++ f) (s ++ t)
  | _, _, _, _, .nil, h => h
  | _, _, _, _, .cons r q, h => .cons r (ER.app q h)
end

/-! ### the judgements, lifted -/
abbrev NQ := D → Sto → Prop
abbrev NE := Env → Sto → NQ → Prop
abbrev NT := Env → Sto → (Bool → Sto → Prop) → Prop
abbrev NA := Env → Sto → (List D → Sto → Prop) → Prop
structure NEnds where
  nx : Env → Sto → Prop
  rt : NQ
  bk : Env → Sto → Prop := fun _ _ => False
  ct : Env → Sto → Prop := fun _ _ => False
abbrev NS := NEnds → Env → Sto → Prop
/-- what is wished of an exception: its class, its dict -/
abbrev NW := Str → Option Addr → Env → Sto → Prop

section
variable (K : PySem.W.Frag) (H0 : Hp)
/-- nice state at a heap -/
structure At (H : Hp) (σ : L2.St) (e : Env) (S : Sto) : Prop where
  x : HExt H0 H
  e : ER K H e σ
  s : SR K S H
def lE (m : NE) : TE := fun σ H Q => ∃ e S Q', At K H0 H σ e S ∧ m e S Q' ∧ ∀ d S' v H', HExt H H' → SR K S' H' → VR K H' d v → Q' d S' → Q v H'
def lT (m : NT) : TT := fun σ H Q => ∃ e S Q', At K H0 H σ e S ∧ m e S Q' ∧ ∀ b S' H', HExt H H' → SR K S' H' → Q' b S' → Q b H'
def lA (m : NA) : TA := fun σ H Q => ∃ e S Q', At K H0 H σ e S ∧ m e S Q' ∧ ∀ ds S' vs H', HExt H H' → SR K S' H' → VRs K H' ds vs → Q' ds S' → Q vs H'
structure EndsR (H : Hp) (D' : NEnds) (D : Ends) : Prop where
  nx : ∀ e S σ H', HExt H H' → At K H0 H' σ e S → D'.nx e S → D.nx σ H'
  rt : ∀ d S v H', HExt H H' → SR K S H' → VR K H' d v → D'.rt d S → D.rt v H'
  bk : ∀ e S σ H', HExt H H' → At K H0 H' σ e S → D'.bk e S → D.bk σ H'
  ct : ∀ e S σ H', HExt H H' → At K H0 H' σ e S → D'.ct e S → D.ct σ H'
def lS (m : NS) : TS := fun D σ H => ∃ e S D', At K H0 H σ e S ∧ m D' e S ∧ EndsR K H0 H D' D
def lW (w : NW) : WX := fun u d σ H => ∃ c e S, u = .ref (He.ga K c) ∧ At K H0 H σ e S ∧ w c d e S
end
section
variable {K : PySem.W.Frag} {H0 H H' : Hp} {σ : L2.St} {e : Env} {S : Sto}
theorem EndsR.ext {D' : NEnds} {D : Ends} (k : EndsR K H0 H D' D) (x : HExt H H') : EndsR K H0 H' D' D :=
  ⟨fun e S σ H2 y => k.nx e S σ H2 (x.trans y), fun d S v H2 y => k.rt d S v H2 (x.trans y), fun e S σ H2 y => k.bk e S σ H2 (x.trans y), fun e S σ H2 y => k.ct e S σ H2 (x.trans y)⟩
theorem At.next (a : At K H0 H σ e S) {S' : Sto} (x : HExt H H') (s : SR K S' H') : At K H0 H' σ e S' := ⟨a.x.trans x, a.e.ext x, s⟩
end
theorem _root_.L2.PE.imq {X : Cx} {e : Expr} {t t' : TE} (h : PE X e t) (i : ∀ σ H Q, t' σ H Q → t σ H Q) : PE X e t' := ⟨fun pins s σ H Q I q => h.run pins s σ H Q I (i _ _ _ q)⟩
theorem _root_.L2.PT.imq {X : Cx} {e : Expr} {t t' : TT} (h : PT X e t) (i : ∀ σ H Q, t' σ H Q → t σ H Q) : PT X e t' := ⟨fun pins s σ H Q I q => h.run pins s σ H Q I (i _ _ _ q)⟩
theorem _root_.L2.PW.imq {X : Cx} {e : Expr} {t t' : TT} (h : PW X e t) (i : ∀ σ H Q, t' σ H Q → t σ H Q) : PW X e t' := ⟨fun w pins s σ H Q I q => h.run w pins s σ H Q I (i _ _ _ q)⟩
theorem _root_.L2.PA.imq {X : Cx} {e : List Expr} {t t' : TA} (h : PA X e t) (i : ∀ σ H Q, t' σ H Q → t σ H Q) : PA X e t' := ⟨fun p pins s σ H Q I q => h.run p pins s σ H Q I (i _ _ _ q)⟩
theorem _root_.L2.PS.imq {X : Cx} {e : Stmt} {t t' : TS} (h : PS X e t) (i : ∀ D σ H, t' D σ H → t D σ H) : PS X e t' := ⟨fun pins s σ H D I q => h.run pins s σ H D I (i _ _ _ q)⟩
theorem _root_.L2.PSs.imq {X : Cx} {e : List Stmt} {t t' : TS} (h : PSs X e t) (i : ∀ D σ H, t' D σ H → t D σ H) : PSs X e t' := ⟨fun pins s σ H D I q => h.run pins s σ H D I (i _ _ _ q)⟩
abbrev JE (X : Cx) (H0 : Hp) (e : Expr) (m : NE) : Prop := PE X e (lE X.K H0 m)
abbrev JT (X : Cx) (H0 : Hp) (e : Expr) (m : NT) : Prop := PT X e (lT X.K H0 m)
abbrev JW (X : Cx) (H0 : Hp) (e : Expr) (m : NT) : Prop := PW X e (lT X.K H0 m)
abbrev JA (X : Cx) (H0 : Hp) (es : List Expr) (m : NA) : Prop := PA X es (lA X.K H0 m)
abbrev JS (X : Cx) (H0 : Hp) (st : Stmt) (m : NS) : Prop := PS X st (lS X.K H0 m)
abbrev JSs (X : Cx) (H0 : Hp) (st : List Stmt) (m : NS) : Prop := PSs X st (lS X.K H0 m)
end N

set_option Elab.async false
set_option linter.all false
set_option maxRecDepth 100000
set_option maxHeartbeats 4000000
namespace N
variable [TabList]
open PySem PySem.Spec PyProof.Rows L2

/-! ### nice operators, by values -/
abbrev N2 := D → D → Sto → NQ → Prop
abbrev NL := List D → Sto → NQ → Prop
section
variable (K : PySem.W.Frag)
/-- a reading of the layer follows from a nice one -/
def Op2 (r : R2) (n : N2) : Prop := ∀ x y S Q vx vy H Q', SR K S H → VR K H x vx → VR K H y vy → n x y S Q → (∀ d S' v H', HExt H H' → SR K S' H' → VR K H' d v → Q d S' → Q' v H') → r vx vy H Q'
def OpL (r : List V → Hp → VK → Prop) (n : NL) : Prop := ∀ xs S Q vs H Q', SR K S H → VRs K H xs vs → n xs S Q → (∀ d S' v H', HExt H H' → SR K S' H' → VR K H' d v → Q d S' → Q' v H') → r vs H Q'
end
section
variable {X : Cx} {H0 : Hp} {a b c : Expr} {ma mb mc : NE} {pos : Pos}
def OpN (X : Cx) (f : Value → Value → Sem Value) (n : N2) : Prop := ∃ r, OpR X f r ∧ Op2 X.K r n
def CallN (X : Cx) (f : Value) (n : NL) : Prop := ∃ r, CallR X f r ∧ OpL X.K r n
def IxN (X : Cx) (n : N2) : Prop := ∃ r, IxR X r ∧ Op2 X.K r n
def mOp (n : N2) (ma mb : NE) : NE := fun e S Q => ma e S fun x S1 => mb e S1 fun y S2 => n x y S2 Q
theorem bin_ok {r : R2} {n : N2} (hn : Op2 X.K r n) {σ : L2.St} {H : Hp} {Q : VK} (h : lE X.K H0 (mOp n ma mb) σ H Q) : tOp r (lE X.K H0 ma) (lE X.K H0 mb) σ H Q := by
  obtain ⟨e, S, Q', A, m, k⟩ := h
  refine ⟨e, S, _, A, m, fun x S1 vx H1 x1 s1 rx m1 => ?_⟩
  refine ⟨e, S1, _, A.next x1 s1, m1, fun y S2 vy H2 x2 s2 ry m2 => ?_⟩
  exact hn x y S2 Q' vx vy H2 Q s2 (rx.ext x2) ry m2 fun d S' v H' x3 s3 rd q => k d S' v H' ((x1.trans x2).trans x3) s3 rd q
theorem je_op {op : Operator} {n : N2} (ho : OpN X (binaryOp op) n) (ha : JE X H0 a ma) (hb : JE X H0 b mb) : JE X H0 (.BinOp a op b pos) (mOp n ma mb) := by
  obtain ⟨r, h1, h2⟩ := ho
  exact (pe_op h1 ha hb).imq fun _ _ _ h => bin_ok h2 h
theorem je_cmp {op : CmpOp} {n : N2} (ho : OpN X (compareOp op) n) (ha : JE X H0 a ma) (hb : JE X H0 b mb) (hm : behindInMarks op b = false) : JE X H0 (.Compare a [op] [b] pos) (mOp n ma mb) := by
  obtain ⟨r, h1, h2⟩ := ho
  exact (pe_cmpR h1 ha hb hm).imq fun _ _ _ h => bin_ok h2 h
/-- a value as a test: a bool -/
def mTst (m : NE) : NT := fun e S Q => m e S fun d S' => match d with
  | .bl k => Q k S'
  | _ => False
theorem tst_ok {m : NE} {σ : L2.St} {H : Hp} {Q : Bool → Hp → Prop} (h : lT X.K H0 (mTst m) σ H Q) : lE X.K H0 m σ H fun x H' => ∃ k, x = .bl k ∧ Q k H' := by
  obtain ⟨e, S, Q', A, m1, k⟩ := h
  refine ⟨e, S, _, A, m1, fun d S' v H' x s r q => ?_⟩
  cases d with
  | bl b => cases r; exact ⟨b, rfl, k b S' H' x s q⟩
  | _ => exact q.elim
theorem jt_cmp {op : CmpOp} {n : N2} (ho : OpN X (compareOp op) n) (ha : JE X H0 a ma) (hb : JE X H0 b mb) (hm : behindInMarks op b = false) : JT X H0 (.Compare a [op] [b] pos) (mTst (mOp n ma mb)) := by
  obtain ⟨r, h1, h2⟩ := ho
  refine (pt_cmpR h1 ha hb hm).imq fun σ H Q h => ?_
  obtain ⟨e, S, Q', A, m, k⟩ := h
  exact bin_ok h2 ⟨e, S, _, A, m, fun d S' v H' x s r q => by
    cases d with
    | bl b => cases r; exact ⟨b, rfl, k b S' H' x s q⟩
    | _ => exact q.elim⟩
theorem jt_val {m : NE} (h : JE X H0 a m) (he : ∀ whole, isTrue a X.env whole = (do let v ← whole; standAt a.pos; holding [v] (truthy v)) := by intro _; rfl) : JT X H0 a (mTst m) :=
  (pt_val h he).imq fun _ _ _ q => tst_ok q

/-! ### names, constants -/
def nth : Env → Nat → Option D
  | [], _ => none
  | o :: _, 0 => o
  | _ :: r, n + 1 => nth r n
theorem nth_get : ∀ {e : Env} {i : Nat} {d : D}, nth e i = some d → e[i]? = some (some d)
  | [], _, _, h => by cases h
  | o :: _, 0, d, h => by
    have h' : o = some d := h
    rw [h']; rfl
  | _ :: r, i + 1, d, h => by
    have := nth_get (e := r) (i := i) h
    simpa using this
def mVar (i : Nat) : NE := fun e S Q => match nth e i with
  | some d => Q d S
  | none => False
theorem je_var {i : Nat} {x : Str} (hN : X.N[i]? = some x := by rfl) (hv : Vis X.env.scope x := by first | exact Or.inl rfl | exact Or.inr (Or.inl rfl) | exact Or.inr (Or.inr rfl)) (hd : (x == ("__debug__" : Str)) = false := by decide +kernel) (hcd : (x == ("__classdict__" : Str)) = false := by decide +kernel) : JE X H0 (.Name x pos) (mVar i) := by
  refine (pe_var (pos := pos) hN hv hd hcd).imq fun σ H Q h => ?_
  obtain ⟨e, S, Q', A, m, k⟩ := h
  unfold mVar at m
  split at m
  · rename_i d hd
    obtain ⟨v, h1, h2⟩ := A.e.get (nth_get hd)
    exact ⟨v, h1, k d S v H (.refl H) A.s h2 m⟩
  · exact m.elim
def mC (d : D) : NE := fun _ S Q => Q d S
theorem c_ok {d : D} {v : V} (r : ∀ H, VR X.K H d v) {σ : L2.St} {H : Hp} {Q : VK} (h : lE X.K H0 (mC d) σ H Q) : Q v H := by
  obtain ⟨e, S, Q', A, m, k⟩ := h
  exact k d S v H (.refl H) A.s (r H) m
theorem je_int {i : Int} {j} : JE X H0 (.Constant (.int i) j pos) (mC (.int i)) := pe_int.imq fun _ _ _ h => c_ok (fun _ => .int i) h
theorem je_bl {i : Bool} {j} : JE X H0 (.Constant (.bool i) j pos) (mC (.bl i)) := pe_bl.imq fun _ _ _ h => c_ok (fun _ => .bl i) h
theorem je_non {j} : JE X H0 (.Constant .none j pos) (mC .non) := pe_non.imq fun _ _ _ h => c_ok (fun _ => .non) h
theorem je_str {x : Str} {j} : JE X H0 (.Constant (.str x) j pos) (mC (.str x)) := pe_str.imq fun _ _ _ h => c_ok (fun _ => .str x) h
theorem je_glob {x : Str} {v : V} {u : Value} {d : D} (hm : X.mg x = some u) (r : RelV v u) (q : ∀ H, VR X.K H d v) (hg : Gl X x := by rfl) (hd : (x == ("__debug__" : Str)) = false := by decide +kernel) : JE X H0 (.Name x pos) (mC d) :=
  (pe_glob hg hm r hd).imq fun _ _ _ h => c_ok q h
theorem je_bltn {x : Str} {v : V} {u : Value} {d : D} (hm : X.mg x = none) (hv : bootBuiltins x = some u) (r : RelV v u) (q : ∀ H, VR X.K H d v) (hg : Gl X x := by rfl) (hn : x ≠ "__name__" := by decide +kernel) (hd : (x == ("__debug__" : Str)) = false := by decide +kernel) : JE X H0 (.Name x pos) (mC d) :=
  (pe_bltn hg hm hv r hn hd).imq fun _ _ _ h => c_ok q h

/-! ### and, or, not, if -/
variable {ta tb tc : NT} {rest : List Expr}
def mAnd (t u : NT) : NT := fun e S Q => t e S fun c S1 => match c with
  | true => u e S1 Q
  | false => Q false S1
def mOr (t u : NT) : NT := fun e S Q => t e S fun c S1 => match c with
  | true => Q true S1
  | false => u e S1 Q
def mNot (t : NT) : NT := fun e S Q => t e S fun c S1 => Q (!c) S1
theorem jw_and1 (ha : JT X H0 a ta) : JW X H0 (.BoolOp .And [a] pos) ta := pw_and1 ha
theorem jw_or1 (ha : JT X H0 a ta) : JW X H0 (.BoolOp .Or [a] pos) ta := pw_or1 ha
theorem jw_and (ha : JT X H0 a ta) (hb : JW X H0 (.BoolOp .And (b :: rest) pos) tb) : JW X H0 (.BoolOp .And (a :: b :: rest) pos) (mAnd ta tb) := by
  refine (pw_and ha hb).imq fun σ H Q h => ?_
  obtain ⟨e, S, Q', A, m, k⟩ := h
  refine ⟨e, S, _, A, m, fun c S1 H1 x1 s1 q => ?_⟩
  cases c with
  | true => exact iteT ⟨e, S1, Q', A.next x1 s1, q, fun b S' H' x2 s2 => k b S' H' (x1.trans x2) s2⟩
  | false => exact iteF (k false S1 H1 x1 s1 q)
theorem jw_or (ha : JT X H0 a ta) (hb : JW X H0 (.BoolOp .Or (b :: rest) pos) tb) : JW X H0 (.BoolOp .Or (a :: b :: rest) pos) (mOr ta tb) := by
  refine (pw_or ha hb).imq fun σ H Q h => ?_
  obtain ⟨e, S, Q', A, m, k⟩ := h
  refine ⟨e, S, _, A, m, fun c S1 H1 x1 s1 q => ?_⟩
  cases c with
  | true => exact iteT (k true S1 H1 x1 s1 q)
  | false => exact iteF ⟨e, S1, Q', A.next x1 s1, q, fun b S' H' x2 s2 => k b S' H' (x1.trans x2) s2⟩
theorem jt_w (h : JW X H0 a ta) : JT X H0 a ta := h.pt
theorem jt_not (ha : JT X H0 a ta) : JT X H0 (.UnaryOp .Not a pos) (mNot ta) := by
  refine (pt_not ha).imq fun σ H Q h => ?_
  obtain ⟨e, S, Q', A, m, k⟩ := h
  exact ⟨e, S, _, A, m, fun c S1 H1 x1 s1 q => k _ S1 H1 x1 s1 q⟩
/-- as values, all but the last of them bools -/
def mAndV (m n : NE) : NE := fun e S Q => m e S fun d S1 => match d with
  | .bl true => n e S1 Q
  | .bl false => Q (.bl false) S1
  | _ => False
def mOrV (m n : NE) : NE := fun e S Q => m e S fun d S1 => match d with
  | .bl true => Q (.bl true) S1
  | .bl false => n e S1 Q
  | _ => False
def mNotV (m : NE) : NE := fun e S Q => m e S fun d S1 => match d with
  | .bl k => Q (.bl (!k)) S1
  | _ => False
theorem je_one {op} (h : JE X H0 a ma) : JE X H0 (.BoolOp op [a] pos) ma := pe_one h
theorem je_and (ha : JE X H0 a ma) (hb : JE X H0 (.BoolOp .And (b :: rest) pos) mb) : JE X H0 (.BoolOp .And (a :: b :: rest) pos) (mAndV ma mb) := by
  refine (pe_and ha hb).imq fun σ H Q h => ?_
  obtain ⟨e, S, Q', A, m, k⟩ := h
  refine ⟨e, S, _, A, m, fun d S1 v H1 x1 s1 r q => ?_⟩
  cases d with
  | bl c =>
    cases r
    cases c with
    | true => exact ⟨true, rfl, iteT ⟨e, S1, Q', A.next x1 s1, q, fun d S' v H' x2 s2 => k d S' v H' (x1.trans x2) s2⟩⟩
    | false => exact ⟨false, rfl, iteF (k _ S1 _ H1 x1 s1 (.bl false) q)⟩
  | _ => exact q.elim
theorem je_or (ha : JE X H0 a ma) (hb : JE X H0 (.BoolOp .Or (b :: rest) pos) mb) : JE X H0 (.BoolOp .Or (a :: b :: rest) pos) (mOrV ma mb) := by
  refine (pe_or ha hb).imq fun σ H Q h => ?_
  obtain ⟨e, S, Q', A, m, k⟩ := h
  refine ⟨e, S, _, A, m, fun d S1 v H1 x1 s1 r q => ?_⟩
  cases d with
  | bl c =>
    cases r
    cases c with
    | true => exact ⟨true, rfl, iteT (k _ S1 _ H1 x1 s1 (.bl true) q)⟩
    | false => exact ⟨false, rfl, iteF ⟨e, S1, Q', A.next x1 s1, q, fun d S' v H' x2 s2 => k d S' v H' (x1.trans x2) s2⟩⟩
  | _ => exact q.elim
theorem je_not (ha : JE X H0 a ma) : JE X H0 (.UnaryOp .Not a pos) (mNotV ma) := by
  refine (pe_not ha).imq fun σ H Q h => ?_
  obtain ⟨e, S, Q', A, m, k⟩ := h
  refine ⟨e, S, _, A, m, fun d S1 v H1 x1 s1 r q => ?_⟩
  cases d with
  | bl c => cases r; exact ⟨c, rfl, k _ S1 _ H1 x1 s1 (.bl _) q⟩
  | _ => exact q.elim
def mIf (t : NT) (m n : NE) : NE := fun e S Q => t e S fun c S1 => match c with
  | true => m e S1 Q
  | false => n e S1 Q
theorem je_if (hc : JT X H0 c tc) (ha : JE X H0 a ma) (hb : JE X H0 b mb) : JE X H0 (.IfExp c a b pos) (mIf tc ma mb) := by
  refine (pe_ifExp hc ha hb).imq fun σ H Q h => ?_
  obtain ⟨e, S, Q', A, m, k⟩ := h
  refine ⟨e, S, _, A, m, fun c S1 H1 x1 s1 q => ?_⟩
  cases c with
  | true => exact iteT ⟨e, S1, Q', A.next x1 s1, q, fun d S' v H' x2 s2 => k d S' v H' (x1.trans x2) s2⟩
  | false => exact iteF ⟨e, S1, Q', A.next x1 s1, q, fun d S' v H' x2 s2 => k d S' v H' (x1.trans x2) s2⟩

/-! ### chains -/
def mChain (n n' : N2) (ma mb mc : NE) : NE := fun e S Q => ma e S fun x S1 => mb e S1 fun y S2 => n x y S2 fun z S3 => match z with
  | .bl true => mc e S3 fun u S4 => n' y u S4 Q
  | .bl false => Q (.bl false) S3
  | _ => False
theorem je_chain {op op' : CmpOp} {n n' : N2} (ho : OpN X (compareOp op) n) (ho' : OpN X (compareOp op') n') (ha : JE X H0 a ma) (hb : JE X H0 b mb) (hc : JE X H0 c mc)
    (h1 : lastMarks [op, op'] [b, c] = false := by with_unfolding_all rfl) : JE X H0 (.Compare a [op, op'] [b, c] pos) (mChain n n' ma mb mc) := by
  obtain ⟨r, h3, h4⟩ := ho
  obtain ⟨r', h5, h6⟩ := ho'
  refine L2.PE.imq (pe_chain h3 h5 ha hb hc h1) fun σ H Q h => ?_
  obtain ⟨e, S, Q', A, m, k⟩ := h
  refine ⟨e, S, _, A, m, fun x S1 vx H1 x1 s1 rx m1 => ?_⟩
  refine ⟨e, S1, _, A.next x1 s1, m1, fun y S2 vy H2 x2 s2 ry m2 => ?_⟩
  refine h4 x y S2 _ vx vy H2 _ s2 (rx.ext x2) ry m2 fun z S3 vz H3 x3 s3 rz m3 => ?_
  cases z with
  | bl t =>
    cases rz
    have x13 := (x1.trans x2).trans x3
    cases t with
    | true =>
      refine ⟨true, rfl, iteT ?_⟩
      refine ⟨e, S3, _, A.next x13 s3, m3, fun u S4 vu H4 x4 s4 ru m4 => ?_⟩
      exact h6 y u S4 _ vy vu H4 _ s4 ((ry.ext x3).ext x4) ru m4 fun d S' v H' x5 s5 rd q => k d S' v H' ((x13.trans x4).trans x5) s5 rd q
    | false => exact ⟨false, rfl, iteF (k _ S3 _ H3 x13 s3 (.bl false) m3)⟩
  | _ => exact m3.elim

/-! ### arguments, displays -/
variable {es : List Expr} {mr : NA}
def mNil : NA := fun _ S Q => Q [] S
def mCons (m : NE) (r : NA) : NA := fun e S Q => m e S fun x S1 => r e S1 fun xs S2 => Q (x :: xs) S2
theorem ja_nil : JA X H0 [] mNil := by
  refine pa_nil.imq fun σ H Q h => ?_
  obtain ⟨e, S, Q', A, m, k⟩ := h
  exact k [] S [] H (.refl H) A.s .nil m
theorem ja_cons (ha : JE X H0 a ma) (hr : JA X H0 es mr) (hs : starEach (a :: es) X.env = (false, eval a X.env) :: starEach es X.env := by rfl) : JA X H0 (a :: es) (mCons ma mr) := by
  refine (pa_cons ha hr hs).imq fun σ H Q h => ?_
  obtain ⟨e, S, Q', A, m, k⟩ := h
  refine ⟨e, S, _, A, m, fun x S1 vx H1 x1 s1 rx m1 => ?_⟩
  exact ⟨e, S1, _, A.next x1 s1, m1, fun ys S2 vs H2 x2 s2 rs m2 => k _ S2 _ H2 (x1.trans x2) s2 (.cons (rx.ext x2) rs) m2⟩
def mTup (r : NA) : NE := fun e S Q => r e S fun ds S1 => ds.length ≤ sizeLine ∧ Q (.tup ds) S1
def mLst (r : NA) : NE := fun e S Q => r e S fun ds S1 => ds.length ≤ sizeLine ∧ ∀ p, S1 p = none → Q (.ref p) (put S1 p (.lst ds))
theorem je_tup {k} (h : JA X H0 es mr) : JE X H0 (.Tuple es k pos) (mTup mr) := by
  refine (pe_tup h).imq fun σ H Q h => ?_
  obtain ⟨e, S, Q', A, m, k⟩ := h
  refine ⟨e, S, _, A, m, fun ds S1 vs H1 x1 s1 rs q => ?_⟩
  refine ⟨by rw [← rs.length]; exact q.1, fun p np => ?_⟩
  exact k _ S1 _ _ (x1.trans (.new np)) (s1.more np) (.tup (.inl upd_same) (rs.ext (.new np))) q.2
theorem lst_ok {S1 : Sto} {H1 : Hp} {p : Addr} {ds : List D} {vs : List V} (s1 : SR X.K S1 H1) (np : H1 p = none) (rs : VRs X.K H1 ds vs) : SR X.K (put S1 p (.lst ds)) (upd H1 p (.lst vs)) :=
  s1.put (.new np) ⟨vs, upd_same, rs.ext (.new np)⟩
theorem je_lst (h : JA X H0 es mr) : JE X H0 (.List es pos) (mLst mr) := by
  refine (pe_lst h).imq fun σ H Q h => ?_
  obtain ⟨e, S, Q', A, m, k⟩ := h
  refine ⟨e, S, _, A, m, fun ds S1 vs H1 x1 s1 rs q => ?_⟩
  refine ⟨by rw [← rs.length]; exact q.1, fun p np => ?_⟩
  exact k _ _ _ _ (x1.trans (.new np)) (lst_ok s1 np rs) (.ref p) (q.2 p (s1.fresh np))
/-- a dict with written keys -/
def mDic0 : NE := fun _ S Q => ∀ p, S p = none → Q (.ref p) (put S p (.dic []))
theorem je_dic0 : JE X H0 (.Dict [] [] pos) mDic0 := by
  refine pe_dnewK.imq fun σ H Q h => ?_
  obtain ⟨e, S, Q', A, m, k⟩ := h
  exact fun p np => k _ _ _ _ (.new np) (A.s.put (o := .dic []) (.new np) ⟨[], upd_same, .nil⟩) (.ref p) (m p (A.s.fresh np))
end
end N

set_option Elab.async false
set_option linter.all false
set_option maxRecDepth 100000
set_option maxHeartbeats 4000000
namespace N
variable [TabList]
open PySem PySem.Spec PyProof.Rows L2

/-! ### reading a nice value -/
section
variable {K : PySem.W.Frag} {H : Hp}
theorem VRs.cons_inv {d : D} {ds : List D} {vs : List V} (h : VRs K H (d :: ds) vs) : ∃ v ws, vs = v :: ws ∧ VR K H d v ∧ VRs K H ds ws := by
  cases h with
  | cons a b => exact ⟨_, _, rfl, a, b⟩
theorem VRs.nil_inv {vs : List V} (h : VRs K H [] vs) : vs = [] := by cases h; rfl
end
def isBit (n : Nat) (i : Int) : Prop := i.natAbs < 2 ^ n
/-- products that the model makes -/
def MulOk (i j : Int) : Prop := i.natAbs < 2 ^ 64 ∨ j.natAbs < 2 ^ 64 ∨ (i.natAbs < 2 ^ 4000 ∧ j.natAbs < 2 ^ 4000)
def rMulN : R2 := fun x y H Q => (rI CMul (fun i j => .int (i * j)) x y H Q) ∨ (rI CMulW (fun i j => .int (i * j)) x y H Q)
section
variable {X : Cx}
theorem op_mulN : OpR X (binaryOp .Mult) rMulN := op_mul.or op_mulW
theorem MulOk.imp {i j : Int} {Q : VK} {H : Hp} (h : MulOk i j) (q : Q (.int (i * j)) H) : rMulN (.int i) (.int j) H Q := by
  rcases h with h | h | ⟨h1, h2⟩
  · exact .inl ⟨i, j, rfl, rfl, .inl (by have : ((2 ^ 64 : Nat) : Int) = (2 : Int) ^ 64 := by norm_cast
                                         omega), q⟩
  · exact .inl ⟨i, j, rfl, rfl, .inr (by have : ((2 ^ 64 : Nat) : Int) = (2 : Int) ^ 64 := by norm_cast
                                         omega), q⟩
  · exact .inr ⟨i, j, rfl, rfl, wide_mul h1 h2 (by decide) (by decide) (by decide), q⟩

/-! ### arithmetic -/
def nAdd : N2 := fun x y S Q => match x, y with
  | .int i, .int j => Q (.int (i + j)) S
  | .str a, .str b => a.length + b.length ≤ sizeLine ∧ Q (.str (a ++ b)) S
  | .tup a, .tup b => a.length + b.length ≤ sizeLine ∧ Q (.tup (a ++ b)) S
  | .ref a, .ref b => (match S a, S b with
    | some (.lst xs), some (.lst ys) => xs.length + ys.length ≤ sizeLine ∧ ∀ p, S p = none → Q (.ref p) (put S p (.lst (xs ++ ys)))
    | _, _ => False)
  | _, _ => False
theorem SR.lst {K : PySem.W.Frag} {S : Sto} {H : Hp} {a : Addr} {ds : List D} (h : SR K S H) (e : S a = some (.lst ds)) : ∃ vs, H a = some (.lst vs) ∧ VRs K H ds vs := h a _ e
theorem SR.ins {K : PySem.W.Frag} {S : Sto} {H : Hp} {a : Addr} {c : Str} {fs : List (Str × D)} (h : SR K S H) (e : S a = some (.ins c fs)) : ∃ dx ws, H a = some (.ins (He.ga K c) dx ws) ∧ KVR K H fs ws ∧ ClsOk K c := h a _ e
theorem SR.dic {K : PySem.W.Frag} {S : Sto} {H : Hp} {a : Addr} {fs : List (Key × D)} (h : SR K S H) (e : S a = some (.dic fs)) : ∃ ws, H a = some (.dK ws) ∧ KVR K H fs ws := h a _ e
theorem opN_add : OpN X (binaryOp .Add) nAdd := by
  refine ⟨_, op_add.or (op_add_str.or (op_catA.or op_cat)), fun x y S Q vx vy H Q' s rx ry n k => ?_⟩
  unfold nAdd at n
  split at n
  · rename_i i j
    cases rx; cases ry
    exact .inl ⟨i, j, rfl, rfl, k _ _ _ _ (.refl H) s (.int _) n⟩
  · rename_i a b
    cases rx; cases ry
    exact .inr (.inl ⟨a, b, rfl, rfl, n.1, k _ _ _ _ (.refl H) s (.str _) n.2⟩)
  · rename_i a b
    cases rx with
    | tup t1 r1 =>
      rename_i p1 vs
      cases ry with
      | tup t2 r2 =>
        rename_i p2 ws
        refine .inr (.inr (.inl ⟨p1, p2, vs, ws, rfl, rfl, t1.sq, t2.sq, by rw [← r1.length, ← r2.length]; exact n.1, fun e => ?_, fun _ e => ?_, fun _ _ p np => ?_⟩))
        · subst e
          have : a = [] := by cases r1; rfl
          subst this
          exact k _ _ _ _ (.refl H) s (.tup t2 r2) n.2
        · subst e
          have : b = [] := by cases r2; rfl
          subst this
          refine k _ _ _ _ (.refl H) s ?_ n.2
          rw [List.append_nil]
          exact .tup t1 r1
        · exact k _ _ _ _ (.new np) (s.more np) (.tup (.inl upd_same) ((r1.append r2).ext (.new np))) n.2
  · rename_i a b
    cases rx; cases ry
    split at n
    · rename_i xs ys e1 e2
      obtain ⟨vs, h1, r1⟩ := s.lst e1
      obtain ⟨ws, h2, r2⟩ := s.lst e2
      refine .inr (.inr (.inr ⟨a, b, vs, ws, rfl, rfl, h1, h2, by rw [← r1.length, ← r2.length]; exact n.1, fun p np => ?_⟩))
      exact k _ _ _ _ (.new np) (lst_ok s np (r1.append r2)) (.ref p) (n.2 p (s.fresh np))
    · exact n.elim
  · exact n.elim
/-- an operator on two ints -/
def nInt (C : Int → Int → Prop) (g : Int → Int → D) : N2 := fun x y S Q => match x, y with
  | .int i, .int j => C i j ∧ Q (g i j) S
  | _, _ => False
theorem opN_int {f : Value → Value → Sem Value} {C C' : Int → Int → Prop} {g : Int → Int → V} {g' : Int → Int → D} (ho : OpR X f (rI C g)) (hc : ∀ i j, C' i j → C i j) (hg : ∀ H i j, VR X.K H (g' i j) (g i j)) : OpN X f (nInt C' g') := by
  refine ⟨_, ho, fun x y S Q vx vy H Q' s rx ry n k => ?_⟩
  unfold nInt at n
  split at n
  · rename_i i j
    cases rx; cases ry
    exact ⟨i, j, rfl, rfl, hc i j n.1, k _ _ _ _ (.refl H) s (hg H i j) n.2⟩
  · exact n.elim
def nInt0 (g : Int → Int → D) : N2 := fun x y S Q => match x, y with
  | .int i, .int j => Q (g i j) S
  | _, _ => False
theorem opN_int0 {f : Value → Value → Sem Value} {g : Int → Int → V} {g' : Int → Int → D} (ho : OpR X f (rI0 g)) (hg : ∀ H i j, VR X.K H (g' i j) (g i j)) : OpN X f (nInt0 g') := by
  refine ⟨_, ho, fun x y S Q vx vy H Q' s rx ry n k => ?_⟩
  unfold nInt0 at n
  split at n
  · rename_i i j
    cases rx; cases ry
    exact ⟨i, j, rfl, rfl, k _ _ _ _ (.refl H) s (hg H i j) n⟩
  · exact n.elim
abbrev nSub : N2 := nInt0 fun i j => .int (i - j)
theorem opN_sub : OpN X (binaryOp .Sub) nSub := opN_int0 op_sub fun _ _ _ => .int _
abbrev nMul : N2 := nInt MulOk fun i j => .int (i * j)
theorem opN_mul : OpN X (binaryOp .Mult) nMul := by
  refine ⟨_, op_mulN, fun x y S Q vx vy H Q' s rx ry n k => ?_⟩
  unfold nMul nInt at n
  split at n
  · rename_i i j
    cases rx; cases ry
    exact n.1.imp (k _ _ _ _ (.refl H) s (.int _) n.2)
  · exact n.elim
def DivOk (_ j : Int) : Prop := 0 < j ∧ j.natAbs < 2 ^ 4000
abbrev nDiv : N2 := nInt DivOk fun i j => .int (i / j)
theorem opN_div : OpN X (binaryOp .FloorDiv) nDiv := opN_int op_fdivW (fun i j h => wide_div (i := i) h.1 h.2 (by decide) (by decide)) fun _ _ _ => .int _
abbrev nMod : N2 := nInt (fun _ j => 0 < j) fun i j => .int (i % j)
theorem opN_mod : OpN X (binaryOp .Mod) nMod := opN_int op_mod (fun _ _ h => h) fun _ _ _ => .int _
def PowOk (i j : Int) : Prop := 0 ≤ j ∧ j ≤ 1000000 ∧ i.natAbs < 2 ^ 64
abbrev nPow : N2 := nInt PowOk fun i j => .int (i ^ j.toNat)
theorem opN_pow : OpN X (binaryOp .Pow) nPow := opN_int op_pow (fun _ _ h => h) fun _ _ _ => .int _

/-! ### comparisons -/
abbrev nLt : N2 := nInt0 fun i j => .bl (decide (i < j))
abbrev nLe : N2 := nInt0 fun i j => .bl (decide (i ≤ j))
abbrev nGt : N2 := nInt0 fun i j => .bl (decide (j < i))
abbrev nGe : N2 := nInt0 fun i j => .bl (decide (j ≤ i))
theorem opN_lt : OpN X (compareOp .Lt) nLt := opN_int0 op_lt fun _ _ _ => .bl _
theorem opN_le : OpN X (compareOp .LtE) nLe := opN_int0 op_le fun _ _ _ => .bl _
theorem opN_gt : OpN X (compareOp .Gt) nGt := opN_int0 op_gt fun _ _ _ => .bl _
theorem opN_ge : OpN X (compareOp .GtE) nGe := opN_int0 op_ge fun _ _ _ => .bl _
def isNonD : D → Bool
  | .non => true
  | _ => false
def nIsN : N2 := fun x y S Q => match y with
  | .non => Q (.bl (isNonD x)) S
  | _ => False
def nNotN : N2 := fun x y S Q => match y with
  | .non => Q (.bl (!isNonD x)) S
  | _ => False
theorem isNon_ok {K : PySem.W.Frag} {H : Hp} {x : D} {v : V} (r : VR K H x v) : decide (v = .non) = isNonD x := by
  cases r with
  | non => rfl
  | _ => exact decide_eq_false (fun z => by cases z)
theorem opN_isN : OpN X (compareOp .Is) nIsN := by
  refine ⟨_, op_isN, fun x y S Q vx vy H Q' s rx ry n k => ?_⟩
  unfold nIsN at n
  split at n
  · cases ry
    exact ⟨rfl, k _ _ _ _ (.refl H) s (by rw [isNon_ok rx]; exact .bl _) n⟩
  · exact n.elim
theorem opN_notN : OpN X (compareOp .IsNot) nNotN := by
  refine ⟨_, op_notN, fun x y S Q vx vy H Q' s rx ry n k => ?_⟩
  unfold nNotN at n
  split at n
  · cases ry
    exact ⟨rfl, k _ _ _ _ (.refl H) s (by rw [isNon_ok rx]; exact .bl _) n⟩
  · exact n.elim

/-! ### == of data -/
mutual
def pyD : D → Option PyData
  | .non => some .none
  | .bl b => some (.bool b)
  | .int i => some (.int i)
  | .str x => some (.str x)
  | .tup ds => (pyDs ds).map .tuple
  | .rol ds => (pyDs ds).map .list
  | .ref _ => none
  | .ty _ => none
  | .cls _ => none
def pyDs : List D → Option (List PyData)
  | [] => some []
  | d :: r => match pyD d, pyDs r with
    | some a, some b => some (a :: b)
    | _, _ => none
end
def pyT (S : Sto) (d : D) : Option PyData := match d with
  | .ref a => (match S a with
    | some (.lst ds) => (pyDs ds).map .list
    | _ => none)
  | d => pyD d
mutual
theorem pyD_ok {K : PySem.W.Frag} {H : Hp} : ∀ {d : D} {v : V} {p : PyData}, VR K H d v → pyD d = some p → Dp K H v p
  | _, _, _, .non, e => by
    simp only [pyD, Option.some.injEq] at e; subst e; exact .non
  | _, _, _, .bl b, e => by
    simp only [pyD, Option.some.injEq] at e; subst e; exact .bl b
  | _, _, _, .int i, e => by
    simp only [pyD, Option.some.injEq] at e; subst e; exact .int i
  | _, _, _, .str x, e => by
    simp only [pyD, Option.some.injEq] at e; subst e; exact .str x
  | _, _, _, .ref a, e => by simp only [pyD] at e; cases e
  | _, _, _, .ty a, e => by simp only [pyD] at e; cases e
  | _, _, _, .cls a, e => by simp only [pyD] at e; cases e
  | _, _, _, .tup t r, e => by
    simp only [pyD, Option.map_eq_some_iff] at e
    obtain ⟨ps, e1, rfl⟩ := e
    exact .tup t.sq (pyDs_ok r e1)
  | _, _, _, .rol t r, e => by
    simp only [pyD, Option.map_eq_some_iff] at e
    obtain ⟨ps, e1, rfl⟩ := e
    exact .lst t.sq (pyDs_ok r e1)
theorem pyDs_ok {K : PySem.W.Frag} {H : Hp} : ∀ {ds : List D} {vs : List V} {ps : List PyData}, VRs K H ds vs → pyDs ds = some ps → DpAll K H vs ps
  | _, _, _, .nil, e => by simp only [pyDs, Option.some.injEq] at e; subst e; exact .nil
  | d :: r, _, _, .cons h t, e => by
    simp only [pyDs] at e
    split at e
    · rename_i a b e1 e2
      cases e
      exact .cons (pyD_ok h e1) (pyDs_ok t e2)
    · cases e
end
theorem pyT_ok {K : PySem.W.Frag} {S : Sto} {H : Hp} {d : D} {v : V} {p : PyData} (s : SR K S H) (r : VR K H d v) (e : pyT S d = some p) : Dp K H v p := by
  unfold pyT at e
  split at e
  · rename_i a
    cases r
    split at e
    · rename_i ds e1
      obtain ⟨vs, h1, r1⟩ := s.lst e1
      simp only [Option.map_eq_some_iff] at e
      obtain ⟨ps, e2, rfl⟩ := e
      exact .lst (SqL.of h1) (pyDs_ok r1 e2)
    · cases e
  · exact pyD_ok r e
/-- the answer of == and whether it is told -/
def eqT (S : Sto) (x y : D) : Option Bool := match x, y with
  | .int i, .int j => some (decide (i = j))
  | .str a, .str b => some (decide (a = b))
  | .bl a, .bl b => some (decide (a = b))
  | .non, .non => some true
  | .non, .int _ => some false
  | .int _, .non => some false
  | .non, .bl _ => some false
  | .bl _, .non => some false
  | .non, .str _ => some false
  | .str _, .non => some false
  | .int _, .str _ => some false
  | .str _, .int _ => some false
  | .bl _, .str _ => some false
  | .str _, .bl _ => some false
  | x, y => match pyT S x, pyT S y with
    | some d, some e => if SeqAt.shaped d && SeqAt.shaped e then some (PyData.eqv d e) else none
    | _, _ => none
def nEq : N2 := fun x y S Q => match eqT S x y with
  | some b => Q (.bl b) S
  | none => False
def nNe : N2 := fun x y S Q => match eqT S x y with
  | some b => Q (.bl (!b)) S
  | none => False
theorem eqT_ok {K : PySem.W.Frag} {S : Sto} {H : Hp} {x y : D} {vx vy : V} {b : Bool} (s : SR K S H) (rx : VR K H x vx) (ry : VR K H y vy) (e : eqT S x y = some b) :
    (scal vx vy = true ∧ decide (vx = vy) = b) ∨ ∃ d e, Dp K H vx d ∧ Dp K H vy e ∧ SeqAt.shaped d = true ∧ SeqAt.shaped e = true ∧ PyData.eqv d e = b := by
  unfold eqT at e
  split at e
  case h_1 i j => cases rx; cases ry; cases e; exact .inl ⟨rfl, by simp⟩
  case h_2 i j => cases rx; cases ry; cases e; exact .inl ⟨rfl, by simp⟩
  case h_3 i j => cases rx; cases ry; cases e; exact .inl ⟨rfl, by simp⟩
  case h_4 => cases rx; cases ry; cases e; exact .inl ⟨rfl, by simp⟩
  case h_15 =>
    split at e
    · rename_i d d' e1 e2
      split at e
      · rename_i h
        cases e
        rw [Bool.and_eq_true] at h
        exact .inr ⟨d, d', pyT_ok s rx e1, pyT_ok s ry e2, h.1, h.2, rfl⟩
      · cases e
    · cases e
  all_goals (cases rx; cases ry; cases e; exact .inl ⟨rfl, by simp⟩)
theorem opN_eq (hu : X.A.units + 64 < cLine) : OpN X (compareOp .Eq) nEq := by
  refine ⟨_, op_eq.or (op_eqD hu), fun x y S Q vx vy H Q' s rx ry n k => ?_⟩
  unfold nEq at n
  split at n
  · rename_i b e
    rcases eqT_ok s rx ry e with ⟨h1, h2⟩ | ⟨d, d', h1, h2, h3, h4, h5⟩
    · exact .inl ⟨h1, by rw [h2]; exact k _ _ _ _ (.refl H) s (.bl b) n⟩
    · exact .inr ⟨d, d', h1, h2, h3, h4, by rw [h5]; exact k _ _ _ _ (.refl H) s (.bl b) n⟩
  · exact n.elim
theorem opN_ne (hu : X.A.units + 64 < cLine) : OpN X (compareOp .NotEq) nNe := by
  refine ⟨_, op_ne.or (op_neD hu), fun x y S Q vx vy H Q' s rx ry n k => ?_⟩
  unfold nNe at n
  split at n
  · rename_i b e
    rcases eqT_ok s rx ry e with ⟨h1, h2⟩ | ⟨d, d', h1, h2, h3, h4, h5⟩
    · exact .inl ⟨h1, by rw [h2]; exact k _ _ _ _ (.refl H) s (.bl _) n⟩
    · exact .inr ⟨d, d', h1, h2, h3, h4, by rw [h5]; exact k _ _ _ _ (.refl H) s (.bl _) n⟩
  · exact n.elim

/-! ### in, not in -/
def flatD : D → Bool
  | .non => true
  | .bl _ => true
  | .int _ => true
  | .str _ => true
  | _ => false
def eqF : D → D → Bool
  | .non, .non => true
  | .bl a, .bl b => a == b
  | .bl a, .int b => (if a then 1 else 0) == b
  | .int a, .bl b => a == (if b then 1 else 0)
  | .int a, .int b => a == b
  | .str a, .str b => a == b
  | _, _ => false
theorem flat_ok {K : PySem.W.Frag} {H : Hp} {d : D} {v : V} (r : VR K H d v) (f : flatD d = true) : flatV v = true := by
  cases r <;> first | rfl | cases f
theorem eqF_ok {K : PySem.W.Frag} {H : Hp} {d e : D} {v w : V} (r : VR K H d v) (q : VR K H e w) (f : flatD d = true) (g : flatD e = true) : eqV v w = eqF d e := by
  cases r <;> (first | cases f; done | skip) <;> cases q <;> (first | cases g; done | rfl)
theorem flats_ok {K : PySem.W.Frag} {H : Hp} : ∀ {ds : List D} {vs : List V}, VRs K H ds vs → ds.all flatD = true → vs.all flatV = true
  | _, _, .nil, _ => rfl
  | _, _, .cons r t, h => by
    rw [List.all_cons, Bool.and_eq_true] at h
    rw [List.all_cons, Bool.and_eq_true]
    exact ⟨flat_ok r h.1, flats_ok t h.2⟩
theorem inF_ok {K : PySem.W.Frag} {H : Hp} {x : D} {v : V} (rx : VR K H x v) (fx : flatD x = true) : ∀ {ds : List D} {vs : List V}, VRs K H ds vs → ds.all flatD = true → inV v vs = ds.any fun d => eqF d x
  | _, _, .nil, _ => rfl
  | _, _, .cons r t, h => by
    rw [List.all_cons, Bool.and_eq_true] at h
    have e := inF_ok rx fx t h.2
    unfold inV at e ⊢
    rw [List.any_cons, List.any_cons, e, eqF_ok r rx h.1 fx]
/-- the items of a list or a tuple -/
def seqOf (S : Sto) : D → Option (List D)
  | .tup ds => some ds
  | .rol ds => some ds
  | .ref a => (match S a with
    | some (.lst ds) => some ds
    | _ => none)
  | _ => none
theorem seqOf_ok {K : PySem.W.Frag} {S : Sto} {H : Hp} {d : D} {v : V} {ds : List D} (s : SR K S H) (r : VR K H d v) (e : seqOf S d = some ds) : ∃ p vs, v = .ref p ∧ (SqL K H p vs ∨ SqT K H p vs) ∧ VRs K H ds vs := by
  unfold seqOf at e
  split at e
  · cases e
    cases r with
    | tup t r => exact ⟨_, _, rfl, .inr t.sq, r⟩
  · cases e
    cases r with
    | rol t r => exact ⟨_, _, rfl, .inl t.sq, r⟩
  · rename_i a
    cases r
    split at e
    · rename_i es e1
      cases e
      obtain ⟨vs, h1, r1⟩ := s.lst e1
      exact ⟨_, _, rfl, .inl (SqL.of h1), r1⟩
    · cases e
  · cases e
/-- a dict's key -/
def keyD : D → Option Key
  | .int i => some (.inl i)
  | .str x => some (.inr x)
  | _ => none
theorem keyD_ok {K : PySem.W.Frag} {H : Hp} {d : D} {v : V} {k : Key} (r : VR K H d v) (e : keyD d = some k) : v = kV k := by
  cases r <;> first | cases e; rfl | cases e
def dicOf (S : Sto) : D → Option (List (Key × D))
  | .ref a => (match S a with
    | some (.dic kvs) => some kvs
    | _ => none)
  | _ => none
theorem dicOf_ok {K : PySem.W.Frag} {S : Sto} {H : Hp} {d : D} {v : V} {kvs : List (Key × D)} (s : SR K S H) (r : VR K H d v) (e : dicOf S d = some kvs) : ∃ a ws, d = .ref a ∧ v = .ref a ∧ S a = some (.dic kvs) ∧ H a = some (.dK ws) ∧ KVR K H kvs ws := by
  unfold dicOf at e
  split at e
  · rename_i a
    cases r
    split at e
    · rename_i es e1
      cases e
      obtain ⟨ws, h1, r1⟩ := s.dic e1
      exact ⟨a, ws, rfl, rfl, e1, h1, r1⟩
    · cases e
  · cases e
theorem KVR.val {K : PySem.W.Frag} {H : Hp} {κ : Type} [DecidableEq κ] (k : κ) : ∀ {kvs : List (κ × D)} {ws : List (κ × V)}, KVR K H kvs ws → (∀ d, (kvs.find? fun kv => decide (kv.1 = k)).map (·.2) = some d → ∃ v, valV ws k = some v ∧ VR K H d v) ∧ ((kvs.find? fun kv => decide (kv.1 = k)).map (·.2) = none → valV ws k = none)
  | _, _, .nil => ⟨fun d h => (by cases h), fun _ => rfl⟩
  | p :: ps, q :: qs, .cons h t => by
    have ih := KVR.val k t
    by_cases e : p.1 = k
    · have e' : q.1 = k := h.1 ▸ e
      refine ⟨fun d z => ?_, fun z => ?_⟩
      · simp only [List.find?_cons, e, decide_true, Option.map_some, Option.some.injEq] at z
        subst z
        exact ⟨_, valV_pos e', h.2⟩
      · simp only [List.find?_cons, e, decide_true, Option.map_some] at z
        cases z
    · have e' : ¬ q.1 = k := fun z => e (h.1.trans z)
      rw [valV_neg e']
      simp only [List.find?_cons, e, decide_false]
      exact ih
/-- what a key tells -/
def dget (kvs : List (Key × D)) (k : Key) : Option D := (kvs.find? fun kv => decide (kv.1 = k)).map (·.2)
def nIn : N2 := fun x y S Q => match seqOf S y with
  | some ds => flatD x = true ∧ ds.all flatD = true ∧ Q (.bl (ds.any fun d => eqF d x)) S
  | none => match dicOf S y with
    | some kvs => (match keyD x with
      | some k => Q (.bl (dget kvs k).isSome) S
      | none => False)
    | none => match x, y with
      | .str c, .str z => c.cps.size = 1 ∧ Q (.bl (decide (c.cps.getD 0 0 ∈ z.cps.toList))) S
      | _, _ => False
def nNin : N2 := fun x y S Q => nIn x y S fun d S' => match d with
  | .bl b => Q (.bl (!b)) S'
  | _ => False
theorem one_sign {c : Str} (h : c.cps.size = 1) : c = ⟨#[c.cps.getD 0 0]⟩ := by
  obtain ⟨l⟩ := c
  obtain ⟨l⟩ := l
  cases l with
  | nil => cases h
  | cons a t =>
    cases t with
    | nil => rfl
    | cons b t => simp at h
theorem op_inD (hu : X.A.units + 1 < cLine) : OpR X (compareOp .In) (fun y x H Q => ∃ a o, x = .ref a ∧ DGet H a y o ∧ Q (.bl o.isSome) H) := by
  intro pins s σ H x y v u Q I rx ry h
  obtain ⟨a, o, rfl, g, q⟩ := h
  cases (show u = Value.ref a from ry)
  exact d_in hu I g rx fun s' I' => ⟨.bl _, H, I', rfl, q⟩
theorem op_notInD (hu : X.A.units + 1 < cLine) : OpR X (compareOp .NotIn) (fun y x H Q => ∃ a o, x = .ref a ∧ DGet H a y o ∧ Q (.bl (!o.isSome)) H) := by
  intro pins s σ H x y v u Q I rx ry h
  obtain ⟨a, o, rfl, g, q⟩ := h
  cases (show u = Value.ref a from ry)
  exact d_notIn hu I g rx fun s' I' => ⟨.bl _, H, I', rfl, q⟩
theorem dget_ok {K : PySem.W.Frag} {H : Hp} {kvs : List (Key × D)} {ws : List (Key × V)} (r : KVR K H kvs ws) (k : Key) : (valV ws k).isSome = (dget kvs k).isSome := by
  obtain ⟨h1, h2⟩ := KVR.val k r
  unfold dget
  cases e : (kvs.find? fun kv => decide (kv.1 = k)).map (·.2) with
  | none => rw [h2 e] <;> rfl
  | some d =>
    obtain ⟨v, h, _⟩ := h1 d e
    rw [h] <;> rfl
theorem opN_in (hu : X.A.units + 1 < cLine) : OpN X (compareOp .In) nIn := by
  refine ⟨_, op_in_seq.or ((op_inD hu).or op_in_sign), fun x y S Q vx vy H Q' s rx ry n k => ?_⟩
  unfold nIn at n
  split at n
  · rename_i ds e
    obtain ⟨p, vs, rfl, hs, r⟩ := seqOf_ok s ry e
    exact .inl ⟨p, vs, rfl, hs, flat_ok rx n.1, flats_ok r n.2.1, by rw [inF_ok rx n.1 r n.2.1]; exact k _ _ _ _ (.refl H) s (.bl _) n.2.2⟩
  · split at n
    · rename_i kvs e
      obtain ⟨a, ws, rfl, rfl, _, h1, r⟩ := dicOf_ok s ry e
      split at n
      · rename_i kk ek
        have := keyD_ok rx ek
        subst this
        exact .inr (.inl ⟨a, _, rfl, .k h1, by rw [dget_ok r]; exact k _ _ _ _ (.refl H) s (.bl _) n⟩)
      · exact n.elim
    · split at n
      · rename_i c z _ _
        cases rx; cases ry
        exact .inr (.inr ⟨_, z, congrArg V.str (one_sign n.1), rfl, k _ _ _ _ (.refl H) s (.bl _) n.2⟩)
      · exact n.elim
theorem opN_nin (hu : X.A.units + 1 < cLine) : OpN X (compareOp .NotIn) nNin := by
  refine ⟨_, op_notIn_seq.or ((op_notInD hu).or op_notIn_sign), fun x y S Q vx vy H Q' s rx ry n k => ?_⟩
  unfold nNin nIn at n
  split at n
  · rename_i ds e
    obtain ⟨p, vs, rfl, hs, r⟩ := seqOf_ok s ry e
    refine .inl ⟨p, vs, rfl, hs, flat_ok rx n.1, flats_ok r n.2.1, ?_⟩
    rw [if_pos rfl, inF_ok rx n.1 r n.2.1]
    exact k _ _ _ _ (.refl H) s (.bl _) n.2.2
  · split at n
    · rename_i kvs e
      obtain ⟨a, ws, rfl, rfl, _, h1, r⟩ := dicOf_ok s ry e
      split at n
      · rename_i kk ek
        have := keyD_ok rx ek
        subst this
        exact .inr (.inl ⟨a, _, rfl, .k h1, by rw [dget_ok r]; exact k _ _ _ _ (.refl H) s (.bl _) n⟩)
      · exact n.elim
    · split at n
      · rename_i c z _ _
        cases rx; cases ry
        exact .inr (.inr ⟨_, z, congrArg V.str (one_sign n.1), rfl, k _ _ _ _ (.refl H) s (.bl _) n.2⟩)
      · exact n.elim
end
end N

set_option Elab.async false
set_option linter.all false
set_option maxRecDepth 100000
set_option maxHeartbeats 4000000
namespace N
variable [TabList]
open PySem PySem.Spec PyProof.Rows L2

/-! ### items -/
section
variable {K : PySem.W.Frag} {H : Hp}
theorem VRs.atI {ds : List D} {vs : List V} {i : Int} {d : D} (r : VRs K H ds vs) (e : L2.atI ds i = some d) : ∃ v, L2.atI vs i = some v ∧ VR K H d v := by
  unfold L2.atI at e ⊢
  rw [← r.length]
  cases h : ixN ds.length i with
  | none => rw [h] at e; cases e
  | some j =>
    rw [h] at e
    exact r.get e
end
section
variable {X : Cx} {H0 : Hp} {a b c o : Expr} {ma mb mo : NE} {pos : Pos} {es : List Expr} {mr : NA}
def nIx : N2 := fun x y S Q => match seqOf S x, y with
  | some ds, .int i => (match L2.atI ds i with
    | some d => Q d S
    | none => False)
  | _, _ => match dicOf S x, keyD y with
    | some kvs, some k => (match dget kvs k with
      | some d => Q d S
      | none => False)
    | _, _ => match x, y with
      | .str z, .int i => z.length ≤ sizeLine ∧ (match L2.atI z.cps.toList i with
        | some c => Q (.str ⟨#[c]⟩) S
        | none => False)
      | _, _ => False
theorem ix_dict (hu : X.A.units + 1 < cLine) : IxR X (fun x y H Q => ∃ a v, x = .ref a ∧ DGet H a y (some v) ∧ Q v H) := by
  intro value slice pins s σ H x y v u Q I rx ry h hs
  obtain ⟨a, w, rfl, g, q⟩ := h
  obtain rfl : v = Value.ref a := rx
  exact tail_any (ops := [.ref a, u]) (dict_typeIs I g) F.slot_dict_getitem.lookup (d_getItem hu I g ry fun w' s' I' r' => ⟨w, H, I', r', q⟩) hs
theorem ixN_seqv (hu : X.A.units + 1 < cLine) : IxN X nIx := by
  refine ⟨_, (ix_list.or ix_tup).or ((ix_dict hu).or ix_str), fun x y S Q vx vy H Q' s rx ry n k => ?_⟩
  unfold nIx at n
  split at n
  · rename_i ds i e
    cases ry
    obtain ⟨p, vs, rfl, hs, r⟩ := seqOf_ok s rx e
    split at n
    · rename_i d ed
      obtain ⟨v, h1, h2⟩ := r.atI ed
      rcases hs with hs | hs
      · exact .inl (.inl ⟨p, vs, i, v, rfl, rfl, hs, h1, k _ _ _ _ (.refl H) s h2 n⟩)
      · exact .inl (.inr ⟨p, vs, i, v, rfl, rfl, hs, h1, k _ _ _ _ (.refl H) s h2 n⟩)
    · exact n.elim
  · split at n
    · rename_i kvs kk e1 e2
      obtain ⟨p, ws, rfl, rfl, _, h1, r⟩ := dicOf_ok s rx e1
      have := keyD_ok ry e2
      subst this
      split at n
      · rename_i d ed
        obtain ⟨v, h3, h4⟩ := (KVR.val kk r).1 d ed
        exact .inr (.inl ⟨p, v, rfl, by rw [← h3]; exact .k h1, k _ _ _ _ (.refl H) s h4 n⟩)
      · exact n.elim
    · split at n
      · rename_i z i _ _
        cases rx; cases ry
        obtain ⟨n1, n2⟩ := n
        split at n2
        · rename_i c ec
          exact .inr (.inr ⟨z, i, c, rfl, rfl, n1, ec, k _ _ _ _ (.refl H) s (.str _) n2⟩)
        · exact n2.elim
      · exact n.elim
theorem je_ix (hi : IxN X nIx) (ha : JE X H0 a ma) (hb : JE X H0 b mb) (hs : PlainIx b := by exact fun _ _ => rfl) : JE X H0 (.Subscript a b pos) (mOp nIx ma mb) := by
  obtain ⟨r, h1, h2⟩ := hi
  exact (pe_ix h1 ha hb hs).imq fun _ _ _ h => bin_ok h2 h

/-! ### slices -/
abbrev NO := Env → Sto → (Option Int → Sto → Prop) → Prop
def lO (K : PySem.W.Frag) (H0 : Hp) (m : NO) : TO := fun σ H Q => ∃ e S Q', At K H0 H σ e S ∧ m e S Q' ∧ ∀ b S' H', HExt H H' → SR K S' H' → Q' b S' → Q b H'
abbrev JO (X : Cx) (H0 : Hp) (e : Option Expr) (m : NO) : Prop := PO X e (lO X.K H0 m)
def mNoPart : NO := fun _ S Q => Q none S
def mPart (m : NE) : NO := fun e S Q => m e S fun d S1 => match d with
  | .int i => Q (some i) S1
  | _ => False
theorem _root_.L2.PO.imq {e : Option Expr} {t t' : TO} (h : PO X e t) (i : ∀ σ H Q, t' σ H Q → t σ H Q) : PO X e t' := ⟨fun pins s σ H Q I q => h.run pins s σ H Q I (i _ _ _ q)⟩
theorem jo_none : JO X H0 none mNoPart := po_none.imq fun σ H Q ⟨e, S, Q', A, m, k⟩ => k none S H (.refl H) A.s m
theorem jo_some (h : JE X H0 a ma) : JO X H0 (some a) (mPart ma) := (po_some h).imq fun σ H Q ⟨e, S, Q', A, m, k⟩ => ⟨e, S, _, A, m, fun d S1 v H1 x1 s1 r q => by
  cases d with
  | int i => cases r; exact ⟨i, rfl, k _ S1 H1 x1 s1 q⟩
  | _ => exact q.elim⟩
def cutD (xs : List D) (lo hi : Option Int) : List D := (xs.drop (HT.sIx xs.length 0 lo)).take (HT.sIx xs.length xs.length hi - HT.sIx xs.length 0 lo)
theorem cut_ok {K : PySem.W.Frag} {H : Hp} {ds : List D} {vs : List V} (r : VRs K H ds vs) (lo hi : Option Int) : VRs K H (cutD ds lo hi) (cutV vs lo hi) := by
  unfold cutD cutV
  rw [r.length]
  exact (r.drop _).take _
def nSl : D → Option Int → Option Int → Sto → NQ → Prop := fun x lo hi S Q => match x with
  | .tup ds => Q (.tup (cutD ds lo hi)) S
  | .str z => z.length ≤ sizeLine ∧ Q (.str (cutS z lo hi)) S
  | .rol ds => ∀ p, S p = none → Q (.ref p) (put S p (.lst (cutD ds lo hi)))
  | .ref a => (match S a with
    | some (.lst ds) => ∀ p, S p = none → Q (.ref p) (put S p (.lst (cutD ds lo hi)))
    | _ => False)
  | _ => False
def mSl (m : NE) (l h : NO) : NE := fun e S Q => m e S fun x S1 => l e S1 fun lo S2 => h e S2 fun hi S3 => nSl x lo hi S3 Q
theorem whole_cut {ds : List D} {lo hi : Option Int} (h : HT.sIx ds.length 0 lo = 0 ∧ HT.sIx ds.length ds.length hi = ds.length) : cutD ds lo hi = ds := by
  unfold cutD
  rw [h.1, h.2]
  simp
theorem je_slice {lo hi : Option Expr} {l h : NO} {p2 : Pos} (he : JE X H0 a ma) (hl : JO X H0 lo l) (hh : JO X H0 hi h) : JE X H0 (.Subscript a (.Slice lo hi none p2) pos) (mSl ma l h) := by
  refine (pe_slice (sl_tupA.or (sl_list.or sl_str)) he hl hh).imq fun σ H Q h => ?_
  obtain ⟨e, S, Q', A, m, k⟩ := h
  refine ⟨e, S, _, A, m, fun x S1 vx H1 x1 s1 rx m1 => ?_⟩
  refine ⟨e, S1, _, A.next x1 s1, m1, fun lo S2 H2 x2 s2 m2 => ?_⟩
  refine ⟨e, S2, _, A.next (x1.trans x2) s2, m2, fun hi S3 H3 x3 s3 n => ?_⟩
  have rx3 := (rx.ext x2).ext x3
  have x13 := (x1.trans x2).trans x3
  unfold nSl at n
  split at n
  · rename_i ds
    cases rx3 with
    | tup t r =>
      rename_i p vs
      refine .inl ⟨p, vs, rfl, t.sq, fun w => ?_, fun w q nq => ?_⟩
      · rw [← r.length] at w
        rw [whole_cut w] at n
        exact k _ _ _ _ x13 s3 (.tup t r) n
      · exact k _ _ _ _ (x13.trans (.new nq)) (s3.more nq) (.tup (.inl upd_same) ((cut_ok r lo hi).ext (.new nq))) n
  · rename_i z
    cases rx3
    exact .inr (.inr ⟨z, rfl, n.1, k _ _ _ _ x13 s3 (.str _) n.2⟩)
  · rename_i ds
    cases rx3 with
    | rol t r =>
      rename_i p vs
      refine .inr (.inl ⟨p, _, rfl, t.sq, fun q nq => ?_⟩)
      exact k _ _ _ _ (x13.trans (.new nq)) (lst_ok s3 nq (cut_ok r lo hi)) (.ref q) (n q (s3.fresh nq))
  · rename_i p
    cases rx3
    split at n
    · rename_i es e2
      obtain ⟨vs', h1, r1⟩ := s3.lst e2
      refine .inr (.inl ⟨p, _, rfl, SqL.of h1, fun q nq => ?_⟩)
      exact k _ _ _ _ (x13.trans (.new nq)) (lst_ok s3 nq (cut_ok r1 lo hi)) (.ref q) (n q (s3.fresh nq))
    · exact n.elim
  · exact n.elim
/-- xs[::-1] -/
def nRev : D → Sto → NQ → Prop := fun x S Q => match x with
  | .ref a => (match S a with
    | some (.lst ds) => ∀ p, S p = none → Q (.ref p) (put S p (.lst ds.reverse))
    | _ => False)
  | _ => False
def mUn (n : D → Sto → NQ → Prop) (m : NE) : NE := fun e S Q => m e S fun x S1 => n x S1 Q
theorem je_rev {k : Nat} {p1 p2 p3 : Pos} (he : JE X H0 a ma) : JE X H0 (.Subscript a (.Slice none none (some (.UnaryOp .USub (.Constant (.int 1) k p1) p2)) p3) pos) (mUn nRev ma) := by
  refine (pe_revL he).imq fun σ H Q h => ?_
  obtain ⟨e, S, Q', A, m, k⟩ := h
  refine ⟨e, S, _, A, m, fun x S1 vx H1 x1 s1 rx n => ?_⟩
  unfold nRev at n
  split at n
  · rename_i p
    cases rx
    split at n
    · rename_i ds e1
      obtain ⟨vs, h1, r1⟩ := s1.lst e1
      exact ⟨p, vs, rfl, SqL.of h1, fun q nq => k _ _ _ _ (x1.trans (.new nq)) (lst_ok s1 nq r1.reverse) (.ref q) (n q (s1.fresh nq))⟩
    · exact n.elim
  · exact n.elim
def nNeg : D → Sto → NQ → Prop := fun x S Q => match x with
  | .int i => Q (.int (-i)) S
  | _ => False
theorem je_neg (he : JE X H0 a ma) : JE X H0 (.UnaryOp .USub a pos) (mUn nNeg ma) := by
  refine (pe_un un_neg he).imq fun σ H Q h => ?_
  obtain ⟨e, S, Q', A, m, k⟩ := h
  refine ⟨e, S, _, A, m, fun x S1 vx H1 x1 s1 rx n => ?_⟩
  unfold nNeg at n
  split at n
  · rename_i i
    cases rx
    exact ⟨i, rfl, k _ _ _ _ x1 s1 (.int _) n⟩
  · exact n.elim

/-! ### fields -/
theorem KVR.look {K : PySem.W.Frag} {H : Hp} {f : Str} : ∀ {fs : List (Str × D)} {ws : List (Str × V)}, KVR K H fs ws → (∀ d, fs.lookup f = some d → ∃ v, ws.lookup f = some v ∧ VR K H d v) ∧ (fs.lookup f = none → ws.lookup f = none)
  | _, _, .nil => ⟨fun d h => (by cases h), fun _ => rfl⟩
  | (g, d0) :: fs, (g', v0) :: ws, .cons h t => by
    have ih := KVR.look (f := f) t
    obtain ⟨h1, h2⟩ := h
    have h1 : g = g' := h1
    subst h1
    rw [List.lookup_cons, List.lookup_cons]
    cases e : (f == g) with
    | true => exact ⟨fun d q => by cases q; exact ⟨_, rfl, h2⟩, fun q => by cases q⟩
    | false => exact ih
def putD (f : Str) (v : D) : List (Str × D) → List (Str × D)
  | [] => [(f, v)]
  | (g, u) :: r => if g = f then (g, v) :: r else (g, u) :: putD f v r
theorem putD_ok {K : PySem.W.Frag} {H : Hp} {f : Str} {d : D} {v : V} (r : VR K H d v) : ∀ {fs : List (Str × D)} {ws : List (Str × V)}, KVR K H fs ws → KVR K H (putD f d fs) (putF f v ws)
  | _, _, .nil => .cons ⟨rfl, r⟩ .nil
  | (g, d0) :: fs, (g', v0) :: ws, .cons h t => by
    obtain ⟨h1, h2⟩ := h
    have h1 : g = g' := h1
    subst h1
    unfold putD putF
    by_cases e : g = f
    · rw [if_pos e, if_pos e]; exact .cons ⟨rfl, r⟩ t
    · rw [if_neg e, if_neg e]; exact .cons ⟨rfl, h2⟩ (putD_ok r t)
def nFld (f : Str) : D → Sto → NQ → Prop := fun x S Q => match x with
  | .ref a => (match S a with
    | some (.ins _ fs) => (match fs.lookup f with
      | some v => Q v S
      | none => False)
    | _ => False)
  | _ => False
theorem je_fld {f : Str} (he : JE X H0 a ma) (hf : f ∈ FN := by decide +kernel) (hb : attributeBase a f X.env (eval a X.env) = eval a X.env := by rfl) : JE X H0 (.Attribute a f pos) (mUn (nFld f) ma) := by
  refine (pe_fld he hb).imq fun σ H Q h => ?_
  obtain ⟨e, S, Q', A, m, k⟩ := h
  refine ⟨e, S, _, A, m, fun x S1 vx H1 x1 s1 rx n => ?_⟩
  unfold nFld at n
  split at n
  · rename_i p
    cases rx
    split at n
    · rename_i c fs e1
      obtain ⟨dx, ws, h1, r1, co⟩ := s1.ins e1
      split at n
      · rename_i d ed
        obtain ⟨v, h2, h3⟩ := (KVR.look (f := f) r1).1 d ed
        exact ⟨p, _, dx, ws, v, rfl, h1, co.cl, co.no f hf, h2, k _ _ _ _ x1 s1 h3 n⟩
      · exact n.elim
    · exact n.elim
  · exact n.elim
theorem SR.setIns {K : PySem.W.Frag} {S : Sto} {H : Hp} {p dx : Addr} {c f : Str} {fs : List (Str × D)} {ws : List (Str × V)} {d : D} {v : V} (s : SR K S H) (h : H p = some (.ins (He.ga K c) dx ws)) (r : KVR K H fs ws) (co : ClsOk K c) (rv : VR K H d v) :
    HExt H (upd H p (.ins (He.ga K c) dx (putF f v ws))) ∧ SR K (N.put S p (.ins c (putD f d fs))) (upd H p (.ins (He.ga K c) dx (putF f v ws))) := by
  have x : HExt H (upd H p (.ins (He.ga K c) dx (putF f v ws))) := .upd h True.intro
  exact ⟨x, s.put (o := .ins c (putD f d fs)) x ⟨dx, _, upd_same, KVR.ext x (putD_ok rv r), co⟩⟩
def sFldN (f : Str) (mv mo : NE) : NS := fun D e S => mv e S fun y S1 => mo e S1 fun x S2 => match x with
  | .ref a => (match S2 a with
    | some (.ins c fs) => fs.length < 1000 ∧ D.nx e (put S2 a (.ins c (putD f y fs)))
    | _ => False)
  | _ => False
theorem js_fld {f : Str} {value : Expr} {mv : NE} {pos' : Pos} (ho : JE X H0 o mo) (hv : JE X H0 value mv) (hf : f ∈ FN := by decide +kernel) (hs : swapsWith value (some (.Attribute o f pos')) pos.line X.env = pure false := by rfl) :
    JS X H0 (.Assign [.Attribute o f pos'] value pos) (sFldN f mv mo) := by
  refine (ps_fld ho hv hs).imq fun D σ H h => ?_
  obtain ⟨e, S, D', A, m, k⟩ := h
  refine ⟨e, S, _, A, m, fun y S1 vy H1 x1 s1 ry m1 => ?_⟩
  refine ⟨e, S1, _, A.next x1 s1, m1, fun x S2 vx H2 x2 s2 rx n => ?_⟩
  split at n
  · rename_i p
    cases rx
    split at n
    · rename_i c fs e1
      obtain ⟨dx, ws, h1, r1, co⟩ := s2.ins e1
      obtain ⟨x3, s3⟩ := s2.setIns (f := f) h1 r1 co (ry.ext x2)
      refine ⟨p, _, dx, ws, rfl, h1, co.cl, co.no f hf, by have := Paired.length r1; omega, ?_⟩
      exact k.nx _ _ _ _ ((x1.trans x2).trans x3) (A.next ((x1.trans x2).trans x3) s3) n.2
    · exact n.elim
  · exact n.elim
end
end N

set_option Elab.async false
set_option linter.all false
set_option maxRecDepth 100000
set_option maxHeartbeats 4000000
namespace N
variable [TabList]
open PySem PySem.Spec PyProof.Rows L2

/-! ### calls of built-ins -/
def mCallB (n : NL) (mr : NA) : NE := fun e S Q => mr e S fun ds S1 => n ds S1 Q
section
variable {X : Cx} {H0 : Hp} {a b c o : Expr} {ma mb mo : NE} {pos : Pos} {es : List Expr} {mr : NA}
theorem callb_ok {r : List V → Hp → VK → Prop} {n : NL} (hn : OpL X.K r n) {σ : L2.St} {H : Hp} {Q : VK} (h : lE X.K H0 (mCallB n mr) σ H Q) : tCB r (lA X.K H0 mr) σ H Q := by
  obtain ⟨e, S, Q', A, m, k⟩ := h
  refine ⟨e, S, _, A, m, fun ds S1 vs H1 x1 s1 rs m1 => ?_⟩
  exact hn ds S1 Q' vs H1 Q s1 rs m1 fun d S' v H' x2 s2 rd q => k d S' v H' (x1.trans x2) s2 rd q
theorem je_callB {x : Str} {id : String} {p : Pos} {n : NL} (hc : CallN X (.builtin id) n) (hm : X.mg x = none) (ha : JA X H0 (a :: es) mr) (hv : bootBuiltins x = some (.builtin id) := by decide +kernel) (hg : Gl X x := by rfl)
    (hn : x ≠ "__name__" := by decide +kernel) (hdb : (x == ("__debug__" : Str)) = false := by decide +kernel)
    (he : starEach (a :: es) X.env = (false, eval a X.env) :: starEach es X.env := by rfl) (hpl : (backTo pos (starEach es X.env)).any (·.1) = false := by rfl) : JE X H0 (.Call (.Name x p) (a :: es) [] pos) (mCallB n mr) := by
  obtain ⟨r, h1, h2⟩ := hc
  exact (pe_callB h1 hg hm hv ha hn hdb he hpl).imq fun _ _ _ h => callb_ok h2 h
theorem je_callTy {x : Str} {T : String} {p : Pos} {n : NL} (hc : CallN X (.type T) n) (hm : X.mg x = none) (ha : JA X H0 (a :: es) mr) (hv : bootBuiltins x = some (.type T) := by decide +kernel) (hg : Gl X x := by rfl)
    (hn : x ≠ "__name__" := by decide +kernel) (hdb : (x == ("__debug__" : Str)) = false := by decide +kernel)
    (he : starEach (a :: es) X.env = (false, eval a X.env) :: starEach es X.env := by rfl) (hpl : (backTo pos (starEach es X.env)).any (·.1) = false := by rfl) : JE X H0 (.Call (.Name x p) (a :: es) [] pos) (mCallB n mr) := by
  obtain ⟨r, h1, h2⟩ := hc
  exact (pe_callTy h1 hg hm hv ha hn hdb he hpl).imq fun _ _ _ h => callb_ok h2 h

/-- how many items, signs, entries -/
def lenD (S : Sto) (d : D) : Option Nat := match d with
  | .str z => if z.length ≤ sizeLine then some z.length else none
  | d => match seqOf S d with
    | some ds => some ds.length
    | none => (dicOf S d).map List.length
def nLen : NL := fun xs S Q => match xs with
  | [d] => (match lenD S d with
    | some n => Q (.int n) S
    | none => False)
  | _ => False
theorem call_lenDict : CallR X (.builtin "len") (fun xs H Q => ∃ a kvs, xs = [.ref a] ∧ H a = some (.dK kvs) ∧ Q (.int kvs.length) H) := by
  intro pins s σ H xs us Q I r h
  obtain ⟨p, kvs, rfl, e, q⟩ := h
  obtain rfl := Vals.ref1 r
  exact d_len I (.of e) fun t s' I' => ⟨.int kvs.length, H, I', ⟨t, rfl⟩, q⟩
theorem vrs1 {K : PySem.W.Frag} {H : Hp} {d : D} {vs : List V} (r : VRs K H [d] vs) : ∃ v, vs = [v] ∧ VR K H d v := by
  cases r with
  | cons r t => cases t; exact ⟨_, rfl, r⟩
theorem vrs2 {K : PySem.W.Frag} {H : Hp} {d d' : D} {vs : List V} (r : VRs K H [d, d'] vs) : ∃ v w, vs = [v, w] ∧ VR K H d v ∧ VR K H d' w := by
  cases r with
  | cons r t =>
    cases t with
    | cons r' t => cases t; exact ⟨_, _, rfl, r, r'⟩
theorem callN_len : CallN X (.builtin "len") nLen := by
  refine ⟨_, call_len_seq.or (call_len_str.or call_lenDict), fun xs S Q vs H Q' s r n k => ?_⟩
  unfold nLen at n
  split at n
  · rename_i d
    obtain ⟨v, rfl, rd⟩ := vrs1 r
    split at n
    · rename_i l el
      unfold lenD at el
      split at el
      · rename_i z
        cases rd
        split at el
        · rename_i hz
          cases el
          exact .inr (.inl ⟨z, rfl, hz, k _ _ _ _ (.refl H) s (.int _) n⟩)
        · cases el
      · split at el
        · rename_i ds e1
          cases el
          obtain ⟨p, ws, rfl, hs, r1⟩ := seqOf_ok s rd e1
          exact .inl ⟨p, ws, rfl, hs, by rw [← r1.length]; exact k _ _ _ _ (.refl H) s (.int _) n⟩
        · simp only [Option.map_eq_some_iff] at el
          obtain ⟨kvs, e2, rfl⟩ := el
          obtain ⟨p, ws, rfl, rfl, _, h1, r1⟩ := dicOf_ok s rd e2
          exact .inr (.inr ⟨p, ws, rfl, h1, by rw [← Paired.length r1]; exact k _ _ _ _ (.refl H) s (.int _) n⟩)
    · exact n.elim
  · exact n.elim
def nMax2 : NL := fun xs S Q => match xs with
  | [.int i, .int j] => Q (.int (if j > i then j else i)) S
  | _ => False
def nMin2 : NL := fun xs S Q => match xs with
  | [.int i, .int j] => Q (.int (if j < i then j else i)) S
  | _ => False
theorem callN_max2 (hc : X.calm = true) : CallN X (.builtin "max") nMax2 := by
  refine ⟨_, call_max2 hc, fun xs S Q vs H Q' s r n k => ?_⟩
  unfold nMax2 at n
  split at n
  · rename_i i j
    obtain ⟨v, w, rfl, r1, r2⟩ := vrs2 r
    cases r1; cases r2
    exact ⟨i, j, rfl, k _ _ _ _ (.refl H) s (.int _) n⟩
  · exact n.elim
theorem callN_min2 (hc : X.calm = true) : CallN X (.builtin "min") nMin2 := by
  refine ⟨_, call_min2 hc, fun xs S Q vs H Q' s r n k => ?_⟩
  unfold nMin2 at n
  split at n
  · rename_i i j
    obtain ⟨v, w, rfl, r1, r2⟩ := vrs2 r
    cases r1; cases r2
    exact ⟨i, j, rfl, k _ _ _ _ (.refl H) s (.int _) n⟩
  · exact n.elim
def nAbs : NL := fun xs S Q => match xs with
  | [.int i] => Q (.int (if i < 0 then -i else i)) S
  | _ => False
theorem callN_abs : CallN X (.builtin "abs") nAbs := by
  refine ⟨_, call_abs, fun xs S Q vs H Q' s r n k => ?_⟩
  unfold nAbs at n
  split at n
  · rename_i i
    obtain ⟨v, rfl, r1⟩ := vrs1 r
    cases r1
    exact ⟨i, rfl, k _ _ _ _ (.refl H) s (.int _) n⟩
  · exact n.elim
/-- int(a number, a truth) -/
def nInt1 : NL := fun xs S Q => match xs with
  | [.int i] => Q (.int i) S
  | [.bl b] => Q (.int (if b then 1 else 0)) S
  | [.str z] => ∃ n, PySem.intText? z = some n ∧ z.length ≤ 640 ∧ Q (.int n) S
  | _ => False
theorem callN_int : CallN X (.type "int") nInt1 := by
  refine ⟨_, call_int1.or call_int_str, fun xs S Q vs H Q' s r n k => ?_⟩
  unfold nInt1 at n
  split at n
  · rename_i i
    obtain ⟨v, rfl, r1⟩ := vrs1 r
    cases r1
    exact .inl (.inl ⟨i, rfl, k _ _ _ _ (.refl H) s (.int _) n⟩)
  · rename_i i
    obtain ⟨v, rfl, r1⟩ := vrs1 r
    cases r1
    exact .inl (.inr ⟨i, rfl, k _ _ _ _ (.refl H) s (.int _) n⟩)
  · rename_i z
    obtain ⟨v, rfl, r1⟩ := vrs1 r
    cases r1
    obtain ⟨m, h1, h2, h3⟩ := n
    exact .inr ⟨z, m, rfl, h1, h2, k _ _ _ _ (.refl H) s (.int _) h3⟩
  · exact n.elim
/-- str(a number) -/
def nStr1 : NL := fun xs S Q => match xs with
  | [.int i] => i.natAbs < 2 ^ 1900 ∧ Q (.str (toString i)) S
  | _ => False
theorem callN_str : CallN X (.type "str") nStr1 := by
  refine ⟨_, call_str_int, fun xs S Q vs H Q' s r n k => ?_⟩
  unfold nStr1 at n
  split at n
  · rename_i i
    obtain ⟨v, rfl, r1⟩ := vrs1 r
    cases r1
    exact ⟨i, rfl, Nat.lt_of_lt_of_le (PySem.Flt.log2_lt_of (by decide) n.1) (by decide), k _ _ _ _ (.refl H) s (.str _) n.2⟩
  · exact n.elim
/-- list(a list, a tuple) -/
def nList1 : NL := fun xs S Q => match xs with
  | [d] => (match seqOf S d with
    | some ds => ∀ p, S p = none → Q (.ref p) (put S p (.lst ds))
    | none => False)
  | _ => False
theorem callN_list : CallN X (.type "list") nList1 := by
  refine ⟨_, call_list_of, fun xs S Q vs H Q' s r n k => ?_⟩
  unfold nList1 at n
  split at n
  · rename_i d
    obtain ⟨v, rfl, rd⟩ := vrs1 r
    split at n
    · rename_i ds e1
      obtain ⟨p, ws, rfl, hs, r1⟩ := seqOf_ok s rd e1
      exact ⟨p, ws, rfl, hs, fun q nq => k _ _ _ _ (.new nq) (lst_ok s nq r1) (.ref q) (n q (s.fresh nq))⟩
    · exact n.elim
  · exact n.elim
/-- tuple(a list, a tuple) -/
def nTuple1 : NL := fun xs S Q => match xs with
  | [d] => (match seqOf S d with
    | some ds => Q (.tup ds) S
    | none => False)
  | _ => False
theorem callN_tuple : CallN X (.type "tuple") nTuple1 := by
  refine ⟨_, call_tuple_of, fun xs S Q vs H Q' s r n k => ?_⟩
  unfold nTuple1 at n
  split at n
  · rename_i d
    obtain ⟨v, rfl, rd⟩ := vrs1 r
    split at n
    · rename_i ds e1
      cases d with
      | tup es =>
        cases e1
        cases rd with
        | tup t r1 => exact ⟨_, _, rfl, .inr ⟨t.sq, k _ _ _ _ (.refl H) s (.tup t r1) n⟩⟩
      | rol es =>
        cases e1
        cases rd with
        | rol t r1 => exact ⟨_, _, rfl, .inl ⟨t.sq, fun q nq => k _ _ _ _ (.new nq) (s.more nq) (.tup (.inl upd_same) (r1.ext (.new nq))) n⟩⟩
      | ref a =>
        cases rd
        unfold seqOf at e1
        dsimp only at e1
        split at e1
        · rename_i es e2
          cases e1
          obtain ⟨ws, h1, r1⟩ := s.lst e2
          exact ⟨_, _, rfl, .inl ⟨SqL.of h1, fun q nq => k _ _ _ _ (.new nq) (s.more nq) (.tup (.inl upd_same) (r1.ext (.new nq))) n⟩⟩
        · cases e1
      | _ => cases e1
    · exact n.elim
  · exact n.elim

/-! ### isinstance -/
inductive Tg where
  | ty (n : String) | cls (c : Str)
  deriving DecidableEq
def Tg.v (K : PySem.W.Frag) : Tg → Value
  | .ty n => .type n
  | .cls c => .ref (He.ga K c)
def isT : Tg → Tg → Bool
  | .ty a, .ty b => a == b || (a == "bool" && b == "int")
  | .ty _, .cls _ => false
  | .cls _, .ty b => b == "ValueError"
  | .cls c, .cls d => decide (c = d) || decide (d = "MartError")
/-- the kinds that are asked, those that are asked for; CL: the text's own errors -/
def T1 (CL : List Str) : List Tg := [.ty "NoneType", .ty "bool", .ty "int", .ty "str", .ty "tuple", .ty "list", .ty "dict"] ++ CL.map Tg.cls
def T2 (CL : List Str) : List Tg := [.ty "int", .ty "bool", .ty "str", .ty "tuple", .ty "ValueError", .cls "MartError"] ++ CL.map Tg.cls
/-- what the text says of its classes of errors -/
structure KF (CL : List Str) (K : PySem.W.Frag) : Prop where
  isa : ∀ t ∈ T1 CL, ∀ u ∈ T2 CL, PySem.W.kitOne K (t.v K) (u.v K) = some (isT t u)
  exc : ∀ c ∈ CL, ExcC K (He.ga K c)
def tgOf (S : Sto) : D → Option Tg
  | .non => some (.ty "NoneType")
  | .bl _ => some (.ty "bool")
  | .int _ => some (.ty "int")
  | .str _ => some (.ty "str")
  | .tup _ => some (.ty "tuple")
  | .rol _ => some (.ty "list")
  | .ref a => (match S a with
    | some (.lst _) => some (.ty "list")
    | some (.dic _) => some (.ty "dict")
    | some (.exc c none) => some (.cls c)
    | _ => none)
  | _ => none
def clOf : D → Option Tg
  | .ty n => some (.ty n)
  | .cls c => some (.cls c)
  | _ => none
def clsOf : List D → Option (List Tg)
  | [] => some []
  | d :: r => match clOf d, clsOf r with
    | some t, some ts => some (t :: ts)
    | _, _ => none
def nIsi (CL : List Str) : NL := fun xs S Q => match xs with
  | [x, c] => (match tgOf S x with
    | some t => (match clOf c with
      | some u => (T1 CL).contains t = true ∧ (T2 CL).contains u = true ∧ Q (.bl (isT t u)) S
      | none => match c with
        | .tup cs => (match clsOf cs with
          | some us => (T1 CL).contains t = true ∧ us.all ((T2 CL).contains ·) = true ∧ Q (.bl (us.any (isT t))) S
          | none => False)
        | _ => False)
    | none => False)
  | _ => False
/-- isinstance of a caught exception that is held -/
def rIsX (K : PySem.W.Frag) : List V → Hp → VK → Prop := fun xs H Q => ∃ (p C : Addr) (c : V) (cv : Value) (b : Bool), xs = [.ref p, c] ∧ H p = some (.ext (excP p (.ref C) none)) ∧ ExcC K C ∧ (∀ u, RelV c u → u = cv) ∧ PySem.W.kitOne K (.ref C) cv = some b ∧ Q (.bl b) H
theorem inst_of {X : Cx} {pins : List (Addr × Obj)} {σ : L2.St} {H : Hp} {s : Shared} {p C : Addr} (I : Inv X pins σ H s) (e : H p = some (.ext (excP p (.ref C) none))) : ∃ oe, PySem.W.InstAt s.heap p oe C none := by
  obtain ⟨⟨oe, vs, h1, h2, h3⟩, _⟩ := I.hok p _ e
  refine ⟨oe, ?_⟩
  obtain ⟨oc, od, oda, osl⟩ := oe
  obtain ⟨h4, h5⟩ := h2
  dsimp only at h4 h5 h3
  subst h4 h5 h3
  exact ⟨h1, rfl, rfl, trivial⟩
theorem call_isX : CallR X (.builtin "isinstance") (rIsX X.K) := by
  intro pins s σ H xs us Q I r h
  obtain ⟨p, C, c, cv, b, rfl, e, EC, hcv, kb, q⟩ := h
  obtain ⟨u1, u2, rfl, r1, r2⟩ := vals2 r
  cases r1
  have ec := hcv _ r2
  subst ec
  obtain ⟨oe, J⟩ := inst_of I e
  exact PySem.W.kia_one (PySem.W.handS_kitx_exc EC.hg EC.hk EC.hs EC.hd EC.ha EC.hn EC.ht EC.hm) I.kIn J kb (fun z => nomatch z) fun tk => ⟨.bl b, H, I.kept (t' := tk) fun _ _ z => z, rfl, q⟩
/-- .. for a tuple of classes that was made -/
def rIsXT (K : PySem.W.Frag) : List V → Hp → VK → Prop := fun xs H Q => ∃ (p C tp : Addr) (cs : List V) (us : List Value) (b : Bool), xs = [.ref p, .ref tp] ∧ H p = some (.ext (excP p (.ref C) none)) ∧ ExcC K C ∧ TupR K H tp cs ∧ Paired ClsV cs us ∧ PySem.W.kitAny K (.ref C) us = some b ∧ Q (.bl b) H
theorem call_isXT : CallR X (.builtin "isinstance") (rIsXT X.K) := by
  intro pins s σ H xs us Q I r h
  obtain ⟨p, C, tp, cs, ws, b, rfl, e, EC, et, pc, kb, q⟩ := h
  obtain ⟨u1, u2, rfl, r1, r2⟩ := vals2 r
  cases r1; cases r2
  obtain ⟨oe, J⟩ := inst_of I e
  obtain ⟨its, rv, ht, hz⟩ := I.tuple et.sq
  have ei := ClsV.all pc rv
  subst ei
  obtain ⟨ot, g1, g2, n, g3⟩ := ht
  obtain ⟨oc, od, oda, osl⟩ := ot
  dsimp only at g2 g3
  subst g2 g3
  exact PySem.W.kia_tup (PySem.W.handS_kitx_exc EC.hg EC.hk EC.hs EC.hd EC.ha EC.hn EC.ht EC.hm) I.kIn J g1 kb (fun z => nomatch z) fun tk => ⟨.bl b, H, I.kept (t' := tk) fun _ _ z => z, rfl, q⟩
theorem clOf_ok {K : PySem.W.Frag} {H : Hp} {d : D} {v : V} {u : Tg} (r : VR K H d v) (e : clOf d = some u) : ClsV v (u.v K) := by
  cases r with
  | ty n => cases e; exact .ty n
  | cls c => cases e; exact .own _
  | _ => cases e
theorem clsOf_ok {K : PySem.W.Frag} {H : Hp} : ∀ {ds : List D} {vs : List V} {us : List Tg}, VRs K H ds vs → clsOf ds = some us → Paired ClsV vs (us.map (Tg.v K))
  | _, _, _, .nil, e => by
    simp only [clsOf, Option.some.injEq] at e
    subst e; exact .nil
  | _, _, _, .cons r t, e => by
    simp only [clsOf] at e
    split at e
    · rename_i a b e1 e2
      cases e
      exact .cons (clOf_ok r e1) (clsOf_ok t e2)
    · cases e
theorem kitAny_ok {CL : List Str} {K : PySem.W.Frag} (F : KF CL K) {t : Tg} (ht : t ∈ T1 CL) : ∀ {us : List Tg}, us.all ((T2 CL).contains ·) = true → PySem.W.kitAny K (t.v K) (us.map (Tg.v K)) = some (us.any (isT t))
  | [], _ => kitAny_nil
  | u :: us, h => by
    rw [List.all_cons, Bool.and_eq_true] at h
    rw [List.map_cons, List.any_cons]
    refine kitAny_cons (F.isa t ht u (List.contains_iff_mem.mp h.1)) (fun e => ?_) fun e => by rw [e]; rfl
    rw [e, Bool.false_or]
    exact kitAny_ok F ht h.2
/-- a value's kind, in the layer's words -/
theorem tgOf_ok {K : PySem.W.Frag} {S : Sto} {H : Hp} {x : D} {v : V} {t : Tg} (s : SR K S H) (r : VR K H x v) (e : tgOf S x = some t) : TyX K H v (t.v K) ∨ ∃ p c, v = .ref p ∧ t = .cls c ∧ H p = some (.ext (excP p (.ref (He.ga K c)) none)) := by
  cases r with
  | non => cases e; exact .inl (.base .non)
  | bl b => cases e; exact .inl (.base (.bl b))
  | int b => cases e; exact .inl (.base (.int b))
  | str b => cases e; exact .inl (.base (.str b))
  | tup tr _ =>
    cases e
    rcases tr with h | ⟨dd, sl, its, n, h, _⟩
    · exact .inl (.base (.tup h))
    · exact .inl (.kTuple h rfl)
  | rol tr _ =>
    cases e
    rcases tr with ⟨o, h⟩ | ⟨o, its, n, h, hc, _⟩
    · exact .inl (.base (.frz h))
    · exact .inl (.kList h hc)
  | ref p =>
    unfold tgOf at e
    dsimp only at e
    split at e
    · rename_i ds e1
      cases e
      obtain ⟨vs, h1, _⟩ := s.lst e1
      exact .inl (.base (.lst h1))
    · rename_i ds e1
      cases e
      obtain ⟨vs, h1, _⟩ := s.dic e1
      exact .inl (.base (.dK h1))
    · rename_i c e1
      cases e
      exact .inr ⟨p, c, rfl, rfl, s p _ e1⟩
    · cases e
  | ty n => cases e
  | cls n => cases e
theorem isE_mem {CL : List Str} {c : Str} (h : Tg.cls c ∈ T1 CL) : c ∈ CL := by
  unfold T1 at h
  rcases List.mem_append.mp h with h | h
  · simp only [List.mem_cons, List.not_mem_nil, or_false, reduceCtorEq] at h
  · obtain ⟨d, hd, e⟩ := List.mem_map.mp h
    cases e; exact hd
theorem callN_isi {CL : List Str} (F : KF CL X.K) : CallN X (.builtin "isinstance") (nIsi CL) := by
  refine ⟨_, (call_isi.or call_isiT).or ((call_isX.or call_isXT).or call_isiK), fun xs S Q vs H Q' s r n k => ?_⟩
  unfold nIsi at n
  split at n
  · rename_i x c
    obtain ⟨v, w, rfl, rx, rc⟩ := vrs2 r
    split at n
    · rename_i t et
      split at n
      · rename_i u eu
        obtain ⟨n1, n2, n3⟩ := n
        have h1 := List.contains_iff_mem.mp n1
        have kb := F.isa t h1 u (List.contains_iff_mem.mp n2)
        have cv := clOf_ok rc eu
        have q := k _ _ _ _ (.refl H) s (.bl _) n3
        rcases tgOf_ok s rx et with ty | ⟨p, c', rfl, rfl, e⟩
        · exact .inl (.inl ⟨v, w, _, _, _, rfl, cv, ty, kb, q⟩)
        · exact .inr (.inl (.inl ⟨p, _, w, _, _, rfl, e, F.exc _ (isE_mem h1), fun z rz => cv.eq rz, kb, q⟩))
      · split at n
        · rename_i cs _
          split at n
          · rename_i us eus
            obtain ⟨n1, n2, n3⟩ := n
            have h1 := List.contains_iff_mem.mp n1
            have kb := kitAny_ok F h1 n2
            have q := k _ _ _ _ (.refl H) s (.bl _) n3
            cases rc with
            | tup tr rr =>
              rename_i tp ws
              have cv := clsOf_ok rr eus
              rcases tr with h | ⟨dd, sl, its, m, h, hz, rv⟩
              · rcases tgOf_ok s rx et with ty | ⟨p, c', rfl, rfl, e⟩
                · exact .inl (.inr ⟨v, tp, ws, _, _, _, rfl, h, cv, ty, kb, q⟩)
                · exact .inr (.inl (.inr ⟨p, _, tp, ws, _, _, rfl, e, F.exc _ (isE_mem h1), .inl h, cv, kb, q⟩))
              · rcases tgOf_ok s rx et with ty | ⟨p, c', rfl, rfl, e⟩
                · refine .inr (.inr ⟨v, tp, dd, us.map (Tg.v X.K), m, sl, _, _, rfl, ?_, ty, kb, q⟩)
                  rw [← ClsV.all cv rv]; exact h
                · exact .inr (.inl (.inr ⟨p, _, tp, ws, _, _, rfl, e, F.exc _ (isE_mem h1), .inr ⟨dd, sl, its, m, h, hz, rv⟩, cv, kb, q⟩))
          · exact n.elim
        · exact n.elim
    · exact n.elim
  · exact n.elim
end
end N

set_option Elab.async false
set_option linter.all false
set_option maxRecDepth 100000
set_option maxHeartbeats 4000000
namespace N
variable [TabList]
open PySem PySem.Spec PyProof.Rows L2

/-! ### the context of a body -/
structure NX (X : Cx) (H0 : Hp) (w : NW) : Prop where
  tk : Takes X (lW X.K H0 w)
  po : PassesOwn (model X.prog X.w) X.A X.env X.xe
  calm : X.calm = true
  tb : LamX.Tabs TabList.T H0

/-! ### what a def promises -/
abbrev NSp := List D → Sto → NQ → (Str → Option Addr → Sto → Prop) → Prop
def lSp (K : PySem.W.Frag) (n : Nat) (sp : NSp) : Sp := fun vs H Q E => ∃ ds S Q' E', ds.length = n ∧ VRs K H ds vs ∧ SR K S H ∧ LamX.Tabs TabList.T H ∧ sp ds S Q' E' ∧
  (∀ d S' v H', HExt H H' → SR K S' H' → VR K H' d v → Q' d S' → Q v H') ∧ ∀ c d S' H', HExt H H' → SR K S' H' → E' c d S' → E (.ref (He.ga K c)) d H'
theorem lSp.len {K : PySem.W.Frag} {n : Nat} {sp : NSp} {vs : List V} {H : Hp} {Q : VK} {E : XK} (h : lSp K n sp vs H Q E) : vs.length = n := by
  obtain ⟨ds, S, Q', E', h1, h2, _⟩ := h
  rw [← h2.length]; exact h1
/-- what a caller needs of a def: ds the defaults that fill up -/
structure Fn (P : Program) (w : World) (K : PySem.W.Frag) (mg : Str → Option Value) (base : Heap) (k : Nat) (f : Addr) (n : Nat) (sp : NSp) : Prop where
  ex : ∃ fd ps, ps.length = n ∧ FnOk P w K mg base (L2.CX P w) k f fd ps (lSp K n sp) ∧ Binds K fd ps []
  kp : PySem.W.keepIn K (.ref f) = true
section
variable {X : Cx} {H0 : Hp} {w : NW} {a b c o : Expr} {ma mb mo : NE} {pos : Pos} {es : List Expr} {mr : NA} {k n : Nat} {f : Addr} {sp : NSp}
theorem sp_ok (cx : NX X H0 w) {e : Env} {S : Sto} {Q' : NQ} {ds : List D} {vs : List V} {σ : L2.St} {H H1 : Hp} {Q : VK} (A : At X.K H0 H1 σ e S) (x1 : HExt H H1) (rs : VRs X.K H1 ds vs) (hn : ds.length = n) (m : sp ds S Q' fun c d S' => w c d e S')
    (kk : ∀ d S' v H', HExt H H' → SR X.K S' H' → VR X.K H' d v → Q' d S' → Q v H') : lSp X.K n sp vs H1 Q (WE (lW X.K H0 w) σ) :=
  ⟨ds, S, Q', _, hn, rs, A.s, A.x.tab cx.tb, m, fun d S' v H' x s r q => kk d S' v H' (x1.trans x) s r q, fun c d S' H' x s q => ⟨c, e, S', rfl, A.next x s, q⟩⟩
def mCall (n : Nat) (sp : NSp) (w : NW) (mr : NA) : NE := fun e S Q => mr e S fun ds S1 => ds.length = n ∧ sp ds S1 Q fun c d S2 => w c d e S2
theorem je_call {x : Str} {p : Pos} (cx : NX X H0 w) (F : Fn X.prog X.w X.K X.mg X.base k f n sp) (hm : X.mg x = some (.ref f)) (hr : Room k X.A) (ha : JA X H0 (a :: es) mr) (hg : Gl X x := by rfl)
    (hdb : (x == ("__debug__" : Str)) = false := by decide +kernel) (he : starEach (a :: es) X.env = (false, eval a X.env) :: starEach es X.env := by rfl) (hpl : (backTo pos (starEach es X.env)).any (·.1) = false := by rfl) :
    JE X H0 (.Call (.Name x p) (a :: es) [] pos) (mCall n sp w mr) := by
  obtain ⟨fd, ps, h1, h2, h3⟩ := F.ex
  refine (pe_callS h2 hr hg hm F.kp h3 (fun σ => passAt cx.tk σ) ha hdb he hpl).imq fun σ H Q h => ?_
  obtain ⟨e, S, Q', A, m, kk⟩ := h
  exact ⟨e, S, _, A, m, fun ds S1 vs H1 x1 s1 rs q => sp_ok cx (A.next x1 s1) x1 rs q.1 q.2 kk⟩
theorem je_call0 {x : Str} {p : Pos} (cx : NX X H0 w) (F : Fn X.prog X.w X.K X.mg X.base k f 0 sp) (hm : X.mg x = some (.ref f)) (hr : Room k X.A) (hg : Gl X x := by rfl)
    (hdb : (x == ("__debug__" : Str)) = false := by decide +kernel) : JE X H0 (.Call (.Name x p) [] [] pos) (mCall 0 sp w mNil) := by
  obtain ⟨fd, ps, h1, h2, h3⟩ := F.ex
  refine ⟨fun pins s σ H Q I h => ?_⟩
  obtain ⟨e, S, Q', A, m, kk⟩ := h
  refine wpAny_Call_Name_kw (ld_glob I hg hm ?_ hdb)
  refine PySem.W.callWith_K0 I.kIn F.kp (run_fnS (us := []) h2 hr h3 (passAt cx.tk σ) I .nil ?_)
  exact sp_ok cx A (.refl H) .nil m.1 m.2 kk

/-! ### methods: by the instance's class -/
/-- the reading: everything is told at the instance -/
def tMethD (X : Cx) (m : Str) (E : L2.St → XK) (ta : TE) (t : TA) : TE := fun σ H Q => ta σ H fun x H1 => ∃ (p C dx : Addr) (fs : List (Str × V)) (f : Addr) (fd : FuncData) (ps : List Str) (sp : Sp) (k : Nat), x = .ref p ∧ H1 p = some (.ins C dx fs) ∧ fs.lookup m = none ∧
  Cls X.K C ∧ Meth X.K C m f ∧ FnOk X.prog X.w X.K X.mg X.base (L2.CX X.prog X.w) k f fd ps sp ∧ Binds X.K fd ps [] ∧ Room k X.A ∧ t σ H1 fun vs H2 => sp (x :: vs) H2 Q (E σ)
theorem pe_methD {m : Str} {apos : Pos} {E : L2.St → XK} {ta : TE} {t : TA} {pl : Sem Bool} (he : PE X o ta) (hx : ∀ σ, PassesAt (L2.CX X.prog X.w) X σ (E σ)) (ha : PA X (a :: es) t)
    (hst : starEach (a :: es) X.env = (false, eval a X.env) :: starEach es X.env := by rfl) (hpl : (backTo pos (starEach es X.env)).any (·.1) = false := by rfl)
    (ht : eval (.Call (.Attribute o m apos) (a :: es) [] pos) X.env = (do
      let ov ← eval o X.env
      standAt apos.atName
      let (f, first) ← holding [ov] (getMethod ov m pl)
      callWith pos f first (backTo pos (starEach (a :: es) X.env)) (backToKw pos (keywordEach [] X.env))) := by rfl) :
    PE X (.Call (.Attribute o m apos) (a :: es) [] pos) (tMethD X m E ta t) := by
  refine ⟨fun pins s σ H Q I h => ?_⟩
  refine PySem.W.methodCall_KW (pl := pl) (thn (he.run pins s σ H _ I h) fun u s1 ⟨x, H1, I1, rx, p, C, dx, fs, f, fd, ps, sp, k, ex, ea, l, cl, hm, F, hb, hr, q⟩ => ?_) ht
  subst ex
  obtain rfl : u = Value.ref p := rx
  refine getmeth_ok I1 ea cl hm l ?_
  refine PySem.W.callWith_K (first := [.ref p]) (h₀ := X.base) I.ok.mod.kin hm.kp (thn (ha.run pos pins s1 σ H1 _ I1 q) fun us s2 ⟨vs, H2, I2, r, q2⟩ => ⟨I2.kIn, ?_⟩) hst hpl
  exact run_fnS (us := .ref p :: us) (vs := .ref p :: vs) F hr hb (hx σ) I2 (.cons rfl r) q2
theorem pe_methD0 {m : Str} {apos : Pos} {E : L2.St → XK} {ta : TE} {pl : Sem Bool} (he : PE X o ta) (hx : ∀ σ, PassesAt (L2.CX X.prog X.w) X σ (E σ))
    (ht : eval (.Call (.Attribute o m apos) [] [] pos) X.env = (do
      let ov ← eval o X.env
      standAt apos.atName
      let (f, first) ← holding [ov] (getMethod ov m pl)
      callWith pos f first (backTo pos (starEach [] X.env)) (backToKw pos (keywordEach [] X.env))) := by rfl) :
    PE X (.Call (.Attribute o m apos) [] [] pos) (tMethD X m E ta tNil) := by
  refine ⟨fun pins s σ H Q I h => ?_⟩
  refine PySem.W.methodCall_KW (pl := pl) (thn (he.run pins s σ H _ I h) fun u s1 ⟨x, H1, I1, rx, p, C, dx, fs, f, fd, ps, sp, k, ex, ea, l, cl, hm, F, hb, hr, q⟩ => ?_) ht
  subst ex
  obtain rfl : u = Value.ref p := rx
  refine getmeth_ok I1 ea cl hm l ?_
  exact PySem.W.callWith_K0 (first := [.ref p]) I1.kIn hm.kp (run_fnS (us := [.ref p]) (vs := [.ref p]) F hr hb (hx σ) I1 (.cons rfl .nil) q)
/-- which def a method's name means, by the class: the arguments' number (self too), the promise -/
abbrev MT := Str → Option (Nat × NSp)
structure MtOk (X : Cx) (m : Str) (mt : MT) : Prop where
  ok : ∀ c n sp, mt c = some (n, sp) → ∃ f k, Room k X.A ∧ Meth X.K (He.ga X.K c) m f ∧ Fn X.prog X.w X.K X.mg X.base k f n sp
def mMeth (m : Str) (mt : MT) (w : NW) (mo : NE) (mr : NA) : NE := fun e S Q => mo e S fun x S1 => match x with
  | .ref p => (match S1 p with
    | some (.ins c fs) => fs.lookup m = none ∧ (match mt c with
      | some (n, sp) => mr e S1 fun ds S2 => ds.length + 1 = n ∧ sp (.ref p :: ds) S2 Q fun c d S3 => w c d e S3
      | none => False)
    | _ => False)
  | _ => False
theorem meth_ok {m : Str} {mt : MT} (cx : NX X H0 w) (hmt : MtOk X m mt) {t : TA} (ht : ∀ σ H Q, lA X.K H0 mr σ H Q → t σ H Q) {σ : L2.St} {H : Hp} {Q : VK} (h : lE X.K H0 (mMeth m mt w mo mr) σ H Q) :
    tMethD X m (WE (lW X.K H0 w)) (lE X.K H0 mo) t σ H Q := by
  obtain ⟨e, S, Q', A, h, kk⟩ := h
  refine ⟨e, S, _, A, h, fun x S1 vx H1 x1 s1 rx n1 => ?_⟩
  split at n1
  · rename_i p
    cases rx
    split at n1
    · rename_i c fs e1
      obtain ⟨dx, ws, h1, r1, co⟩ := s1.ins e1
      obtain ⟨n1, n2⟩ := n1
      split at n2
      · rename_i n sp emt
        obtain ⟨f, k, hr, hm, F⟩ := hmt.ok c n sp emt
        obtain ⟨fd, ps, h3, h4, h5⟩ := F.ex
        refine ⟨p, _, dx, ws, f, fd, ps, _, k, rfl, h1, (KVR.look (f := m) r1).2 n1, co.cl, hm, h4, h5, hr, ht _ _ _ ?_⟩
        refine ⟨e, S1, _, A.next x1 s1, n2, fun ds S2 vs H2 x2 s2 rs q => ?_⟩
        exact sp_ok cx (A.next (x1.trans x2) s2) (x1.trans x2) (.cons (.ref p) rs) q.1 q.2 kk
      · exact n2.elim
    · exact n1.elim
  · exact n1.elim
theorem je_meth {m : Str} {mt : MT} {apos : Pos} {pl : Sem Bool} (cx : NX X H0 w) (hmt : MtOk X m mt) (he : JE X H0 o mo) (ha : JA X H0 (a :: es) mr)
    (hst : starEach (a :: es) X.env = (false, eval a X.env) :: starEach es X.env := by rfl) (hpl : (backTo pos (starEach es X.env)).any (·.1) = false := by rfl)
    (ht : eval (.Call (.Attribute o m apos) (a :: es) [] pos) X.env = (do
      let ov ← eval o X.env
      standAt apos.atName
      let (f, first) ← holding [ov] (getMethod ov m pl)
      callWith pos f first (backTo pos (starEach (a :: es) X.env)) (backToKw pos (keywordEach [] X.env))) := by rfl) :
    JE X H0 (.Call (.Attribute o m apos) (a :: es) [] pos) (mMeth m mt w mo mr) :=
  (pe_methD (pl := pl) he (fun σ => passAt cx.tk σ) ha hst hpl ht).imq fun _ _ _ h => meth_ok cx hmt (fun _ _ _ h => h) h
theorem je_meth0 {m : Str} {mt : MT} {apos : Pos} {pl : Sem Bool} (cx : NX X H0 w) (hmt : MtOk X m mt) (he : JE X H0 o mo)
    (ht : eval (.Call (.Attribute o m apos) [] [] pos) X.env = (do
      let ov ← eval o X.env
      standAt apos.atName
      let (f, first) ← holding [ov] (getMethod ov m pl)
      callWith pos f first (backTo pos (starEach [] X.env)) (backToKw pos (keywordEach [] X.env))) := by rfl) :
    JE X H0 (.Call (.Attribute o m apos) [] [] pos) (mMeth m mt w mo mNil) :=
  (pe_methD0 (pl := pl) he (fun σ => passAt cx.tk σ) ht).imq fun _ _ _ h => meth_ok cx hmt (fun σ H Q ⟨e, S, Q', A, m, k⟩ => k [] S [] H (.refl H) A.s .nil m) h

/-! ### a new instance -/
theorem run_makeS {C : Addr} {fd : FuncData} {ps : List Str} {sp : Sp} {E : XK} {pins : List (Addr × Obj)} {σ : L2.St} {H : Hp} {s : Shared} {Q : VK} {us : List Value} {vs : List V} (M : Mk X.K C f) (F : FnOk X.prog X.w X.K X.mg X.base (L2.CX X.prog X.w) k f fd ps sp) (hr : Room (k + 1) X.A) (hb : Binds X.K fd ps [])
    (hx : PassesAt (L2.CX X.prog X.w) X σ E) (I : Inv X pins σ H s) (r : Vals vs us)
    (h : ∀ x dx, H x = none → H dx = none → dx ≠ x → sp (.ref x :: vs) (upd (upd H dx (.own x)) x (.ins C dx [])) (fun v H2 => v = .non ∧ Q (.ref x) H2) E) :
    wpAny (model X.prog X.w) X.A (call (.ref C) us) (EP X pins σ Q) X.xe s := by
  have hq := h (s.heap.objs.size + 1) s.heap.objs.size (I.hok.fresh (Nat.le_succ _)) (I.hok.fresh (Nat.le_refl _)) (Nat.ne_of_lt (Nat.lt_succ_self _))
  have I2 := Inv.made (C := C) I
  have r2 : Vals (V.ref (s.heap.objs.size + 1) :: vs) (Value.ref (s.heap.objs.size + 1) :: us) := .cons rfl r
  have hl : (Value.ref (s.heap.objs.size + 1) :: us ++ []).length = ps.length := by
    have e := r2.length
    rw [F.len _ _ _ _ hq] at e
    rw [List.append_nil]
    exact e.symm
  have hbb := hb _ (Value.ref (s.heap.objs.size + 1) :: us) I2.kIn hl
  rw [List.append_nil] at hbb
  refine wpAny_call (make_map (f := f) I.kIn M.makes M.init (beq_iff_eq.mp M.fn) (codeAny_mono (F.run _ X.stack _ _ ⟨Value.ref (s.heap.objs.size + 1) :: us, []⟩ (Value.ref (s.heap.objs.size + 1) :: us) _ _ E (hr.make C us [])
    (I2.env0.make C us []) hbb r2 hq) fun r s' hq' => ?_))
  cases r with
  | error e => exact hx pins _ _ e s' I2 hq'
  | ok fl =>
    cases fl with
    | ret u =>
      obtain ⟨v, H', I3, rv, ev, q3⟩ := I2.after hq'
      subst ev
      exact ⟨rv, ⟨V.ref (s.heap.objs.size + 1), H', I3, rfl, q3⟩⟩
    | next => exact False.elim hq'
    | brk => exact False.elim hq'
    | cont => exact False.elim hq'
def mMake (c : Str) (n : Nat) (sp : NSp) (w : NW) (mr : NA) : NE := fun e S Q => mr e S fun ds S1 => ds.length + 1 = n ∧ ∀ x, S1 x = none → sp (.ref x :: ds) (put S1 x (.ins c [])) (fun v S2 => isNonD v = true ∧ Q (.ref x) S2) fun c d S2 => w c d e S2
theorem make_ok (cx : NX X H0 w) {c : Str} {vs : List V} {ds : List D} {e : Env} {S : Sto} {Q' : NQ} {σ : L2.St} {H H1 : Hp} {Q : VK} (co : ClsOk X.K c) (A : At X.K H0 H1 σ e S) (x1 : HExt H H1) (rs : VRs X.K H1 ds vs) (hn : ds.length + 1 = n)
    (m : ∀ x, S x = none → sp (.ref x :: ds) (put S x (.ins c [])) (fun v S2 => isNonD v = true ∧ Q' (.ref x) S2) fun c d S2 => w c d e S2)
    (kk : ∀ d S' v H', HExt H H' → SR X.K S' H' → VR X.K H' d v → Q' d S' → Q v H') (x dx : Addr) (nx : H1 x = none) (nd : H1 dx = none) (ne : dx ≠ x) :
    lSp X.K n sp (.ref x :: vs) (upd (upd H1 dx (.own x)) x (.ins (He.ga X.K c) dx [])) (fun v H2 => v = .non ∧ Q (.ref x) H2) (WE (lW X.K H0 w) σ) := by
  have nx2 : upd H1 dx (.own x) x = none := by rw [upd_ne (Ne.symm ne)]; exact nx
  have y1 : HExt H1 (upd H1 dx (.own x)) := .new nd
  have y2 : HExt (upd H1 dx (.own x)) (upd (upd H1 dx (.own x)) x (.ins (He.ga X.K c) dx [])) := .new nx2
  have s2 : SR X.K (put S x (.ins c [])) (upd (upd H1 dx (.own x)) x (.ins (He.ga X.K c) dx [])) := (A.s.more nd).put (o := .ins c []) y2 ⟨dx, [], upd_same, .nil, co⟩
  refine ⟨.ref x :: ds, _, _, _, hn, .cons (.ref x) (rs.ext (y1.trans y2)), s2, ((A.x.trans y1).trans y2).tab cx.tb, m x (A.s.fresh nx), fun d S' v H' z s r q => ?_, fun c d S' H' z s q => ?_⟩
  · obtain ⟨q1, q2⟩ := q
    refine ⟨?_, kk _ _ _ _ (((x1.trans y1).trans y2).trans z) s (.ref x) q2⟩
    cases d with
    | non => cases r; rfl
    | _ => cases q1
  · exact ⟨c, e, _, rfl, A.next ((y1.trans y2).trans z) s, q⟩
theorem je_make {c : Str} {p : Pos} (cx : NX X H0 w) (co : ClsOk X.K c) (M : Mk X.K (He.ga X.K c) f) (F : Fn X.prog X.w X.K X.mg X.base k f n sp) (hm : X.mg c = some (.ref (He.ga X.K c))) (hr : Room (k + 1) X.A) (ha : JA X H0 (a :: es) mr) (hg : Gl X c := by rfl)
    (hdb : (c == ("__debug__" : Str)) = false := by decide +kernel) (he : starEach (a :: es) X.env = (false, eval a X.env) :: starEach es X.env := by rfl) (hpl : (backTo pos (starEach es X.env)).any (·.1) = false := by rfl) :
    JE X H0 (.Call (.Name c p) (a :: es) [] pos) (mMake c n sp w mr) := by
  obtain ⟨fd, ps, h1, h2, h3⟩ := F.ex
  refine ⟨fun pins s σ H Q I h => ?_⟩
  obtain ⟨e, S, Q', A, m, kk⟩ := h
  refine wpAny_Call_Name_kw (ld_glob I hg hm ?_ hdb)
  refine PySem.W.callWith_K (h₀ := X.base) I.ok.mod.kin M.kp (thn (ha.run pos pins s σ H _ I ⟨e, S, _, A, m, fun ds S1 vs H1 x1 s1 rs q => (show ∃ ds S1, HExt H H1 ∧ SR X.K S1 H1 ∧ VRs X.K H1 ds vs ∧ _ from ⟨ds, S1, x1, s1, rs, q⟩)⟩) fun us s1 ⟨vs, H1, I1, r, ds, S1, x1, sr1, rs, q⟩ => ⟨I1.kIn, ?_⟩) he hpl
  exact run_makeS M h2 hr h3 (passAt cx.tk σ) I1 r fun x dx nx nd ne => make_ok cx co (A.next x1 sr1) x1 rs q.1 q.2 kk x dx nx nd ne
theorem je_make0 {c : Str} {p : Pos} (cx : NX X H0 w) (co : ClsOk X.K c) (M : Mk X.K (He.ga X.K c) f) (F : Fn X.prog X.w X.K X.mg X.base k f n sp) (hm : X.mg c = some (.ref (He.ga X.K c))) (hr : Room (k + 1) X.A) (hg : Gl X c := by rfl)
    (hdb : (c == ("__debug__" : Str)) = false := by decide +kernel) : JE X H0 (.Call (.Name c p) [] [] pos) (mMake c n sp w mNil) := by
  obtain ⟨fd, ps, h1, h2, h3⟩ := F.ex
  refine ⟨fun pins s σ H Q I h => ?_⟩
  obtain ⟨e, S, Q', A, m, kk⟩ := h
  refine wpAny_Call_Name_kw (ld_glob I hg hm ?_ hdb)
  refine PySem.W.callWith_K0 I.kIn M.kp (run_makeS (us := []) M h2 hr h3 (passAt cx.tk σ) I .nil fun x dx nx nd ne => make_ok cx co A (.refl H) .nil m.1 m.2 kk x dx nx nd ne)

/-! ### a def, by its body -/
def startN : Nat → List D → Env
  | 0, ds => ds.map some
  | n + 1, [] => none :: startN n []
  | n + 1, d :: r => some d :: startN n r
theorem startN_nil (n : Nat) : startN n [] = List.replicate n none := by
  induction n with
  | zero => rfl
  | succ n ih => unfold startN; rw [ih]; rfl
theorem startN_eq : ∀ (n : Nat) (ds : List D), startN n ds = ds.map some ++ List.replicate (n - ds.length) none
  | 0, ds => by unfold startN; simp
  | n + 1, [] => by rw [startN_nil]; simp
  | n + 1, d :: r => by unfold startN; rw [startN_eq n r]; simp
/-- the promise that a body keeps: N its slots' number -/
def spOf (N : Nat) (body : NW → NS) : NSp := fun ds S Q E => body (fun c d _ S' => E c d S') { nx := fun _ S' => Q .non S', rt := Q } (startN N ds) S
theorem fn_body {P : Program} {w : World} {K : PySem.W.Frag} {mg : Str → Option Value} {base : Heap} {x qual : Str} {params : Arguments} {body : List Stmt} {scope : Scope} {f : Addr} {fd : FuncData} {N ps : List Str} {k : Nat} {m : NW → NS}
    (F : FunD K x qual params body scope [] [] f fd) (S : FnScope N ps scope)
    (hb : ∀ (cdv : Value) (A : Around) (outer : List PySem.Env) (s : Shared) (H : Hp) (E : XK) (w' : NW), Room k (A.deeper (envOfC qual scope s.heap.objs.size f cdv)) → NX (cxOf (L2.CX P w) P w K mg base N qual scope f cdv A outer s H E) H w' →
      JSs (cxOf (L2.CX P w) P w K mg base N qual scope f cdv A outer s H E) H body (m w')) :
    FnOk P w K mg base (L2.CX P w) (k + 1) f fd ps (lSp K ps.length (spOf N.length m)) := by
  refine F.ok S (fun vs H Q E h => h.len) (fun cdv A outer s H vs Q E hr h => ?_)
  obtain ⟨ds, S0, Q', E', h1, h2, h3, h3t, h4, h5, h6⟩ := h
  have tk0 : Takes (cxOf (L2.CX P w) P w K mg base N qual scope f cdv A outer s H E) (fun cls d _ H' => E cls d H') := takes_of rfl rfl rfl rfl
  have tk : Takes (cxOf (L2.CX P w) P w K mg base N qual scope f cdv A outer s H E) (lW K H fun c d _ S' => E' c d S') :=
    tk0.imp fun cls d σ H' ⟨c, e, S', ec, A', q⟩ => by
      rw [ec]; exact h6 c d S' H' A'.x A'.s q
  refine ⟨_, hb cdv A outer s H E _ hr ⟨tk, passes_of rfl, rfl, h3t⟩, ?_⟩
  refine ⟨startN N.length ds, S0, _, ⟨.refl H, ?_, h3⟩, h4, ⟨fun e S' σ H' x A' q => h5 _ _ _ _ x A'.s .non q, fun d S' v H' x s r q => h5 _ _ _ _ x s r q, fun _ _ _ _ _ _ q => q, fun _ _ _ _ _ _ q => q⟩⟩
  rw [startN_eq]
  unfold L2.start
  rw [h2.length]
  exact ER.app (ER.some h2) (ER.none _)
end
end N

set_option Elab.async false
set_option linter.all false
set_option maxRecDepth 100000
set_option maxHeartbeats 4000000
namespace N
variable [TabList]
open PySem PySem.Spec PyProof.Rows L2
section
variable {X : Cx} {H0 : Hp} {w : NW} {a b c o : Expr} {ma mb mo : NE} {pos : Pos} {es : List Expr} {mr : NA} {k n : Nat} {f : Addr} {sp : NSp} {st : Stmt} {rest sa sb : List Stmt} {t u : NS} {tc : NT}

/-! ### blocks -/
def sNext : NS := fun D e S => D.nx e S
def sSeq (t u : NS) : NS := fun D e S => t { D with nx := u D } e S
theorem jss_nil : JSs X H0 [] sNext := pss_nil.imq fun D σ H ⟨e, S, D', A, m, k⟩ => k.nx e S σ H (.refl H) A m
theorem jss_one (h : JS X H0 st t) : JSs X H0 [st] t := pss_one h
theorem jss_cons (h1 : JS X H0 st t) (h2 : JSs X H0 rest u) : JSs X H0 (st :: rest) (sSeq t u) :=
  (pss_cons h1 h2).imq fun D σ H ⟨e, S, D', A, m, k⟩ => ⟨e, S, _, A, m, ⟨fun e' S' σ' H' x A' q => ⟨e', S', D', A', q, k.ext x⟩, k.rt, k.bk, k.ct⟩⟩
theorem js_pass : JS X H0 (.Pass pos) sNext := ps_pass.imq fun D σ H ⟨e, S, D', A, m, k⟩ => k.nx e S σ H (.refl H) A m
def sBreak : NS := fun D e S => D.bk e S
def sCont : NS := fun D e S => D.ct e S
theorem js_break : JS X H0 (.Break pos) sBreak := ps_break.imq fun D σ H ⟨e, S, D', A, m, k⟩ => k.bk e S σ H (.refl H) A m
theorem js_continue : JS X H0 (.Continue pos) sCont := ps_continue.imq fun D σ H ⟨e, S, D', A, m, k⟩ => k.ct e S σ H (.refl H) A m
def sDrop (m : NE) : NS := fun D e S => m e S fun _ S1 => D.nx e S1
theorem js_expr (h : JE X H0 a ma) (hs : swapsWith a none pos.line X.env = pure false := by rfl) : JS X H0 (.Expr a pos) (sDrop ma) :=
  (ps_expr h hs).imq fun D σ H ⟨e, S, D', A, m, k⟩ => ⟨e, S, _, A, m, fun d S1 v H1 x s r q => k.nx e S1 σ H1 x (A.next x s) q⟩
def sRet (m : NE) : NS := fun D e S => m e S D.rt
theorem js_ret (h : JE X H0 a ma) : JS X H0 (.Return (some a) pos) (sRet ma) :=
  (ps_ret h).imq fun D σ H ⟨e, S, D', A, m, k⟩ => ⟨e, S, _, A, m, fun d S1 v H1 x s r q => k.rt d S1 v H1 x s r q⟩
def sIf (c : NT) (t u : NS) : NS := fun D e S => c e S fun b S1 => match b with
  | true => t D e S1
  | false => u D e S1
theorem js_if (hc : JT X H0 c tc) (ha : JSs X H0 sa t) (hb : JSs X H0 sb u) : JS X H0 (.If c sa sb pos) (sIf tc t u) :=
  (ps_if hc ha hb).imq fun D σ H ⟨e, S, D', A, m, k⟩ => ⟨e, S, _, A, m, fun b S1 H1 x s q => by
    cases b with
    | true => exact iteT ⟨e, S1, D', A.next x s, q, k.ext x⟩
    | false => exact iteF ⟨e, S1, D', A.next x s, q, k.ext x⟩⟩

/-! ### targets -/
abbrev NG := D → Env → Sto → (Env → Sto → Prop) → Prop
abbrev NGs := List D → Env → Sto → (Env → Sto → Prop) → Prop
section
variable (K : PySem.W.Frag) (H0 : Hp)
def lG (m : NG) : TG := fun v σ H Q => ∃ d e S Q', VR K H d v ∧ At K H0 H σ e S ∧ m d e S Q' ∧ ∀ e' S' σ' H', HExt H H' → At K H0 H' σ' e' S' → Q' e' S' → Q σ' H'
def lGs (m : NGs) : TGs := fun vs σ H Q => ∃ ds e S Q', VRs K H ds vs ∧ At K H0 H σ e S ∧ m ds e S Q' ∧ ∀ e' S' σ' H', HExt H H' → At K H0 H' σ' e' S' → Q' e' S' → Q σ' H'
end
theorem _root_.L2.PG.imq {e : Expr} {t t' : TG} (h : PG X e t) (i : ∀ v σ H Q, t' v σ H Q → t v σ H Q) : PG X e t' := ⟨fun pins s σ H v u Q I r q => h.run pins s σ H v u Q I r (i _ _ _ _ q)⟩
theorem _root_.L2.PGs.imq {e : List Expr} {t t' : TGs} (h : PGs X e t) (i : ∀ v σ H Q, t' v σ H Q → t v σ H Q) : PGs X e t' := ⟨fun pins s σ H v u Q I r q => h.run pins s σ H v u Q I r (i _ _ _ _ q)⟩
abbrev JG (X : Cx) (H0 : Hp) (e : Expr) (m : NG) : Prop := PG X e (lG X.K H0 m)
abbrev JGs (X : Cx) (H0 : Hp) (e : List Expr) (m : NGs) : Prop := PGs X e (lGs X.K H0 m)
theorem At.set {K : PySem.W.Frag} {H : Hp} {σ : L2.St} {e : Env} {S : Sto} {d : D} {v : V} (A : At K H0 H σ e S) (r : VR K H d v) (i : Nat) : At K H0 H (σ.set i (some v)) (e.set i (some d)) S := ⟨A.x, A.e.set r i, A.s⟩
def gNm (i : Nat) : NG := fun d e S Q => Q (e.set i (some d)) S
theorem jg_name {i : Nat} {x : Str} (hN : X.N.Nodup) (hi : X.N[i]? = some x := by rfl) (hx : Loc X.env.scope x := by first | exact Or.inl rfl | exact Or.inr rfl) (hf : X.fn x = true ∨ X.env.scope.names.lookup x = some .local := by first | exact .inl rfl | exact .inr rfl) : JG X H0 (.Name x pos) (gNm i) :=
  (pg_name hN hi hx hf).imq fun v σ H Q ⟨d, e, S, Q', r, A, m, k⟩ => k _ _ _ _ (.refl H) (A.set r i) m
def gsNil : NGs := fun ds e S Q => match ds with
  | [] => Q e S
  | _ => False
def gsCons (t : NG) (u : NGs) : NGs := fun ds e S Q => match ds with
  | d :: r => t d e S fun e1 S1 => u r e1 S1 Q
  | [] => False
theorem jgs_nil : JGs X H0 [] gsNil := pgs_nil.imq fun v σ H Q ⟨ds, e, S, Q', r, A, m, k⟩ => by
  cases r with
  | nil => exact ⟨rfl, k _ _ _ _ (.refl H) A m⟩
  | cons _ _ => exact m.elim
theorem jgs_cons {t : NG} {u : NGs} (h1 : JG X H0 a t) (h2 : JGs X H0 es u) (hs : (assignEach (a :: es) X.env).map (·.2) = assign a X.env :: (assignEach es X.env).map (·.2) := by rfl) : JGs X H0 (a :: es) (gsCons t u) :=
  (pgs_cons h1 h2 hs).imq fun vs σ H Q ⟨ds, e, S, Q', r, A, m, k⟩ => by
    cases r with
    | nil => exact m.elim
    | cons r rr => exact ⟨_, _, rfl, _, e, S, _, r, A, m, fun e1 S1 σ1 H1 x A1 m1 => ⟨_, e1, S1, Q', rr.ext x, A1, m1, fun e2 S2 σ2 H2 x2 A2 q => k e2 S2 σ2 H2 (x.trans x2) A2 q⟩⟩
/-- (a, b, ..) = a tuple of that length -/
def gTp (n : Nat) (t : NGs) : NG := fun d e S Q => match d with
  | .tup ds => ds.length = n ∧ t ds e S Q
  | _ => False
theorem jg_tup {k n : Nat} {t : NGs} (cx : NX X H0 w) (h : JGs X H0 es t) (hn : (assignEach es X.env).length = n := by rfl) (hst : (assignEach es X.env).findIdx? (·.1) = none := by rfl) : JG X H0 (.Tuple es k pos) (gTp n t) :=
  (pg_tup cx.calm h hn hst).imq fun v σ H Q ⟨d, e, S, Q', r, A, m, k⟩ => by
    unfold gTp at m
    split at m
    · rename_i ds
      cases r with
      | tup tr rr => exact ⟨_, _, rfl, tr.sq, by rw [← rr.length]; exact m.1, ds, e, S, Q', rr, A, m.2, k⟩
    · exact m.elim
def sAsg (m : NE) (g : NG) : NS := fun D e S => m e S fun d S1 => g d e S1 D.nx
theorem js_asg {tg : Expr} {g : NG} (he : JE X H0 a ma) (hg : JG X H0 tg g) (hs : swapsWithSole [tg] a pos.line X.env = pure false := by rfl) (hw : swappedStores [tg] a X.env = pure none := by rfl)
    (h1 : (assignEach [tg] X.env).map (·.2) = [assign tg X.env] := by rfl) : JS X H0 (.Assign [tg] a pos) (sAsg ma g) :=
  (ps_asg he hg hs hw h1).imq fun D σ H ⟨e, S, D', A, m, k⟩ => ⟨e, S, _, A, m, fun d S1 v H1 x s r q =>
    ⟨d, e, S1, _, r, A.next x s, q, fun e2 S2 σ2 H2 x2 A2 q2 => k.nx e2 S2 σ2 H2 (x.trans x2) A2 q2⟩⟩
def sSet (i : Nat) (m : NE) : NS := fun D e S => m e S fun d S1 => D.nx (e.set i (some d)) S1
theorem js_set {i : Nat} {x : Str} {pos' : Pos} (hN : X.N.Nodup) (he : JE X H0 a ma) (hi : X.N[i]? = some x := by rfl) (hx : Loc X.env.scope x := by first | exact Or.inl rfl | exact Or.inr rfl) (hs : swapsWith a (some (.Name x pos')) pos.line X.env = pure false := by rfl) (hf : X.fn x = true ∨ X.env.scope.names.lookup x = some .local := by first | exact .inl rfl | exact .inr rfl) :
    JS X H0 (.Assign [.Name x pos'] a pos) (sSet i ma) :=
  (ps_set hN hi hx he hs hf).imq fun D σ H ⟨e, S, D', A, m, k⟩ => ⟨e, S, _, A, m, fun d S1 v H1 x s r q => k.nx _ _ _ _ x ((A.next x s).set r i) q⟩

/-! ### o[i] = v -/
def dput (kvs : List (Key × D)) (k : Key) (v : D) : List (Key × D) :=
  if kvs.any (fun kv => decide (kv.1 = k)) then kvs.map (fun kv => if kv.1 = k then (kv.1, v) else kv) else kvs ++ [(k, v)]
def nSet : D → D → D → Sto → (Sto → Prop) → Prop := fun o i v S Q => match o with
  | .ref p => (match S p with
    | some (.lst ds) => (match i with
      | .int j => (match ixN ds.length j with
        | some k => Q (put S p (.lst (ds.set k v)))
        | none => False)
      | _ => False)
    | some (.dic kvs) => (match keyD i with
      | some k => kvs.length < sizeLine ∧ Q (put S p (.dic (dput kvs k v)))
      | none => False)
    | _ => False)
  | _ => False
def Set3 (K : PySem.W.Frag) (t : TSet) : Prop := ∀ (o i d : D) S Q vo vi v H Q', SR K S H → VR K H o vo → VR K H i vi → VR K H d v → nSet o i d S Q → (∀ S' H', HExt H H' → SR K S' H' → Q S' → Q' H') → t vo vi v H Q'
theorem pset_or {t t' : TSet} (h : PSet X t) (h' : PSet X t') : PSet X (fun o i v H Q => t o i v H Q ∨ t' o i v H Q) := by
  intro pins s σ H o i v ov iv u Q I ro ri rv q
  rcases q with q | q
  · exact h pins s σ H o i v ov iv u Q I ro ri rv q
  · exact h' pins s σ H o i v ov iv u Q I ro ri rv q
theorem dput_ok {K : PySem.W.Frag} {H : Hp} {kvs : List (Key × D)} {ws : List (Key × V)} (r : KVR K H kvs ws) (k : Key) {d : D} {v : V} (rd : VR K H d v) : KVR K H (dput kvs k d) (putK ws k v) := by
  have hany : kvs.any (fun kv => decide (kv.1 = k)) = ws.any (fun kv => decide (kv.1 = k)) := by
    clear rd
    have : ∀ {kvs : List (Key × D)} {ws : List (Key × V)}, KVR K H kvs ws → kvs.any (fun kv => decide (kv.1 = k)) = ws.any (fun kv => decide (kv.1 = k)) := by
      intro kvs ws r
      induction r with
      | nil => rfl
      | cons h t ih => rw [List.any_cons, List.any_cons, ih, h.1]
    exact this r
  unfold dput putK
  rw [hany]
  split
  · have : ∀ {kvs : List (Key × D)} {ws : List (Key × V)}, KVR K H kvs ws → KVR K H (kvs.map fun kv => if kv.1 = k then (kv.1, d) else kv) (ws.map fun kv => if kv.1 = k then (kv.1, v) else kv) := by
      intro kvs ws r
      induction r with
      | nil => exact .nil
      | cons h t ih =>
        rw [List.map_cons, List.map_cons]
        refine .cons ?_ ih
        rename_i p q ps qs
        by_cases e : p.1 = k
        · rw [if_pos e, if_pos (h.1 ▸ e)]; exact ⟨h.1, rd⟩
        · rw [if_neg e, if_neg (fun z => e (h.1.trans z))]; exact h
    exact this r
  · have : ∀ {kvs : List (Key × D)} {ws : List (Key × V)}, KVR K H kvs ws → KVR K H (kvs ++ [(k, d)]) (ws ++ [(k, v)]) := by
      intro kvs ws r
      induction r with
      | nil => exact .cons ⟨rfl, rd⟩ .nil
      | cons h t ih => exact .cons h ih
    exact this r
theorem setN (hu : X.A.units + 1 < cLine) : ∃ t, PSet X t ∧ Set3 X.K t := by
  refine ⟨_, pset_or set_list (set_dict hu), fun o i d S Q vo vi v H Q' s ro ri rv n k => ?_⟩
  unfold nSet at n
  split at n
  · rename_i p
    cases ro
    split at n
    · rename_i ds e1
      split at n
      · rename_i j
        cases ri
        split at n
        · rename_i q eq
          obtain ⟨vs, h1, r1⟩ := s.lst e1
          have x : HExt H (upd H p (.lst (vs.set q v))) := .upd h1 True.intro
          refine .inl ⟨p, vs, j, q, rfl, rfl, h1, by rw [← r1.length]; exact eq, ?_⟩
          exact k _ _ x (s.put (o := .lst (ds.set q d)) x ⟨_, upd_same, (r1.set rv q).ext x⟩) n
        · exact n.elim
      · exact n.elim
    · rename_i kvs e1
      split at n
      · rename_i kk ek
        have := keyD_ok ri ek
        subst this
        obtain ⟨ws, h1, r1⟩ := s.dic e1
        have x : HExt H (upd H p (.dK (putK ws kk v))) := .upd h1 True.intro
        refine .inr ⟨p, _, rfl, .k h1 (by rw [← Paired.length r1]; exact n.1), ?_⟩
        exact k _ _ x (s.put (o := .dic (dput kvs kk d)) x ⟨_, upd_same, KVR.ext x (dput_ok r1 kk rv)⟩) n.2
      · exact n.elim
    · exact n.elim
  · exact n.elim
def gIx (mo mi : NE) : NG := fun d e S Q => mo e S fun x S1 => mi e S1 fun i S2 => nSet x i d S2 fun S3 => Q e S3
theorem jg_ix {i : Expr} {mi : NE} (hu : X.A.units + 1 < cLine) (ho : JE X H0 o mo) (hi : JE X H0 i mi)
    (ha : ∀ v, assign (.Subscript o i pos) X.env v = (do
      let ov ← holding [v] (eval o X.env)
      let iv ← holding [v, ov] (eval i X.env)
      standAt pos
      holding [v, ov, iv] (setItem ov iv v)
      release [v, ov, iv] []) := by intro _; rfl) : JG X H0 (.Subscript o i pos) (gIx mo mi) := by
  obtain ⟨t, h1, h2⟩ := setN (X := X) hu
  refine (pg_sub ho hi h1 ha).imq fun v σ H Q ⟨d, e, S, Q', r, A, m, k⟩ => ?_
  refine ⟨e, S, _, A, m, fun x S1 vx H1 x1 s1 rx m1 => ⟨e, S1, _, A.next x1 s1, m1, fun y S2 vy H2 x2 s2 ry m2 => ?_⟩⟩
  exact h2 x y d S2 _ vx vy v H2 _ s2 (rx.ext x2) ry ((r.ext x1).ext x2) m2 fun S3 H3 x3 s3 q => k e S3 σ H3 ((x1.trans x2).trans x3) (A.next ((x1.trans x2).trans x3) s3) q

/-! ### op= -/
def sAug (i : Nat) (m : NE) (n : N2) : NS := fun D e S => match nth e i with
  | some x => m e S fun y S1 => n x y S1 fun z S2 => D.nx (e.set i (some z)) S2
  | none => False
theorem js_aug {i : Nat} {x : Str} {op : Operator} {n : N2} {pos' : Pos} (hN : X.N.Nodup) (hn : OpN X (inplaceOp op) n) (he : JE X H0 a ma) (hi : X.N[i]? = some x := by rfl) (hx : Loc X.env.scope x := by first | exact Or.inl rfl | exact Or.inr rfl) (hf : X.fn x = true ∨ X.env.scope.names.lookup x = some .local := by first | exact .inl rfl | exact .inr rfl) :
    JS X H0 (.AugAssign (.Name x pos') op a pos) (sAug i ma n) := by
  obtain ⟨r, h1, h2⟩ := hn
  refine (ps_aug hN hi hx he (ti := r) h1 hf).imq fun D σ H ⟨e, S, D', A, m, k⟩ => ?_
  unfold sAug at m
  split at m
  · rename_i d ed
    obtain ⟨v, g1, g2⟩ := A.e.get (nth_get ed)
    refine ⟨v, g1, e, S, _, A, m, fun y S1 vy H1 x1 s1 ry m1 => ?_⟩
    exact h2 d y S1 _ v vy H1 _ s1 (g2.ext x1) ry m1 fun z S2 vz H2 x2 s2 rz q => k.nx _ _ _ _ (x1.trans x2) ((A.next (x1.trans x2) s2).set rz i) q
  · exact m.elim
/-- += : ints, texts, a list by a list -/
def nAdd' : N2 := fun x y S Q => match x, y with
  | .int i, .int j => Q (.int (i + j)) S
  | .str a, .str b => a.length + b.length ≤ sizeLine ∧ Q (.str (a ++ b)) S
  | .ref a, .ref b => (match S a, S b with
    | some (.lst xs), some (.lst ys) => xs.length + ys.length ≤ sizeLine ∧ Q (.ref a) (put S a (.lst (xs ++ ys)))
    | _, _ => False)
  | _, _ => False
theorem iopN_add : OpN X (inplaceOp .Add) nAdd' := ⟨_, iop_add.or (iop_add_str.or iop_ext), fun x y S Q vx vy H Q' s rx ry n k => by
  unfold nAdd' at n
  split at n
  · cases rx; cases ry
    exact .inl ⟨_, _, rfl, rfl, k _ _ _ _ (.refl H) s (.int _) n⟩
  · cases rx; cases ry
    exact .inr (.inl ⟨_, _, rfl, rfl, n.1, k _ _ _ _ (.refl H) s (.str _) n.2⟩)
  · rename_i a b
    cases rx; cases ry
    split at n
    · rename_i xs ys e1 e2
      obtain ⟨vs, h1, r1⟩ := s.lst e1
      obtain ⟨ws, h2, r2⟩ := s.lst e2
      have x : HExt H (upd H a (.lst (vs ++ ws))) := .upd h1 True.intro
      exact .inr (.inr ⟨a, b, vs, ws, rfl, rfl, h1, h2, by rw [← r1.length, ← r2.length]; exact n.1, k _ _ _ _ x (s.put (o := .lst (xs ++ ys)) x ⟨_, upd_same, (r1.append r2).ext x⟩) (.ref a) n.2⟩)
    · exact n.elim
  · exact n.elim⟩
theorem iopN_sub : OpN X (inplaceOp .Sub) nSub := opN_int0 iop_sub fun _ _ _ => .int _
end
end N

set_option Elab.async false
set_option linter.all false
set_option maxRecDepth 100000
set_option maxHeartbeats 4000000
namespace N
variable [TabList]
open PySem PySem.Spec PyProof.Rows L2
section
variable {X : Cx} {H0 : Hp} {w : NW} {a b c o : Expr} {ma mb mo : NE} {pos : Pos} {es : List Expr} {mr : NA} {k n : Nat} {f : Addr} {sp : NSp} {st : Stmt} {rest sa sb body : List Stmt} {t u : NS} {tc : NT}

/-! ### o[i] op= e -/
theorem get_list : PGet X (fun x y H Q => ∃ p xs i v, x = .ref p ∧ y = .int i ∧ H p = some (.lst xs) ∧ 0 ≤ i ∧ xs[i.toNat]? = some v ∧ Q v H) := by
  intro pins s σ H o i ov iv Q I ro ri h
  obtain ⟨p, xs, j, v, rfl, rfl, e, h0, hx, q⟩ := h
  cases ro
  obtain ⟨t, rfl⟩ := ri
  obtain ⟨its, r, pl, hz⟩ := I.list (SqL.of e)
  obtain ⟨u, hu, ru⟩ := r.get hx
  have hj : j.toNat < xs.length := (List.getElem?_eq_some_iff.mp hx).1
  have hl := line63
  exact wpAny_getItem_list pl.isList h0 (by omega) (by simpa using hu) ⟨v, H, I, ru, q⟩
theorem get_dict (hu : X.A.units + 1 < cLine) : PGet X (fun x y H Q => ∃ p v, x = .ref p ∧ DGet H p y (some v) ∧ Q v H) := by
  intro pins s σ H o i ov iv Q I ro ri h
  obtain ⟨p, v, rfl, g, q⟩ := h
  cases ro
  exact d_getItem hu I g ri fun w' s' I' r' => ⟨v, H, I', r', q⟩
theorem pget_or {t t' : V → V → Hp → VK → Prop} (h : PGet X t) (h' : PGet X t') : PGet X (fun x y H Q => t x y H Q ∨ t' x y H Q) := by
  intro pins s σ H o i ov iv Q I ro ri q
  rcases q with q | q
  · exact h pins s σ H o i ov iv Q I ro ri q
  · exact h' pins s σ H o i ov iv Q I ro ri q
def nGet : N2 := fun x y S Q => match x with
  | .ref p => (match S p with
    | some (.lst ds) => (match y with
      | .int i => 0 ≤ i ∧ (match ds[i.toNat]? with
        | some d => Q d S
        | none => False)
      | _ => False)
    | some (.dic kvs) => (match keyD y with
      | some k => (match dget kvs k with
        | some d => Q d S
        | none => False)
      | none => False)
    | _ => False)
  | _ => False
theorem getN (hu : X.A.units + 1 < cLine) : ∃ t, PGet X t ∧ Op2 X.K t nGet := by
  refine ⟨_, pget_or get_list (get_dict hu), fun x y S Q vx vy H Q' s rx ry n k => ?_⟩
  unfold nGet at n
  split at n
  · rename_i p
    cases rx
    split at n
    · rename_i ds e1
      split at n
      · rename_i i
        cases ry
        obtain ⟨h0, n⟩ := n
        split at n
        · rename_i d ed
          obtain ⟨vs, h1, r1⟩ := s.lst e1
          obtain ⟨v, h2, h3⟩ := r1.get ed
          exact .inl ⟨p, vs, i, v, rfl, rfl, h1, h0, h2, k _ _ _ _ (.refl H) s h3 n⟩
        · exact n.elim
      · exact n.elim
    · rename_i kvs e1
      split at n
      · rename_i kk ek
        have := keyD_ok ry ek
        subst this
        split at n
        · rename_i d ed
          obtain ⟨ws, h1, r1⟩ := s.dic e1
          obtain ⟨v, h2, h3⟩ := (KVR.val kk r1).1 d ed
          exact .inr ⟨p, v, rfl, by rw [← h2]; exact .k h1, k _ _ _ _ (.refl H) s h3 n⟩
        · exact n.elim
      · exact n.elim
    · exact n.elim
  · exact n.elim
def sAugS (mo mi : NE) (m : NE) (n : N2) : NS := fun D e S => mo e S fun x S1 => mi e S1 fun i S2 => nGet x i S2 fun y S3 => m e S3 fun z S4 => n y z S4 fun r S5 => nSet x i r S5 fun S6 => D.nx e S6
theorem js_augS {i : Expr} {mi : NE} {op : Operator} {n : N2} {tpos : Pos} (hu : X.A.units + 1 < cLine) (hn : OpN X (inplaceOp op) n) (ho : JE X H0 o mo) (hi : JE X H0 i mi) (he : JE X H0 a ma)
    (ha : ∀ ov iv new, augStore i ov iv new = (do holding [new, ov, iv] (setItem ov iv new); release [new, ov, iv] []; pure .next) := by intros; rfl) : JS X H0 (.AugAssign (.Subscript o i tpos) op a pos) (sAugS mo mi ma n) := by
  obtain ⟨r, h1, h2⟩ := hn
  obtain ⟨tg, g1, g2⟩ := getN (X := X) hu
  obtain ⟨ts, s1, s2⟩ := setN (X := X) hu
  refine (ps_augS ho hi g1 he (tip := r) h1 s1 ha).imq fun D σ H ⟨e, S, D', A, m, k⟩ => ?_
  refine ⟨e, S, _, A, m, fun x S1 vx H1 x1 z1 rx m1 => ⟨e, S1, _, A.next x1 z1, m1, fun y S2 vy H2 x2 z2 ry m2 => ?_⟩⟩
  refine g2 x y S2 _ vx vy H2 _ z2 (rx.ext x2) ry m2 fun d S3 vd H3 x3 z3 rd m3 => ?_
  have y3 := (x1.trans x2).trans x3
  refine ⟨e, S3, _, A.next y3 z3, m3, fun q S4 vq H4 x4 z4 rq m4 => ?_⟩
  refine h2 d q S4 _ vd vq H4 _ z4 (rd.ext x4) rq m4 fun nw S5 vn H5 x5 z5 rn m5 => ?_
  refine s2 x y nw S5 _ vx vy vn H5 _ z5 ((((rx.ext x2).ext x3).ext x4).ext x5) (((ry.ext x3).ext x4).ext x5) rn m5 fun S6 H6 x6 z6 q6 => ?_
  have y6 := ((y3.trans x4).trans x5).trans x6
  exact k.nx e S6 σ H6 y6 (A.next y6 z6) q6

/-! ### for -/
/-- how what is walked is held meanwhile -/
abbrev Keep := Sto → Prop
def loopL (g : NG) (b : NS) (Z : NEnds) (kp : Keep) : List D → Env → Sto → Prop
  | [], e, S => Z.nx e S
  | x :: xs, e, S => g x e S fun e1 S1 => b { nx := fun e2 S2 => kp S2 ∧ loopL g b Z kp xs e2 S2, ct := fun e2 S2 => kp S2 ∧ loopL g b Z kp xs e2 S2, bk := Z.nx, rt := Z.rt } e1 S1
def iSeq (K : PySem.W.Frag) (tl : TE) : TI := fun σ H R => tl σ H fun x H1 => ∃ p, x = .ref p ∧ (((∃ xs, SqL K H1 p xs) ∧ R (Itl K p) H1) ∨ ((∃ xs, SqT K H1 p xs) ∧ R (Itt K p) H1))
theorem pi_seq {tg l : Expr} {tl : TE} (hl : PE X l tl) : PI X tg l (iSeq X.K tl) := by
  refine ⟨fun pins s σ H R I h => ?_⟩
  refine thn (hl.run pins s σ H _ I h) fun v s1 ⟨x, H1, I1, r1, q1⟩ => ?_
  obtain ⟨p, e, ⟨⟨xs, hq⟩, q⟩ | ⟨⟨xs, hq⟩, q⟩⟩ := q1
  · subst e
    cases r1
    obtain ⟨its, rv, p, hz⟩ := I1.list hq
    refine wpAny_pyIter_list p.isList ?_
    refine ⟨s1.heap.objs.size, [s1.heap.objs.size], _, _, H1, rfl, I1.kept (t' := s1.toks) fun b o e => Heap.get?_push_of_some _ e, turn_list _ _, ⟨_, Heap.get?_push_size _ rfl, rfl, rfl⟩, fun b hb => ?_, q⟩
    have e : b = s1.heap.objs.size := by simpa using hb
    subst e
    exact I1.fpOk (Nat.le_refl _) (I1.hok.fresh (Nat.le_refl _))
  · subst e
    cases r1
    obtain ⟨its, rv, p, hz⟩ := I1.tuple hq
    refine wpAny_pyIter_tuple (show s1.heap.IsTuple _ its.toArray from p) ?_
    refine ⟨s1.heap.objs.size, [s1.heap.objs.size], _, _, H1, rfl, I1.kept (t' := s1.toks) fun b o e => Heap.get?_push_of_some _ e, turn_tuple _ _, ⟨_, Heap.get?_push_size _ rfl, rfl, rfl⟩, fun b hb => ?_, q⟩
    have e : b = s1.heap.objs.size := by simpa using hb
    subst e
    exact I1.fpOk (Nat.le_refl _) (I1.hok.fresh (Nat.le_refl _))
/-- what is walked: its items, and that it stands still -/
def nWalk : D → Sto → (List D → Keep → Prop) → Prop := fun x S Q => match x with
  | .tup ds => Q ds fun _ => True
  | .rol ds => Q ds fun _ => True
  | .ref p => (match S p with
    | some (.lst ds) => Q ds fun S' => S' p = some (.lst ds)
    | _ => False)
  | _ => False
def sFor (m : NE) (g : NG) (b : NS) : NS := fun D e S => m e S fun x S1 => nWalk x S1 fun ds kp => loopL g b D kp ds e S1
/-- the layer's word for a loop that stands on loopL: R tells that the walked thing is there -/
theorem loop_ok {J : It} {K : PySem.W.Frag} {g : NG} {b : NS} {D' : NEnds} {Z : Ends} {kp : Keep} {ds : List D} {H1 : Hp} {σ : L2.St} {e : Env} {S1 : Sto} (k : EndsR K H0 H1 D' Z)
    (stop : ∀ H S, HExt H1 H → SR K S H → kp S → J.stop ds.length H) (go : ∀ i H S, i < ds.length → HExt H1 H → SR K S H → kp S → J.go i H)
    (yld : ∀ i H S x H' d, ds[i]? = some d → HExt H1 H → SR K S H → kp S → J.yld i H x H' → ∃ S', HExt H H' ∧ SR K S' H' ∧ (∀ a o, S a = some o → S' a = some o) ∧ S' = S ∧ VR K H' d x)
    (A : At K H0 H1 σ e S1) (hk : kp S1) (m : loopL g b D' kp ds e S1) :
    ∃ W : Nat → Nat → L2.St → Hp → Prop, (∃ m, W 0 m σ H1) ∧ ∀ i m σ H, W i m σ H →
      (J.stop i H ∧ Z.nx σ H) ∨ (J.go i H ∧ ∃ N : L2.St → Hp → Prop, (∀ σ' H', N σ' H' → ∃ m', m' < m ∧ W (i + 1) m' σ' H') ∧ ∀ x H', J.yld i H x H' → (lG K H0 g) x σ H' fun σ2 H2 => (lS K H0 b) { Z with nx := N, ct := N, bk := Z.nx } σ2 H2) := by
  refine ⟨fun i m σ H => m = ds.length - i ∧ i ≤ ds.length ∧ HExt H1 H ∧ ∃ e S, At K H0 H σ e S ∧ kp S ∧ loopL g b D' kp (ds.drop i) e S, ⟨_, rfl, Nat.zero_le _, .refl H1, e, S1, A, hk, by simpa using m⟩, ?_⟩
  rintro i m σ H ⟨rfl, hi, xe, e, S, A, hk, m⟩
  by_cases hlt : i < ds.length
  · obtain ⟨d, hd⟩ : ∃ d, ds[i]? = some d := ⟨ds[i], by simp [hlt]⟩
    have hdrop : ds.drop i = d :: ds.drop (i + 1) := by
      have := List.drop_eq_getElem_cons hlt
      rw [this]
      have : ds[i] = d := by
        have := List.getElem?_eq_getElem hlt
        rw [hd] at this
        exact (Option.some.inj this).symm
      rw [this]
    rw [hdrop] at m
    refine .inr ⟨go i H S hlt xe A.s hk, fun σ' H' => i + 1 ≤ ds.length ∧ HExt H1 H' ∧ ∃ e S, At K H0 H' σ' e S ∧ kp S ∧ loopL g b D' kp (ds.drop (i + 1)) e S, fun σ' H' ⟨p1, p2, p3⟩ => ⟨ds.length - (i + 1), by omega, rfl, p1, p2, p3⟩, fun x H' y => ?_⟩
    obtain ⟨S', x2, s2, _, rfl, rd⟩ := yld i H S x H' d hd xe A.s hk y
    refine ⟨d, e, S', _, rd, A.next x2 s2, m, fun e1 S2 σ1 H2 x3 A1 q => ?_⟩
    have xx := (xe.trans x2).trans x3
    exact ⟨e1, S2, _, A1, q, ⟨fun e3 S3 σ3 H3 x4 A3 q3 => ⟨hlt, xx.trans x4, e3, S3, A3, q3.1, q3.2⟩, fun d S3 v H3 x4 s3 rv q3 => k.rt d S3 v H3 (xx.trans x4) s3 rv q3, fun e3 S3 σ3 H3 x4 A3 q3 => k.nx e3 S3 σ3 H3 (xx.trans x4) A3 q3,
      fun e3 S3 σ3 H3 x4 A3 q3 => ⟨hlt, xx.trans x4, e3, S3, A3, q3.1, q3.2⟩⟩⟩
  · have e1 : i = ds.length := by omega
    subst e1
    rw [List.drop_length] at m
    exact .inl ⟨stop H S xe A.s hk, k.nx e S σ H xe A m⟩
theorem js_for {tg : Expr} {g : NG} (cx : NX X H0 w) (hl : JE X H0 a ma) (hg : JG X H0 tg g) (hb : JSs X H0 body t) (hs : ∀ x, foldedSetIterable a X.env x = pure x := by intro _; rfl) : JS X H0 (.For tg a body [] pos) (sFor ma g t) := by
  refine (ps_for cx.po cx.calm (pi_seq hl) hg hb hs).imq fun D σ H ⟨e, S, D', A, m, k⟩ => ?_
  refine ⟨e, S, _, A, m, fun x S1 v H1 x1 s1 r m1 => ?_⟩
  have A1 := A.next x1 s1
  have k1 := k.ext x1
  unfold nWalk at m1
  split at m1
  · rename_i ds
    cases r with
    | tup tr rr =>
      rename_i p vs
      refine ⟨p, rfl, .inr ⟨⟨vs, tr.sq⟩, ?_⟩⟩
      refine loop_ok (kp := fun _ => True) k1 (fun H2 S2 x s _ => ⟨vs, (tr.ext x).sq, by rw [← rr.length]; exact Nat.le_refl _⟩) (fun i H2 S2 hi x s _ => ?_) (fun i H2 S2 y H3 d hd x s _ yl => ?_) A1 True.intro m1
      · obtain ⟨v, hv, _⟩ := rr.get (List.getElem?_eq_getElem hi)
        exact ⟨vs, v, (tr.ext x).sq, hv⟩
      · obtain ⟨rfl, yl⟩ := yl
        obtain ⟨v, hv, rv⟩ := rr.get hd
        have := yl vs (tr.ext x).sq
        rw [hv] at this
        cases this
        exact ⟨S2, .refl _, s, fun _ _ h => h, rfl, rv.ext x⟩
  · rename_i ds
    cases r with
    | rol tr rr =>
      rename_i p vs
      refine ⟨p, rfl, .inl ⟨⟨vs, tr.sq⟩, ?_⟩⟩
      refine loop_ok (kp := fun _ => True) k1 (fun H2 S2 x s _ => ⟨vs, (tr.ext x).sq, by rw [← rr.length]; exact Nat.le_refl _⟩) (fun i H2 S2 hi x s _ => ?_) (fun i H2 S2 y H3 d hd x s _ yl => ?_) A1 True.intro m1
      · obtain ⟨v, hv, _⟩ := rr.get (List.getElem?_eq_getElem hi)
        exact ⟨vs, v, (tr.ext x).sq, hv⟩
      · obtain ⟨rfl, yl⟩ := yl
        obtain ⟨v, hv, rv⟩ := rr.get hd
        have := yl vs (tr.ext x).sq
        rw [hv] at this
        cases this
        exact ⟨S2, .refl _, s, fun _ _ h => h, rfl, rv.ext x⟩
  · rename_i p
    cases r
    split at m1
    · rename_i ds e1
      obtain ⟨vs0, g0, _⟩ := s1.lst e1
      refine ⟨p, rfl, .inl ⟨⟨vs0, SqL.of g0⟩, ?_⟩⟩
      refine loop_ok (kp := fun S' => S' p = some (.lst ds)) k1 (fun H2 S2 x s kk => ?_) (fun i H2 S2 hi x s kk => ?_) (fun i H2 S2 y H3 d hd x s kk yl => ?_) A1 e1 m1
      · obtain ⟨vs, g1, rr⟩ := s.lst kk
        exact ⟨vs, SqL.of g1, by rw [← rr.length]; exact Nat.le_refl _⟩
      · obtain ⟨vs, g1, rr⟩ := s.lst kk
        obtain ⟨v, hv, _⟩ := rr.get (List.getElem?_eq_getElem hi)
        exact ⟨vs, v, SqL.of g1, hv⟩
      · obtain ⟨vs, g1, rr⟩ := s.lst kk
        obtain ⟨rfl, yl⟩ := yl
        obtain ⟨v, hv, rv⟩ := rr.get hd
        have := yl vs (SqL.of g1)
        rw [hv] at this
        cases this
        exact ⟨S2, .refl _, s, fun _ _ h => h, rfl, rv⟩
    · exact m1.elim
  · exact m1.elim
/-- lo, lo + 1, .. -/
def rangeD (lo : Int) (n : Nat) : List D := (List.range n).map fun (i : Nat) => D.int (lo + (i : Int))
def RngOk (i : Int) : Prop := -(2 ^ 62) ≤ i ∧ i < 2 ^ 62
def sForR1 (m : NE) (g : NG) (b : NS) : NS := fun Z e S => m e S fun x S1 => match x with
  | .int j => RngOk j ∧ loopL g b Z (fun _ => True) (rangeD 0 j.toNat) e S1
  | _ => False
def sForR2 (m m' : NE) (g : NG) (b : NS) : NS := fun Z e S => m e S fun x S1 => m' e S1 fun y S2 => match x, y with
  | .int i, .int j => (RngOk i ∧ RngOk j) ∧ loopL g b Z (fun _ => True) (rangeD i (j - i).toNat) e S2
  | _, _ => False
theorem rangeD_get {lo : Int} {n i : Nat} {d : D} (h : (rangeD lo n)[i]? = some d) : i < n ∧ d = .int (lo + (i : Int)) := by
  unfold rangeD at h
  rw [List.getElem?_map] at h
  cases e : (List.range n)[i]? with
  | none => rw [e] at h; cases h
  | some j =>
    rw [e] at h
    obtain ⟨h1, h2⟩ := List.getElem?_eq_some_iff.mp e
    rw [List.length_range] at h1
    rw [List.getElem_range] at h2
    subst h2
    cases h
    exact ⟨h1, rfl⟩
theorem rangeD_length {lo : Int} {n : Nat} : (rangeD lo n).length = n := by unfold rangeD; simp
theorem rng_ok {K : PySem.W.Frag} {g : NG} {b : NS} {D' : NEnds} {Z : Ends} {lo : Int} {n : Nat} {H1 : Hp} {σ : L2.St} {e : Env} {S1 : Sto} (k : EndsR K H0 H1 D' Z) (A : At K H0 H1 σ e S1) (m : loopL g b D' (fun _ => True) (rangeD lo n) e S1) :
    ∃ W : Nat → Nat → L2.St → Hp → Prop, (∃ m, W 0 m σ H1) ∧ ∀ i m σ H, W i m σ H →
      ((Itr lo n).stop i H ∧ Z.nx σ H) ∨ ((Itr lo n).go i H ∧ ∃ N : L2.St → Hp → Prop, (∀ σ' H', N σ' H' → ∃ m', m' < m ∧ W (i + 1) m' σ' H') ∧ ∀ x H', (Itr lo n).yld i H x H' → (lG K H0 g) x σ H' fun σ2 H2 => (lS K H0 b) { Z with nx := N, ct := N, bk := Z.nx } σ2 H2) := by
  refine loop_ok (kp := fun _ => True) k (fun H S x s _ => ?_) (fun i H S hi x s _ => ?_) (fun i H S y H' d hd x s _ yl => ?_) A True.intro m
  · exact Nat.le_of_eq rangeD_length.symm
  · rw [rangeD_length] at hi; exact hi
  · obtain ⟨rfl, rfl⟩ := yl
    obtain ⟨_, rfl⟩ := rangeD_get hd
    exact ⟨S, .refl _, s, fun _ _ h => h, rfl, .int _⟩
theorem js_forR1 {tg : Expr} {g : NG} {p rpos : Pos} (cx : NX X H0 w) (hm : X.mg "range" = none) (hl : JE X H0 a ma) (hg : JG X H0 tg g) (hb : JSs X H0 body t) (hgl : Gl X "range" := by rfl) (hsr : starEach [a] X.env = [(false, eval a X.env)] := by rfl) (hs1 : starEach [a] X.env = (false, eval a X.env) :: starEach [] X.env := by rfl)
    (hs : ∀ x, foldedSetIterable (.Call (.Name "range" p) [a] [] rpos) X.env x = pure x := by intro _; rfl) : JS X H0 (.For tg (.Call (.Name "range" p) [a] [] rpos) body [] pos) (sForR1 ma g t) := by
  refine (ps_for cx.po cx.calm (pi_range1 hgl hm (ja_cons hl ja_nil hs1) hsr) hg hb hs).imq fun Z σ H ⟨e, S, D', A, m, k⟩ => ?_
  refine ⟨e, S, (fun ds S1 => ∃ x, ds = [x] ∧ match x with
    | .int j => RngOk j ∧ loopL g t D' (fun _ => True) (rangeD 0 j.toNat) e S1
    | _ => False), A, ?_, fun ds S1 vs H1 x1 s1 r ⟨x, ed, m1⟩ => ?_⟩
  · show ma e S _
    unfold sForR1 at m
    have : (fun x S1 => ∃ x_1, [x] = [x_1] ∧ match x_1 with
      | D.int j => RngOk j ∧ loopL g t D' (fun _ => True) (rangeD 0 j.toNat) e S1
      | _ => False) = (fun x S1 => match x with
      | D.int j => RngOk j ∧ loopL g t D' (fun _ => True) (rangeD 0 j.toNat) e S1
      | _ => False) := by
      funext x S1
      refine propext ⟨fun ⟨y, e, h⟩ => ?_, fun h => ⟨x, rfl, h⟩⟩
      cases e; exact h
    show ma e S fun x S1 => _
    exact (congrArg (ma e S) this).mpr m
  · subst ed
    obtain ⟨v, rfl, rv⟩ := vrs1 r
    split at m1
    · rename_i j _
      cases rv
      exact ⟨j, rfl, m1.1.1, m1.1.2, rng_ok (k.ext x1) (A.next x1 s1) m1.2⟩
    · exact m1.elim
theorem js_forR2 {tg : Expr} {g : NG} {p rpos : Pos} (cx : NX X H0 w) (hm : X.mg "range" = none) (hl : JE X H0 a ma) (hl2 : JE X H0 b mb) (hg : JG X H0 tg g) (hb : JSs X H0 body t) (hgl : Gl X "range" := by rfl) (hsr : starEach [a, b] X.env = [(false, eval a X.env), (false, eval b X.env)] := by rfl)
    (hsr2 : starEach [b] X.env = [(false, eval b X.env)] := by rfl) (hs1 : starEach [b] X.env = (false, eval b X.env) :: starEach [] X.env := by rfl) (hs2 : starEach [a, b] X.env = (false, eval a X.env) :: starEach [b] X.env := by rfl)
    (hs : ∀ x, foldedSetIterable (.Call (.Name "range" p) [a, b] [] rpos) X.env x = pure x := by intro _; rfl) : JS X H0 (.For tg (.Call (.Name "range" p) [a, b] [] rpos) body [] pos) (sForR2 ma mb g t) := by
  refine (ps_for cx.po cx.calm (pi_range2 hgl hm (ja_cons hl (ja_cons hl2 ja_nil hs1) hs2) hsr hsr2) hg hb hs).imq fun Z σ H ⟨e, S, D', A, m, k⟩ => ?_
  refine ⟨e, S, (fun ds S1 => ∃ x y, ds = [x, y] ∧ match x, y with
    | .int i, .int j => (RngOk i ∧ RngOk j) ∧ loopL g t D' (fun _ => True) (rangeD i (j - i).toNat) e S1
    | _, _ => False), A, ?_, fun ds S1 vs H1 x1 s1 r ⟨x, y, ed, m1⟩ => ?_⟩
  · unfold sForR2 at m
    have : ∀ x : D, (fun y S1 => ∃ x_1 y_1, [x, y] = [x_1, y_1] ∧ match x_1, y_1 with
      | D.int i, D.int j => (RngOk i ∧ RngOk j) ∧ loopL g t D' (fun _ => True) (rangeD i (j - i).toNat) e S1
      | _, _ => False) = (fun y S1 => match x, y with
      | D.int i, D.int j => (RngOk i ∧ RngOk j) ∧ loopL g t D' (fun _ => True) (rangeD i (j - i).toNat) e S1
      | _, _ => False) := by
      intro x
      funext y S1
      refine propext ⟨fun ⟨a, b, e, h⟩ => ?_, fun h => ⟨x, y, rfl, h⟩⟩
      cases e; exact h
    have h2 : (fun x S1 => mb e S1 fun y S2 => ∃ x_1 y_1, [x, y] = [x_1, y_1] ∧ match x_1, y_1 with
      | D.int i, D.int j => (RngOk i ∧ RngOk j) ∧ loopL g t D' (fun _ => True) (rangeD i (j - i).toNat) e S2
      | _, _ => False) = (fun x S1 => mb e S1 fun y S2 => match x, y with
      | D.int i, D.int j => (RngOk i ∧ RngOk j) ∧ loopL g t D' (fun _ => True) (rangeD i (j - i).toNat) e S2
      | _, _ => False) := by
      funext x S1
      rw [this x]
    exact (congrArg (ma e S) h2).mpr m
  · subst ed
    obtain ⟨v, v2, rfl, rv, rv2⟩ := vrs2 r
    split at m1
    · rename_i i j _
      cases rv; cases rv2
      exact ⟨i, j, rfl, ⟨m1.1.1.1, m1.1.1.2, m1.1.2.1, m1.1.2.2⟩, rng_ok (k.ext x1) (A.next x1 s1) m1.2⟩
    · exact m1.elim

/-! ### while -/
def whileN (c : NT) (b : NS) (D : NEnds) : Nat → Env → Sto → Prop
  | 0, _, _ => False
  | n + 1, e, S => c e S fun k S1 => match k with
    | true => b { nx := whileN c b D n, ct := whileN c b D n, bk := D.nx, rt := D.rt } e S1
    | false => D.nx e S1
def sWhile (c : NT) (b : NS) : NS := fun D e S => ∃ n, whileN c b D n e S
theorem js_while (cx : NX X H0 w) (hc : JT X H0 c tc) (hb : JSs X H0 body t) : JS X H0 (.While c body [] pos) (sWhile tc t) := by
  refine (ps_while cx.po hc hb).imq fun D σ H ⟨e, S, D', A, ⟨n, m⟩, k⟩ => ?_
  refine ⟨fun n σ' H' => HExt H H' ∧ ∃ e S, At X.K H0 H' σ' e S ∧ whileN tc t D' n e S, ⟨n, .refl H, e, S, A, m⟩, ?_⟩
  rintro n σ1 H1 ⟨x1, e1, S1, A1, m1⟩
  cases n with
  | zero => exact m1.elim
  | succ n =>
    refine ⟨e1, S1, _, A1, m1, fun b S2 H2 x2 s2 q => ?_⟩
    cases b with
    | false => exact iteF (k.nx e1 S2 σ1 H2 (x1.trans x2) (A1.next x2 s2) q)
    | true =>
      refine iteT ⟨fun σ' H' => HExt H H' ∧ ∃ e S, At X.K H0 H' σ' e S ∧ whileN tc t D' n e S, fun σ' H' h => ⟨n, Nat.lt_succ_self n, h⟩, ?_⟩
      have xx := x1.trans x2
      exact ⟨e1, S2, _, A1.next x2 s2, q, ⟨fun e3 S3 σ3 H3 x3 A3 q3 => ⟨xx.trans x3, e3, S3, A3, q3⟩, fun d S3 v H3 x3 s3 rv q3 => k.rt d S3 v H3 (xx.trans x3) s3 rv q3, fun e3 S3 σ3 H3 x3 A3 q3 => k.nx e3 S3 σ3 H3 (xx.trans x3) A3 q3, fun e3 S3 σ3 H3 x3 A3 q3 => ⟨xx.trans x3, e3, S3, A3, q3⟩⟩⟩

/-! ### raise -/
def sRaise (c : Str) (w : NW) : NS := fun _ e S => w c none e S
theorem js_raise {x : Str} {p p2 cpos : Pos} {m : Str} {j : Nat} (cx : NX X H0 w) (hx : (He.Fa.exc x).ok X.K = true) (hm : X.mg x = some (.ref (He.ga X.K x))) (hg : Gl X x := by rfl) (hdb : (x == ("__debug__" : Str)) = false := by decide +kernel) :
    JS X H0 (.Raise (some (.Call (.Name x p) [.Constant (.str m) j p2] [] cpos)) none pos) (sRaise x w) := by
  obtain ⟨h1, h2, h3, h4⟩ := He.exc_ok hx
  refine (ps_raise cx.calm cx.tk (pmk_own PySem.F.excBase_ValueError h1 hm h2 (raises_own h3 h4) hg hdb)).imq fun D σ H ⟨e, S, D', A, m, k⟩ => ?_
  exact ⟨x, e, S, rfl, A, m⟩
end
end N

set_option Elab.async false
set_option linter.all false
set_option maxRecDepth 100000
set_option maxHeartbeats 4000000
namespace N
variable [TabList]
open PySem PySem.Spec PyProof.Rows L2
section
variable {X : Cx} {pins : List (Addr × Obj)} {σ : L2.St} {H : Hp} {s : Shared}
/-- an object that came up since the entry is tracked from now on, by what is true of it -/
theorem track (I : Inv X pins σ H s) {a : Addr} {oe : Obj} {vs : Array Value} {φ : Heap → Prop} (hx : X.ex = []) (ha : s.heap.get? a = some oe) (hd : oe.data = .fields vs) (n : H a = none) (n0 : X.s_0.heap.get? a = none) (nL : a ≠ X.env.locals) (np : ∀ p ∈ X.pn ++ pins, p.1 ≠ a)
    (ok : ObjOk X.prog X.w (upd H a (.ext φ)) s.heap a (.ext φ)) : Inv X pins σ (upd H a (.ext φ)) s := by
  have neH : ∀ {b o}, H b = some o → b ≠ a := fun {b o} e z => by rw [z, n] at e; cases e
  have ne0 : ∀ {b o}, X.s_0.heap.get? b = some o → b ≠ a := fun {b o} e z => by rw [z, n0] at e; cases e
  have neC : ∀ x c, X.env.cells.lookup x = some c → c ≠ a := fun x c e z => by
    obtain ⟨v, o, ho, hc⟩ := I.cell x c e
    rw [z, ha] at ho
    cases ho
    rw [hd] at hc; cases hc
  refine ⟨I.ok, I.os, I.bare, ⟨I.base.keep, I.base.slot, fun b o e m hb => ?_, I.base.there, fun b xs e => ?_, fun b o u e => ?_, fun b ps e => ?_⟩, I.loc, I.cell, ?_, fun x c e => ?_, fun p hp => ?_, fun b u e => ?_, I.len⟩
  · rw [upd_ne (ne0 e)]; exact I.base.free b o e m hb
  · have := I.base.tups b xs e
    rw [upd_ne (neH this)]; exact this
  · have := I.base.frzs b o u e
    rw [upd_ne (neH this)]; exact this
  · obtain ⟨more, q⟩ := I.base.tbls b ps e
    exact ⟨more, by rw [upd_ne (neH q)]; exact q⟩
  · rw [upd_ne (Ne.symm nL)]; exact I.free
  · rw [upd_ne (neC x c e)]; exact I.freeC x c e
  · obtain ⟨h1, h2, h3⟩ := I.pin p hp
    exact ⟨h1, by rw [upd_ne (np p hp)]; exact h2, h3⟩
  · by_cases hb : b = a
    · subst hb
      rw [upd_same] at e
      cases e; exact ok
    · rw [upd_ne hb] at e
      exact (I.hok b u e).stay (fun _ _ _ q => q) (fun c q => by rw [upd_ne (neH q)]; exact q) fun c xs q => by rw [upd_ne (neH q)]; exact q
theorem excP_ok {P : Program} {w : World} {H : Hp} {h : Heap} {a : Addr} {cls : Value} {d : Option Addr} {oe : Obj} {vs : Array Value} (e : h.get? a = some oe) (z : Zc cls d oe) (hd : oe.data = .fields vs) : ObjOk P w H h a (.ext (excP a cls d)) :=
  ⟨⟨oe, vs, e, z, hd⟩, ⟨oe, e⟩, fun _ _ ⟨o, v, q, r⟩ k => ⟨o, v, k o q, r⟩⟩
/-- the wish, where the exception stays -/
def wKeep (K : PySem.W.Frag) (c : Value) (i : Nat) (ts : Addr → Value → Option Addr → TS) (Wout : WX) (D : Ends) : WX := fun cls d σ H =>
  ∃ b, PySem.W.exmOne K cls c = some b ∧ (b = true → ∀ a, H a = none → ts a cls d { nx := fun σ' H' => H' a = none → D.nx (σ'.set i none) (upd H' a (.ext (excP a cls d))), rt := fun _ _ => False, bk := fun _ _ => False, ct := fun _ _ => False } (σ.set i (some (.ref a))) H) ∧
    (b = false → Wout cls d σ H)
variable {x n : Str} {c : Value} {i : Nat} {body suite : List Stmt} {b₀ : Stmt} {np pos pos' : Pos} {tb : WX → TS} {ts : Addr → Value → Option Addr → TS} {Wout : WX}
theorem ps_try_keep (hs : X.stack = X.env :: X.outer) (hf : X.env.frame = some X.env.locals) (hex : X.ex = []) (hN : X.N.Nodup) (hi : X.N[i]? = some n) (hln : X.env.kindOf n = some .local) (hc : Names X x c) (tk : Takes X Wout)
    (hb : ∀ (W : WX) (pn : List (Addr × Obj)) (xe : Value → Shared → Prop), Takes (X.tr pn xe) W → PassesOwn (model X.prog X.w) X.A X.env xe → PSs (X.tr pn xe) body (tb W))
    (hsu : ∀ (a : Addr) (oe : Obj) (cls : Value) (d : Option Addr) (pn : List (Addr × Obj)), Zc cls d oe → (∃ vs, oe.data = .fields vs) → PSs (X.suite a ((a, oe) :: pn)) (b₀ :: suite) (ts a cls d)) :
    PS X (.Try body [.ExceptHandler (some (.Name x np)) (some n) (b₀ :: suite) pos'] [] [] pos) (fun D σ H => tb (wKeep X.K c i ts Wout D) D σ H) := by
  refine ⟨fun pins s σ H D I h => ?_⟩
  have ok := I.ok
  have hfr : X.A.frames = some (X.env :: X.outer) := by rw [ok.frames, hs]
  have hloc : Loc X.env.scope n := .inl hln
  refine wpAny_Try_except ?_
  refine wpAny_mono ((hb (wKeep X.K c i ts Wout D) (X.pn ++ pins) (fun e s₁ => wpAny (model X.prog X.w) X.A (noteFrame e X.env) (fun _ s₂ => wpAny (model X.prog X.w) X.A (setFlight e none) (fun _ s₃ =>
    wpAny (model X.prog X.w) X.A (handleBy e X.env [.ExceptHandler (some (.Name x np)) (some n) (b₀ :: suite) pos']) (SP X pins D) X.xe s₃) X.xe s₂) X.xe s₁) (fun u s' xx => ?_) PassesOwn.looking).run [] s σ H D (I.toTry _) h) (fun f s1 hsp => ?_) (fun e s1 he => he)
  · -- the catch
    obtain ⟨a, B, sI, pins', σ', H', cls, d, rfl, J', nb, up, sky, na, os, ag, b, hb1, hyes, hno⟩ := xx
    have J : Inv X pins σ' H' sI := J'.ofTry ok
    have sky' : Sky B (X.env :: X.outer) a (Zc cls d) X.env.locals s'.heap := by rw [← hs]; exact sky
    show wpAny (model X.prog X.w) X.A (noteFrame (.ref a) X.env) _ _ _
    refine Sky.land Zc.steady hfr hf sky' fun h3 fl3 up3 => ?_
    have J3 : Inv X pins σ' H' { s' with heap := h3 } := J.landed nb fl3.1 (up.trans up3) os ag
    obtain ⟨oe3, vs3, he3, hz3, hd3⟩ := fl3.there
    have notFr : ∀ {h : Heap} {o : Obj} {vs : Array Value}, h.FunFrames B (X.env :: X.outer) → h.get? a = some o → o.data = .fields vs → a ∉ frs (X.env :: X.outer) := fun {h o vs} ff e dd hm => by
      obtain ⟨_, o', e', hnf⟩ := ff.mem hm
      rw [e] at e'; cases e'
      exact hnf _ dd
    have nfr := notFr fl3.2.2.1 he3 hd3
    have nL : a ≠ X.env.locals := fun z => nfr (List.mem_filterMap.mpr ⟨X.env, List.mem_cons_self, by rw [hf, z]⟩)
    have nF : a ∉ X.fs := fun hm => by
      obtain ⟨e, he, q⟩ := List.mem_filterMap.mp hm
      exact nfr (List.mem_filterMap.mpr ⟨e, List.mem_cons_of_mem _ he, q⟩)
    -- it came up since
    have nI : sI.heap.get? a = none := by
      cases e : sI.heap.get? a with
      | none => rfl
      | some o =>
        have := nb a o e (by rw [hs]; exact nfr)
        rw [fl3.2.1] at this; cases this
    have n0 : X.s_0.heap.get? a = none := by
      cases e : X.s_0.heap.get? a with
      | none => rfl
      | some o =>
        obtain ⟨o', q⟩ := J.base.there a o e (by rw [hex]; exact fun z => nomatch z)
        rw [nI] at q; cases q
    have npin : ∀ p ∈ X.pn ++ pins, p.1 ≠ a := fun p hp z => by
      have := (J.pin p hp).1
      rw [z, nI] at this; cases this
    have S3 := J3.suite he3 hd3 na nL nF
    refine wpAny_handleBy_cons (codeAny_handlers_test ?_) (by intro q; cases q)
    have LT : PySem.W.Looks (model X.prog X.w) h3 (typeOf (.ref a)) cls := fun A Q E s k q => wpAny_typeOf_ref (k _ _ he3) (by rw [hz3.1]; exact q)
    have LM := PySem.W.exm_one (M := model X.prog X.w) (J3.kIn) LT hb1
    have test : ∀ {Q : Value → Shared → Prop} {E : Value → Shared → Prop}, Q c { s' with heap := h3 } → wpAny (model X.prog X.w) (X.A.mark (some (.ref a))) (eval (.Name x np) X.env) Q E { s' with heap := h3 } := fun {Q E} q => by
      obtain ⟨hg, hdbg, hm | ⟨hm, hv, hnn⟩⟩ := hc
      · exact ld_glob (X := X.suite a ((a, oe3) :: (X.pn ++ pins))) S3 hg hm q hdbg
      · exact ld_blt (X := X.suite a ((a, oe3) :: (X.pn ++ pins))) S3 hg hm hv q hnn hdbg
    refine test (LM.here ?_)
    cases b with
    | true =>
      refine codeAny_handlers_suite_as ?_
      refine HandSPX.lands_againZ fl3 fun h4 fl4 up4 => ?_
      have J4 : Inv X pins σ' H' { s' with heap := h4 } := J.landed nb fl4.1 ((up.trans up3).trans up4) os ag
      obtain ⟨oe4, vs4, he4, hz4, hd4⟩ := fl4.there
      have S4 := J4.suite he4 hd4 na nL nF
      refine store_ok (X := X.suite a ((a, oe4) :: (X.pn ++ pins))) (v := .ref a) S4 hN hi hloc rfl (fun s5 S5 => ?_) (.inr hln)
      refine wpAny_mono ((hsu a oe4 cls d (X.pn ++ pins) hz4 ⟨_, hd4⟩).run [] s5 _ H' _ S5 (hyes rfl a na)) (fun f s6 hsp => ?_) (fun _ _ z => False.elim z)
      have end_ : ∀ {σ6 : L2.St} {H6 : Hp} {Q : Shared → Prop}, Inv (X.suite a ((a, oe4) :: (X.pn ++ pins))) [] σ6 H6 s6 → (∀ s7, Inv X pins (σ6.set i none) (upd H6 a (.ext (excP a cls d))) s7 → Q s7) →
          wpAny (model X.prog X.w) X.A (do bindName X.env n .none; unbindBehindTheSuite X.env n pos') (fun _ s7 => Q s7) X.xe s6 := fun {σ6 H6 Q} S6 hq => by
        obtain ⟨hg6, hn6, _⟩ := S6.pin (a, oe4) (List.mem_append_left _ List.mem_cons_self)
        exact gone_ok (track (S6.unsuite ok) hex hg6 hd4 hn6 n0 nL npin (excP_ok hg6 hz4 hd4)) hN hi hln hq
      have free_ : ∀ {σ6 : L2.St} {H6 : Hp}, Inv (X.suite a ((a, oe4) :: (X.pn ++ pins))) [] σ6 H6 s6 → H6 a = none := fun S6 => (S6.pin (a, oe4) (List.mem_append_left _ List.mem_cons_self)).2.1
      cases f with
      | next =>
        obtain ⟨σ6, H6, S6, q6⟩ := hsp
        exact end_ S6 fun s7 J7 => ⟨_, _, J7, q6 (free_ S6)⟩
      | brk =>
        obtain ⟨σ6, H6, S6, q6⟩ := hsp
        exact q6.elim
      | cont =>
        obtain ⟨σ6, H6, S6, q6⟩ := hsp
        exact q6.elim
      | ret u =>
        obtain ⟨v6, σ6, H6, S6, r6, q6⟩ := hsp
        exact q6.elim
    | false =>
      show wpAny _ X.A (handleBy (.ref a) X.env []) _ _ _
      refine wpAny_handleBy_nil ?_
      obtain ⟨k1, k2, k3, oe, vs, T, oT, ts', he, hz, hd, h1, hr⟩ := id fl3
      unfold PySem.passOn
      refine wpAny_bind (wpAny_field he hd h1 ?_)
      rw [if_neg (show ¬ ((Value.ref T == Value.none) = true) from by simp)]
      have fin : wpAny (model X.prog X.w) X.A (setFlight (.ref a) X.env.frame) (fun _ s4 => wpAny (model X.prog X.w) X.A (throw (.ref a) : Sem Flow) (SP X pins D) X.xe s4) X.xe { s' with heap := h3 } := by
        rw [hf]
        refine HandSPX.setFlight_upZ fl3 fun h4 hh4 up4 => wpAny_throw (tk _ _ ?_)
        exact ⟨a, B, sI, pins, σ', H', cls, d, rfl, J, nb, (up.trans up3).trans up4, .inr (.inr (by rw [hs]; exact hh4)), na, os, ag, hno rfl⟩
      first
        | exact wpAny_bind (wpAny_pure (wpAny_bind fin))
        | exact wpAny_bind fin
  · cases f with
    | next =>
      obtain ⟨σ', H', J', q⟩ := hsp
      exact wpAny_execs_nil ⟨σ', H', J'.ofTry ok, q⟩
    | brk =>
      obtain ⟨σ', H', J', q⟩ := hsp
      exact ⟨σ', H', J'.ofTry ok, q⟩
    | cont =>
      obtain ⟨σ', H', J', q⟩ := hsp
      exact ⟨σ', H', J'.ofTry ok, q⟩
    | ret u =>
      obtain ⟨v, σ', H', J', r, q⟩ := hsp
      exact ⟨v, σ', H', J'.ofTry ok, r, q⟩
end

/-! ### the nice ones -/
/-- whether 'except x' catches a c; none where that isn't told -/
def catchOf (CL : List Str) (c x : Str) : Option Bool := if CL.contains c && (Str.ofString "MartError" :: CL).contains x then some (isT (.cls c) (.cls x)) else none
structure KX (CL : List Str) (K : PySem.W.Frag) : Prop where
  exm : ∀ c ∈ CL, ∀ x ∈ (Str.ofString "MartError" :: CL), PySem.W.exmOne K (.ref (He.ga K c)) (.ref (He.ga K x)) = some (isT (.cls c) (.cls x))
section
variable {X : Cx} {H0 : Hp} {w : NW} {x n y : Str} {i j : Nat} {body suite : List Stmt} {b₀ : Stmt} {np pos pos' p1 p2 p3 : Pos} {mb : NW → NS} {ms : NS}
theorem catch_ok {CL : List Str} {c : Str} {b : Bool} (F : KX CL X.K) (h : catchOf CL c x = some b) : PySem.W.exmOne X.K (.ref (He.ga X.K c)) (.ref (He.ga X.K x)) = some b := by
  unfold catchOf at h
  split at h
  · rename_i e
    rw [Bool.and_eq_true] at e
    cases h
    exact F.exm c (List.contains_iff_mem.mp e.1) x (List.contains_iff_mem.mp e.2)
  · cases h
/-- try: .. except X: .. -/
def sTryO (CL : List Str) (x : Str) (mb : NW → NS) (ms : NS) (w : NW) : NS := fun D e S => mb (fun c d e1 S1 => match catchOf CL c x with
  | some true => ms D e1 S1
  | some false => w c d e1 S1
  | none => False) D e S
theorem js_try_only {CL : List Str} (cx : NX X H0 w) (F : KX CL X.K) (hm : X.mg x = some (.ref (He.ga X.K x))) (hs : X.stack = X.env :: X.outer) (hf : X.env.frame = some X.env.locals)
    (hb : ∀ (H1 : Hp) (w' : NW) (pn : List (Addr × Obj)) (xe : Value → Shared → Prop), HExt H0 H1 → NX (X.tr pn xe) H1 w' → JSs (X.tr pn xe) H1 body (mb w'))
    (hsu : ∀ (H1 : Hp) (a : Addr) (pn : List (Addr × Obj)), JSs (X.suite a pn) H1 (b₀ :: suite) ms) (hg : Gl X x := by rfl) (hdb : (x == ("__debug__" : Str)) = false := by decide +kernel) :
    JS X H0 (.Try body [.ExceptHandler (some (.Name x np)) none (b₀ :: suite) pos'] [] [] pos) (sTryO CL x mb ms w) := by
  refine (ps_try_only (tb := fun W D σ H => ∃ (H1 : Hp) (w' : NW), HExt H0 H1 ∧ (∀ c d σ H, lW X.K H1 w' c d σ H → W c d σ H) ∧ lS X.K H1 (mb w') D σ H) (ts := fun _ _ _ D σ H => ∃ H1, lS X.K H1 ms D σ H) hs hf ⟨hg, hdb, .inl hm⟩ cx.tk (fun W pn xe tk po => ?_) (fun a oe cls d pn hz hfl => ?_)).imq fun D σ H ⟨e, S, D', A, m, k⟩ => ?_
  · refine ⟨fun pins s σ H D I h => ?_⟩
    obtain ⟨H1, w', ht, h1, h2⟩ := h
    exact (hb H1 w' pn xe ht ⟨tk.imp h1, po, cx.calm, ht.tab cx.tb⟩).run pins s σ H D I h2
  · refine ⟨fun pins s σ H D I h => ?_⟩
    obtain ⟨H1, h1⟩ := h
    exact (hsu H1 a ((a, oe) :: pn)).run pins s σ H D I h1
  · refine ⟨H, _, A.x, fun u d σ1 H1 ⟨c, e1, S1, ec, A1, q⟩ => ?_, e, S, D', ⟨.refl H, A.e, A.s⟩, m, ⟨fun e' S' σ' H' x A' q => k.nx e' S' σ' H' x ⟨A.x.trans x, A'.e, A'.s⟩ q, k.rt, fun e' S' σ' H' x A' q => k.bk e' S' σ' H' x ⟨A.x.trans x, A'.e, A'.s⟩ q, fun e' S' σ' H' x A' q => k.ct e' S' σ' H' x ⟨A.x.trans x, A'.e, A'.s⟩ q⟩⟩
    subst ec
    cases e : catchOf CL c x with
    | none =>
      dsimp only at q
      rw [e] at q; exact q.elim
    | some b =>
      refine ⟨b, catch_ok F e, fun eb a na => ?_, fun eb => ?_⟩
      · subst eb
        dsimp only at q
        rw [e] at q
        exact ⟨H0, e1, S1, D', ⟨A.x.trans A1.x, A1.e, A1.s⟩, q, k.ext A1.x⟩
      · subst eb
        dsimp only at q
        rw [e] at q
        exact ⟨c, e1, S1, rfl, ⟨A.x.trans A1.x, A1.e, A1.s⟩, q⟩
/-- try: .. except X as n: y = n; the exception stays -/
def sTryK (CL : List Str) (x : Str) (i j : Nat) (mb : NW → NS) (w : NW) : NS := fun D e S => mb (fun c d e1 S1 => match catchOf CL c x with
  | some true => i < e1.length ∧ ∀ a, S1 a = none → D.nx ((e1.set j (some (.ref a))).set i none) (put S1 a (.exc c d))
  | some false => w c d e1 S1
  | none => False) D e S
theorem js_try_keep {CL : List Str} (cx : NX X H0 w) (F : KX CL X.K) (hm : X.mg x = some (.ref (He.ga X.K x))) (hN : X.N.Nodup) (hs : X.stack = X.env :: X.outer) (hf : X.env.frame = some X.env.locals) (hex : X.ex = []) (hfn : ∀ z, X.fn z = true) (hij : i ≠ j)
    (hb : ∀ (H1 : Hp) (w' : NW) (pn : List (Addr × Obj)) (xe : Value → Shared → Prop), HExt H0 H1 → NX (X.tr pn xe) H1 w' → JSs (X.tr pn xe) H1 body (mb w'))
    (hi : X.N[i]? = some n) (hj : X.N[j]? = some y) (hln : X.env.kindOf n = some .local) (hly : Loc X.env.scope y) (hsw : ∀ a pn, swapsWith (.Name n p2) (some (.Name y p1)) p3.line (X.suite a pn).env = pure false)
    (hdn : (n == ("__debug__" : Str)) = false := by decide +kernel) (hcn : (n == ("__classdict__" : Str)) = false := by decide +kernel) (hg : Gl X x := by rfl) (hdb : (x == ("__debug__" : Str)) = false := by decide +kernel) :
    JS X H0 (.Try body [.ExceptHandler (some (.Name x np)) (some n) [.Assign [.Name y p1] (.Name n p2) p3] pos'] [] [] pos) (sTryK CL x i j mb w) := by
  refine (ps_try_keep (tb := fun W D σ H => ∃ (H1 : Hp) (w' : NW), HExt H0 H1 ∧ (∀ c d σ H, lW X.K H1 w' c d σ H → W c d σ H) ∧ lS X.K H1 (mb w') D σ H) (ts := fun a _ _ D σ H => tAsg (tVar i) (gName j) D σ H) hs hf hex hN hi hln ⟨hg, hdb, .inl hm⟩ cx.tk (fun W pn xe tk po => ?_) (fun a oe cls d pn hz hfl => ?_)).imq fun D σ H ⟨e, S, D', A, m, k⟩ => ?_
  · refine ⟨fun pins s σ H D I h => ?_⟩
    obtain ⟨H1, w', ht, h1, h2⟩ := h
    exact (hb H1 w' pn xe ht ⟨tk.imp h1, po, cx.calm, ht.tab cx.tb⟩).run pins s σ H D I h2
  · exact pss_one (ps_set (X := X.suite a ((a, oe) :: pn)) hN hj hly (pe_var (X := X.suite a ((a, oe) :: pn)) hi (.inl hln) hdn hcn) (hsw _ _) (.inl (hfn y)))
  · refine ⟨H, _, A.x, fun u d σ1 H1 ⟨c, e1, S1, ec, A1, q⟩ => ?_, e, S, D', ⟨.refl H, A.e, A.s⟩, m, ⟨fun e' S' σ' H' x A' q => k.nx e' S' σ' H' x ⟨A.x.trans x, A'.e, A'.s⟩ q, k.rt, fun e' S' σ' H' x A' q => k.bk e' S' σ' H' x ⟨A.x.trans x, A'.e, A'.s⟩ q, fun e' S' σ' H' x A' q => k.ct e' S' σ' H' x ⟨A.x.trans x, A'.e, A'.s⟩ q⟩⟩
    subst ec
    cases e : catchOf CL c x with
    | none =>
      dsimp only at q
      rw [e] at q; exact q.elim
    | some b =>
      refine ⟨b, catch_ok F e, fun eb a na => ?_, fun eb => ?_⟩
      · subst eb
        dsimp only at q
        rw [e] at q
        obtain ⟨hlt0, q⟩ := q
        have q1 := q a (A1.s.fresh na)
        have hlt : i < σ1.length := by rw [← Paired.length A1.e]; exact hlt0
        refine ⟨.ref a, by rw [List.getElem?_set_self hlt], fun na' => ?_⟩
        have xx : HExt H1 (upd H1 a (.ext (excP a (.ref (He.ga X.K c)) d))) := .new na
        have A2 : At X.K H0 (upd H1 a (.ext (excP a (.ref (He.ga X.K c)) d))) σ1 e1 (put S1 a (.exc c d)) := ⟨(A.x.trans A1.x).trans xx, A1.e.ext xx, A1.s.put (o := .exc c d) xx upd_same⟩
        have A3 := A2.set (.ref a) j
        have hc : (((σ1.set i (some (V.ref a))).set j (some (V.ref a))).set i none) = ((σ1.set j (some (V.ref a))).set i none) := by
          rw [List.set_comm _ _ hij, List.set_set]
        rw [hc]
        exact k.nx _ _ _ _ (A1.x.trans xx) ⟨A3.x, A3.e.unset i, A3.s⟩ q1
      · subst eb
        dsimp only at q
        rw [e] at q
        exact ⟨c, e1, S1, rfl, ⟨A.x.trans A1.x, A1.e, A1.s⟩, q⟩
end
end N

set_option Elab.async false
set_option linter.all false
set_option maxRecDepth 100000
set_option maxHeartbeats 4000000
namespace N
variable [TabList]
open PySem PySem.Spec PyProof.Rows L2
section
variable {X : Cx} {H0 : Hp} {w : NW} {a b c o : Expr} {ma mb mc mo : NE} {pos : Pos} {es : List Expr} {mr : NA}

/-! ### chains as tests -/
theorem jt_chain {op op' : CmpOp} {n n' : N2} (ho : OpN X (compareOp op) n) (ho' : OpN X (compareOp op') n') (ha : JE X H0 a ma) (hb : JE X H0 b mb) (hc : JE X H0 c mc)
    (h1 : lastMarks [op, op'] [b, c] = false := by with_unfolding_all rfl) : JT X H0 (.Compare a [op, op'] [b, c] pos) (mTst (mChain n n' ma mb mc)) := by
  obtain ⟨r, h3, h4⟩ := ho
  obtain ⟨r', h5, h6⟩ := ho'
  refine L2.PT.imq (pt_chain h3 h5 ha hb hc h1) fun σ H Q h => ?_
  obtain ⟨e, S, Q', A, m, k⟩ := h
  refine ⟨e, S, _, A, m, fun x S1 vx H1 x1 s1 rx m1 => ?_⟩
  refine ⟨e, S1, _, A.next x1 s1, m1, fun y S2 vy H2 x2 s2 ry m2 => ?_⟩
  refine h4 x y S2 _ vx vy H2 _ s2 (rx.ext x2) ry m2 fun z S3 vz H3 x3 s3 rz m3 => ?_
  cases z with
  | bl t =>
    cases rz
    have x13 := (x1.trans x2).trans x3
    cases t with
    | true =>
      refine ⟨true, rfl, iteT ?_⟩
      refine ⟨e, S3, _, A.next x13 s3, m3, fun u S4 vu H4 x4 s4 ru m4 => ?_⟩
      refine h6 y u S4 _ vy vu H4 _ s4 ((ry.ext x3).ext x4) ru m4 fun d S' v H' x5 s5 rd q => ?_
      cases d with
      | bl t => cases rd; exact ⟨t, rfl, k t S' H' ((x13.trans x4).trans x5) s5 q⟩
      | _ => exact q.elim
    | false => exact ⟨false, rfl, iteF ⟨false, rfl, k false S3 H3 x13 s3 m3⟩⟩
  | _ => exact m3.elim

/-! ### names of the module -/
theorem je_gint {x : Str} {i : Int} (h : ∃ t, X.mg x = some (.int i t)) (hg : Gl X x := by rfl) (hd : (x == ("__debug__" : Str)) = false := by decide +kernel) : JE X H0 (.Name x pos) (mC (.int i)) := by
  obtain ⟨t, h⟩ := h
  exact je_glob (v := .int i) h ⟨t, rfl⟩ (fun _ => .int i) hg hd
theorem je_gstr {x z : Str} (h : ∃ t, X.mg x = some (.str z t)) (hg : Gl X x := by rfl) (hd : (x == ("__debug__" : Str)) = false := by decide +kernel) : JE X H0 (.Name x pos) (mC (.str z)) := by
  obtain ⟨t, h⟩ := h
  exact je_glob (v := .str z) h ⟨t, rfl⟩ (fun _ => .str z) hg hd
theorem je_cls {x : Str} (h : X.mg x = some (.ref (He.ga X.K x))) (hg : Gl X x := by rfl) (hd : (x == ("__debug__" : Str)) = false := by decide +kernel) : JE X H0 (.Name x pos) (mC (.cls x)) :=
  je_glob (v := .ref (He.ga X.K x)) h rfl (fun _ => .cls x) hg hd
theorem je_tyB {x : Str} {T : String} (h : X.mg x = none) (hv : bootBuiltins x = some (.type T) := by decide +kernel) (hg : Gl X x := by rfl) (hn : x ≠ "__name__" := by decide +kernel) (hd : (x == ("__debug__" : Str)) = false := by decide +kernel) : JE X H0 (.Name x pos) (mC (.ty T)) :=
  je_bltn (v := .ty T) h hv rfl (fun _ => .ty T) hg hn hd
/-- a written tuple of texts -/
def tupW (K : PySem.W.Frag) (x : Str) (ys : List Str) : Bool := match K.lookup (He.ga K x) with
  | some ⟨.type c, none, .seq its _, _⟩ => decide (c = "tuple") && (decide (its.size ≤ sizeLine) && He.relAll (ys.map V.str) its.toList)
  | _ => false
structure TupS (K : PySem.W.Frag) (x : Str) (ys : List Str) : Prop where
  ex : ∃ (sl : Array (Option Value)) (its : List Value) (n : Nat), K.lookup (He.ga K x) = some ⟨.type "tuple", none, .seq its.toArray n, sl⟩ ∧ its.length ≤ sizeLine ∧ Vals (ys.map V.str) its
theorem tupW_ok {K : PySem.W.Frag} {x : Str} {ys : List Str} (h : tupW K x ys = true) : TupS K x ys := by
  unfold tupW at h
  cases q : K.lookup (He.ga K x) with
  | none => rw [q] at h; cases h
  | some ob =>
    obtain ⟨oc, od, dt, osl⟩ := ob
    rw [q] at h
    cases oc with
    | type c =>
      cases od with
      | none =>
        cases dt with
        | seq its n =>
          obtain ⟨h1, h2⟩ := He.ba h
          obtain ⟨h3, h4⟩ := He.ba h2
          have e := of_decide_eq_true h1
          subst e
          exact ⟨osl, its.toList, n, by simpa using q, by simpa using of_decide_eq_true h3, He.relAll_ok h4⟩
        | _ => cases h
      | some d => cases dt <;> cases h
    | _ => cases od <;> cases dt <;> cases h
theorem vrs_strs {K : PySem.W.Frag} {H : Hp} : ∀ ys : List Str, VRs K H (ys.map D.str) (ys.map V.str)
  | [] => .nil
  | y :: r => .cons (.str y) (vrs_strs r)
theorem TupS.vr {K : PySem.W.Frag} {x : Str} {ys : List Str} (T : TupS K x ys) (H : Hp) : VR K H (.tup (ys.map D.str)) (.ref (He.ga K x)) := by
  obtain ⟨sl, its, n, h1, h2, h3⟩ := T.ex
  exact .tup (.inr ⟨none, sl, its, n, h1, h2, h3⟩) (vrs_strs ys)
theorem je_gtup {x : Str} {ys : List Str} (T : TupS X.K x ys) (h : X.mg x = some (.ref (He.ga X.K x))) (hg : Gl X x := by rfl) (hd : (x == ("__debug__" : Str)) = false := by decide +kernel) : JE X H0 (.Name x pos) (mC (.tup (ys.map D.str))) :=
  je_glob (v := .ref (He.ga X.K x)) h rfl (fun H => T.vr H) hg hd

/-! ### methods of the built-ins -/
def nTupIndex (ys : List Str) : D → Sto → NQ → Prop := fun y S Q => match y with
  | .str z => (match ys.findIdx? (fun x => decide (x = z)) with
    | some j => Q (.int (j : Nat)) S
    | none => False)
  | _ => False
def mTupIndex (ys : List Str) (m : NE) : NE := fun e S Q => m e S fun d S1 => nTupIndex ys d S1 Q
theorem je_tupIndex {x : Str} {ys : List Str} {p1 apos : Pos} (T : TupS X.K x ys) (h : X.mg x = some (.ref (He.ga X.K x))) (he : JE X H0 a ma) (hg : Gl X x := by rfl) (hd : (x == ("__debug__" : Str)) = false := by decide +kernel)
    (hbase : attributeBase (.Name x p1) "index" X.env (eval (.Name x p1) X.env) = eval (.Name x p1) X.env := by rfl)
    (hfew : ((backTo pos (starEach (a :: []) X.env)).all (fun x => !x.1) && (backToKw pos (keywordEach [] X.env)).all (fun x => x.1.isSome)
      && decide ((a :: []).length + ([] : List Keyword).length + (if ([] : List Keyword).isEmpty then 0 else 1) < 30)) = true := by rfl)
    (hline : (apos.endLine == pos.line) = true := by rfl) (hs : starEach (a :: []) X.env = (false, eval a X.env) :: starEach [] X.env := by rfl) (hplain : (backTo pos (starEach [] X.env)).any (·.1) = false := by rfl) :
    JE X H0 (.Call (.Attribute (.Name x p1) "index" apos) [a] [] pos) (mTupIndex ys ma) := by
  refine (pe_bm PySem.F.plainAttrs_tuple PySem.F.slot_tuple_index PySem.F.type_tuple_index mt_tup_index (pe_glob (v := .ref (He.ga X.K x)) hg h rfl hd) (ja_cons he ja_nil hs) hbase hfew hline hs hplain).imq fun σ H Q ⟨e, S, Q', A, m, k⟩ => ?_
  obtain ⟨sl, its, n, h1, h2, h3⟩ := T.ex
  refine ⟨.inr (.inl ⟨rfl, _, h1, rfl, rfl⟩), e, S, fun ds S1 => ∃ d, ds = [d] ∧ nTupIndex ys d S1 Q', A, ?_, fun ds S1 vs H1 x1 s1 r ⟨d, ed, q⟩ => ?_⟩
  · have : (fun d S1 => ∃ d', [d] = [d'] ∧ nTupIndex ys d' S1 Q') = fun d S1 => nTupIndex ys d S1 Q' := by
      funext d S1
      exact propext ⟨fun ⟨d', e, q⟩ => by cases e; exact q, fun q => ⟨d, rfl, q⟩⟩
    exact (congrArg (ma e S) this).mpr m
  · subst ed
    obtain ⟨v, rfl, rv⟩ := vrs1 r
    unfold nTupIndex at q
    split at q
    · rename_i z _
      cases rv
      split at q
      · rename_i j ej
        obtain ⟨hj, e1, e2⟩ := List.findIdx?_eq_some_iff_getElem.mp ej
        refine ⟨_, ys, z, j, rfl, rfl, (TupR.sq (.inr ⟨none, sl, its, n, h1, h2, h3⟩)), ?_, fun i hi he => ?_, k _ _ _ _ x1 s1 (.int _) q⟩
        · rw [List.getElem?_eq_getElem hj, of_decide_eq_true e1]
        · obtain ⟨h5, h6⟩ := List.getElem?_eq_some_iff.mp he
          have := e2 i hi
          rw [h6] at this
          simp at this
      · exact q.elim
    · exact q.elim
/-- xs.index(y), flat items -/
def nIndex : D → D → Sto → NQ → Prop := fun x y S Q => match x with
  | .ref p => (match S p with
    | some (.lst ds) => flatD y = true ∧ ds.all flatD = true ∧ (match ds.findIdx? (fun d => eqF d y) with
      | some j => Q (.int (j : Nat)) S
      | none => False)
    | _ => False)
  | _ => False
/-- the receiver is a list, and stands -/
def mLm (n : D → List D → Sto → NQ → Prop) (mo : NE) (mr : NA) : NE := fun e S Q => mo e S fun x S1 => (∃ p ds, x = .ref p ∧ S1 p = some (.lst ds)) ∧ mr e S1 fun ds S2 => n x ds S2 Q
def OpM (K : PySem.W.Frag) (r : V → List V → Hp → VK → Prop) (n : D → List D → Sto → NQ → Prop) : Prop := ∀ x ys S Q vx vs H Q', SR K S H → VR K H x vx → VRs K H ys vs → n x ys S Q → (∀ d S' v H', HExt H H' → SR K S' H' → VR K H' d v → Q d S' → Q' v H') → r vx vs H Q'
theorem je_lm {name : Str} {id : String} {r : V → List V → Hp → VK → Prop} {n : D → List D → Sto → NQ → Prop} {apos : Pos} (slot : Slot "list" name id) (hty : typeOf (.builtin id) = pure (.type "method_descriptor")) (hm : MtR X id r) (hn : OpM X.K r n) (ho : JE X H0 o mo) (ha : JA X H0 (a :: es) mr)
    (hbase : attributeBase o name X.env (eval o X.env) = eval o X.env := by rfl)
    (hfew : ((backTo pos (starEach (a :: es) X.env)).all (fun x => !x.1) && (backToKw pos (keywordEach [] X.env)).all (fun x => x.1.isSome)
      && decide ((a :: es).length + ([] : List Keyword).length + (if ([] : List Keyword).isEmpty then 0 else 1) < 30)) = true := by rfl)
    (hline : (apos.endLine == pos.line) = true := by rfl) (hs : starEach (a :: es) X.env = (false, eval a X.env) :: starEach es X.env := by rfl) (hplain : (backTo pos (starEach es X.env)).any (·.1) = false := by rfl) :
    JE X H0 (.Call (.Attribute o name apos) (a :: es) [] pos) (mLm n mo mr) := by
  refine (pe_bm PySem.F.plainAttrs_list slot hty hm ho ha hbase hfew hline hs hplain).imq fun σ H Q ⟨e, S, Q', A, m, k⟩ => ?_
  refine ⟨e, S, _, A, m, fun x S1 vx H1 x1 s1 rx q => ?_⟩
  obtain ⟨⟨p, ds, rfl, e1⟩, q⟩ := q
  cases rx
  obtain ⟨vs0, g1, _⟩ := s1.lst e1
  refine ⟨.inl ⟨rfl, _, SqL.of g1⟩, e, S1, _, A.next x1 s1, q, fun ds S2 vs H2 x2 s2 rs q2 => ?_⟩
  exact hn (.ref p) ds S2 Q' _ vs H2 Q s2 (.ref p) rs q2 fun d S' v H' x3 s3 rd q3 => k d S' v H' ((x1.trans x2).trans x3) s3 rd q3
def nAppend : D → List D → Sto → NQ → Prop := fun x ys S Q => match x, ys with
  | .ref p, [y] => (match S p with
    | some (.lst ds) => ds.length < sizeLine ∧ Q .non (put S p (.lst (ds ++ [y])))
    | _ => False)
  | _, _ => False
theorem opM_append {K : PySem.W.Frag} : OpM K rAppend nAppend := fun x ys S Q vx vs H Q' s rx rs n k => by
  unfold nAppend at n
  split at n
  · rename_i p y
    cases rx
    obtain ⟨v, rfl, rv⟩ := vrs1 rs
    split at n
    · rename_i ds e1
      obtain ⟨ws, g1, r1⟩ := s.lst e1
      have x : HExt H (upd H p (.lst (ws ++ [v]))) := .upd g1 True.intro
      exact ⟨p, ws, v, rfl, rfl, g1, by rw [← r1.length]; exact n.1, k _ _ _ _ x (s.put (o := .lst (ds ++ [y])) x ⟨_, upd_same, (r1.append (.cons rv .nil)).ext x⟩) .non n.2⟩
    · exact n.elim
  · exact n.elim
theorem je_append {apos : Pos} (ho : JE X H0 o mo) (ha : JA X H0 (a :: es) mr)
    (hbase : attributeBase o "append" X.env (eval o X.env) = eval o X.env := by rfl)
    (hfew : ((backTo pos (starEach (a :: es) X.env)).all (fun x => !x.1) && (backToKw pos (keywordEach [] X.env)).all (fun x => x.1.isSome)
      && decide ((a :: es).length + ([] : List Keyword).length + (if ([] : List Keyword).isEmpty then 0 else 1) < 30)) = true := by rfl)
    (hline : (apos.endLine == pos.line) = true := by rfl) (hs : starEach (a :: es) X.env = (false, eval a X.env) :: starEach es X.env := by rfl) (hplain : (backTo pos (starEach es X.env)).any (·.1) = false := by rfl) :
    JE X H0 (.Call (.Attribute o "append" apos) (a :: es) [] pos) (mLm nAppend mo mr) :=
  je_lm PySem.F.slot_list_append PySem.F.type_list_append (r := rAppend) (fun pins s σ H x xs v us Q I rx rs h => mt_append pins s σ H x xs v us Q I rx rs h) opM_append ho ha hbase hfew hline hs hplain
def nIndexL : D → List D → Sto → NQ → Prop := fun x ys S Q => match ys with
  | [y] => nIndex x y S Q
  | _ => False
theorem opM_index {K : PySem.W.Frag} : OpM K (rIndex K) nIndexL := fun x ys S Q vx vs H Q' s rx rs n k => by
  unfold nIndexL nIndex at n
  split at n
  · rename_i y
    split at n
    · rename_i p
      cases rx
      obtain ⟨v, rfl, rv⟩ := vrs1 rs
      split at n
      · rename_i ds e1
        obtain ⟨ws, g1, r1⟩ := s.lst e1
        obtain ⟨n1, n2, n3⟩ := n
        split at n3
        · rename_i j ej
          obtain ⟨hj, e2, e3⟩ := List.findIdx?_eq_some_iff_getElem.mp ej
          obtain ⟨u, hu, ru⟩ := r1.get (List.getElem?_eq_getElem hj)
          have fl : ∀ i (hi : i < ds.length), flatD ds[i] = true := fun i hi => List.all_eq_true.mp n2 _ (List.getElem_mem hi)
          refine ⟨p, ws, v, j, u, rfl, rfl, SqL.of g1, flat_ok rv n1, flats_ok r1 n2, hu, ?_, fun i z hi hz => ?_, k _ _ _ _ (.refl H) s (.int _) n3⟩
          · rw [eqF_ok ru rv (fl j hj) n1]; exact e2
          · have hil : i < ds.length := Nat.lt_trans hi hj
            obtain ⟨u', hu', ru'⟩ := r1.get (List.getElem?_eq_getElem hil)
            rw [hz] at hu'
            cases hu'
            rw [eqF_ok ru' rv (fl i hil) n1]
            have := e3 i hi
            simpa using this
        · exact n3.elim
      · exact n.elim
    · exact n.elim
  · exact n.elim
theorem je_index {apos : Pos} (ho : JE X H0 o mo) (ha : JA X H0 (a :: es) mr)
    (hbase : attributeBase o "index" X.env (eval o X.env) = eval o X.env := by rfl)
    (hfew : ((backTo pos (starEach (a :: es) X.env)).all (fun x => !x.1) && (backToKw pos (keywordEach [] X.env)).all (fun x => x.1.isSome)
      && decide ((a :: es).length + ([] : List Keyword).length + (if ([] : List Keyword).isEmpty then 0 else 1) < 30)) = true := by rfl)
    (hline : (apos.endLine == pos.line) = true := by rfl) (hs : starEach (a :: es) X.env = (false, eval a X.env) :: starEach es X.env := by rfl) (hplain : (backTo pos (starEach es X.env)).any (·.1) = false := by rfl) :
    JE X H0 (.Call (.Attribute o "index" apos) (a :: es) [] pos) (mLm nIndexL mo mr) :=
  je_lm PySem.F.slot_list_index PySem.F.type_list_index mt_index opM_index ho ha hbase hfew hline hs hplain

/-! ### a dict, displayed -/
def mPairs : List (Key × NE) → Env → Sto → (List (Key × D) → Sto → Prop) → Prop
  | [], _, S, Q => Q [] S
  | (k, m) :: r, e, S, Q => m e S fun d S1 => mPairs r e S1 fun ps S2 => Q ((k, d) :: ps) S2
def mergeD (kvs more : List (Key × D)) : List (Key × D) := more.foldl (fun acc kv => dput acc kv.1 kv.2) kvs
def mDisp (ps : List (Key × NE)) : NE := fun e S Q => ∀ p, S p = none → mPairs ps e (put S p (.dic [])) fun kvs S2 => S2 p = some (.dic []) ∧ kvs.length ≤ 15 ∧ Q (.ref p) (put S2 p (.dic (mergeD [] kvs)))
structure JPs (X : Cx) (H0 : Hp) (pos : Pos) (keys : List (Option Expr)) (values : List Expr) (ps : List (Key × NE)) : Prop where
  ex : ∃ trs, PPs X pos keys values trs ∧ ∀ σ H (Q : List (V × V) → Hp → Prop) e S Q', At X.K H0 H σ e S → mPairs ps e S Q' → (∀ kvs S' ws H', HExt H H' → SR X.K S' H' → KVR X.K H' kvs ws → Q' kvs S' → Q (ws.map fun kv => (kV kv.1, kv.2)) H') → tPairs trs σ H Q
theorem jps_nil : JPs X H0 pos [] [] [] := ⟨[], pps_nil, fun σ H Q e S Q' A m k => k [] S [] H (.refl H) A.s .nil m⟩
theorem jps_cons {x : Str} {j : Nat} {kp : Pos} {ks : List (Option Expr)} {vs : List Expr} {ps : List (Key × NE)} {v : Expr} {mv : NE} (hv : JE X H0 v mv) (hr : JPs X H0 pos ks vs ps) : JPs X H0 pos (some (.Constant (.str x) j kp) :: ks) (v :: vs) ((.inr x, mv) :: ps) := by
  obtain ⟨trs, h1, h2⟩ := hr.ex
  refine ⟨_, pps_cons pe_str hv h1, fun σ H Q e S Q' A m k => ?_⟩
  refine ⟨e, S, _, A, m, fun d S1 vd H1 x1 s1 rd m1 => ?_⟩
  refine h2 σ H1 _ e S1 _ (A.next x1 s1) m1 fun kvs S' ws H' x2 s2 r q => ?_
  exact k ((.inr x, d) :: kvs) S' ((.inr x, vd) :: ws) H' (x1.trans x2) s2 (.cons ⟨rfl, rd.ext x2⟩ r) q
theorem merge_ok {K : PySem.W.Frag} {H : Hp} : ∀ {more : List (Key × D)} {wm : List (Key × V)} {kvs : List (Key × D)} {ws : List (Key × V)}, KVR K H more wm → KVR K H kvs ws → KVR K H (mergeD kvs more) (mergeK ws wm)
  | _, _, _, _, .nil, r => r
  | p :: ps, q :: qs, _, _, .cons h t, r => by
    show KVR K H (mergeD (dput _ p.1 p.2) ps) (mergeK (putK _ q.1 q.2) qs)
    refine merge_ok t ?_
    rw [← h.1]
    exact dput_ok r p.1 h.2
theorem je_disp {keys : List (Option Expr)} {values : List Expr} {ps : List (Key × NE)} (h : JPs X H0 pos keys values ps) (hall : keys.all (·.isSome) = true := by rfl) (hl : keys.length = values.length := by rfl) (h0 : keys ≠ [] := by intro z; cases z) (h15 : keys.length ≤ 15 := by decide) :
    JE X H0 (.Dict keys values pos) (mDisp ps) := by
  obtain ⟨trs, h1, h2⟩ := h.ex
  refine (pe_disp h1 hall hl h0 h15).imq fun σ H Q ⟨e, S, Q', A, m, k⟩ p np => ?_
  have x0 : HExt H (upd H p (.dK [])) := .new np
  have s0 : SR X.K (put S p (.dic [])) (upd H p (.dK [])) := A.s.put (o := .dic []) x0 ⟨[], upd_same, .nil⟩
  refine h2 σ _ _ e _ _ (A.next x0 s0) (m p (A.s.fresh np)) fun kvs S' ws H' x1 s1 r q => ?_
  obtain ⟨q1, q2, q3⟩ := q
  obtain ⟨w0, g0, r0⟩ := s1.dic q1
  cases r0
  refine ⟨g0, ws, rfl, by rw [← Paired.length r]; exact q2, ?_⟩
  have x2 : HExt H' (upd H' p (.dK (mergeK [] ws))) := .upd g0 True.intro
  exact k _ _ _ _ ((x0.trans x1).trans x2) (s1.put (o := .dic (mergeD [] kvs)) x2 ⟨_, upd_same, KVR.ext x2 (merge_ok r .nil)⟩) (.ref p) q3

/-! ### a field, op= -/
def sFldAugN (f : Str) (mo mv : NE) (n : N2) : NS := fun Z e S => mo e S fun x S1 => match x with
  | .ref p => (match S1 p with
    | some (.ins c fs) => (match fs.lookup f with
      | some v => mv e S1 fun y S2 => n v y S2 fun z S3 => (match S3 p with
        | some (.ins c' fs') => c' = c ∧ fs'.length < 1000 ∧ Z.nx e (put S3 p (.ins c (putD f z fs')))
        | _ => False)
      | none => False)
    | _ => False)
  | _ => False
theorem js_fldaug {f : Str} {op : Operator} {n : N2} {rd : R2} {value : Expr} {mv : NE} {tpos : Pos} (ho : JE X H0 o mo) (hv : JE X H0 value mv) (hop : InOp X op rd) (hn : Op2 X.K rd n) (hf : f ∈ FN := by decide +kernel) : JS X H0 (.AugAssign (.Attribute o f tpos) op value pos) (sFldAugN f mo mv n) := by
  refine (ps_fldaug ho hv hop).imq fun D σ H ⟨e, S, D', A, m, k⟩ => ?_
  refine ⟨e, S, _, A, m, fun x S1 vx H1 x1 s1 rx q => ?_⟩
  split at q
  · rename_i p
    cases rx
    split at q
    · rename_i c fs e1
      obtain ⟨dx, ws, g1, r1, co⟩ := s1.ins e1
      split at q
      · rename_i d ed
        obtain ⟨v, g2, g3⟩ := (KVR.look (f := f) r1).1 d ed
        refine ⟨p, _, dx, ws, v, rfl, g1, co.cl, co.no f hf, g2, ?_⟩
        refine ⟨e, S1, _, A.next x1 s1, q, fun y S2 vy H2 x2 s2 ry q2 => ?_⟩
        refine hn d y S2 _ v vy H2 _ s2 (g3.ext x2) ry q2 fun z S3 vz H3 x3 s3 rz q3 => ?_
        split at q3
        · rename_i c' fs' e2
          obtain ⟨rfl, q4, q5⟩ := q3
          obtain ⟨dx', ws', g4, r4, co'⟩ := s3.ins e2
          obtain ⟨x4, s4⟩ := s3.setIns (f := f) g4 r4 co' rz
          have xx := ((x1.trans x2).trans x3).trans x4
          exact ⟨dx', ws', g4, by have := Paired.length r4; omega, k.nx _ _ _ _ xx (A.next xx s4) q5⟩
        · exact q3.elim
      · exact q.elim
    · exact q.elim
  · exact q.elim
theorem op2_add {K : PySem.W.Frag} : Op2 K rAdd (nInt0 fun i j => .int (i + j)) := fun x y S Q vx vy H Q' s rx ry n k => by
  unfold nInt0 at n
  split at n
  · cases rx; cases ry
    exact ⟨_, _, rfl, rfl, k _ _ _ _ (.refl H) s (.int _) n⟩
  · exact n.elim
theorem op2_sub {K : PySem.W.Frag} : Op2 K rSub (nInt0 fun i j => .int (i - j)) := fun x y S Q vx vy H Q' s rx ry n k => by
  unfold nInt0 at n
  split at n
  · cases rx; cases ry
    exact ⟨_, _, rfl, rfl, k _ _ _ _ (.refl H) s (.int _) n⟩
  · exact n.elim
end
end N

set_option Elab.async false
set_option linter.all false
set_option maxRecDepth 100000
set_option maxHeartbeats 4000000
namespace N
variable [TabList]
open PySem PySem.Spec PyProof.Rows L2

/-! ### what is walked, in general -/
abbrev NI := Env → Sto → (List D → Keep → Sto → Prop) → Prop
/-- the walk J gives the items ds, as long as kp -/
structure ItR (K : PySem.W.Frag) (H1 : Hp) (J : It) (ds : List D) (kp : Keep) : Prop where
  stop : ∀ H S, HExt H1 H → SR K S H → kp S → J.stop ds.length H
  go : ∀ i H S, i < ds.length → HExt H1 H → SR K S H → kp S → J.go i H
  yld : ∀ i H S x H' d, ds[i]? = some d → HExt H1 H → SR K S H → kp S → J.yld i H x H' → HExt H H' ∧ SR K S H' ∧ VR K H' d x
def lI (K : PySem.W.Frag) (H0 : Hp) (m : NI) : TI := fun σ H R => ∃ e S Q', At K H0 H σ e S ∧ m e S Q' ∧ ∀ ds kp S1 H1 J, HExt H H1 → SR K S1 H1 → kp S1 → Q' ds kp S1 → ItR K H1 J ds kp → R J H1
abbrev JI (X : Cx) (H0 : Hp) (tg e : Expr) (m : NI) : Prop := PI X tg e (lI X.K H0 m)
theorem _root_.L2.PI.imq {X : Cx} {tg e : Expr} {t t' : TI} (h : PI X tg e t) (i : ∀ σ H R, t' σ H R → t σ H R) : PI X tg e t' := ⟨fun pins s σ H R I q => h.run pins s σ H R I (i _ _ _ q)⟩
section
variable {X : Cx} {H0 : Hp} {w : NW} {a b c o : Expr} {ma mb mo : NE} {pos : Pos} {es : List Expr} {mr : NA}
theorem itr_tup {K : PySem.W.Frag} {H1 : Hp} {p : Addr} {vs : List V} {ds : List D} (tr : TupR K H1 p vs) (rr : VRs K H1 ds vs) : ItR K H1 (Itt K p) ds fun _ => True := by
  refine ⟨fun H2 S2 x s _ => ⟨vs, (tr.ext x).sq, by rw [← rr.length]; exact Nat.le_refl _⟩, fun i H2 S2 hi x s _ => ?_, fun i H2 S2 y H3 d hd x s _ yl => ?_⟩
  · obtain ⟨v, hv, _⟩ := rr.get (List.getElem?_eq_getElem hi)
    exact ⟨vs, v, (tr.ext x).sq, hv⟩
  · obtain ⟨rfl, yl⟩ := yl
    obtain ⟨v, hv, rv⟩ := rr.get hd
    have := yl vs (tr.ext x).sq
    rw [hv] at this
    cases this
    exact ⟨.refl _, s, rv.ext x⟩
theorem itr_rol {K : PySem.W.Frag} {H1 : Hp} {p : Addr} {vs : List V} {ds : List D} (tr : RolR K H1 p vs) (rr : VRs K H1 ds vs) : ItR K H1 (Itl K p) ds fun _ => True := by
  refine ⟨fun H2 S2 x s _ => ⟨vs, (tr.ext x).sq, by rw [← rr.length]; exact Nat.le_refl _⟩, fun i H2 S2 hi x s _ => ?_, fun i H2 S2 y H3 d hd x s _ yl => ?_⟩
  · obtain ⟨v, hv, _⟩ := rr.get (List.getElem?_eq_getElem hi)
    exact ⟨vs, v, (tr.ext x).sq, hv⟩
  · obtain ⟨rfl, yl⟩ := yl
    obtain ⟨v, hv, rv⟩ := rr.get hd
    have := yl vs (tr.ext x).sq
    rw [hv] at this
    cases this
    exact ⟨.refl _, s, rv.ext x⟩
theorem itr_lst {K : PySem.W.Frag} {H1 : Hp} {p : Addr} {ds : List D} : ItR K H1 (Itl K p) ds fun S' => S' p = some (.lst ds) := by
  refine ⟨fun H2 S2 x s kk => ?_, fun i H2 S2 hi x s kk => ?_, fun i H2 S2 y H3 d hd x s kk yl => ?_⟩
  · obtain ⟨vs, g1, rr⟩ := s.lst kk
    exact ⟨vs, SqL.of g1, by rw [← rr.length]; exact Nat.le_refl _⟩
  · obtain ⟨vs, g1, rr⟩ := s.lst kk
    obtain ⟨v, hv, _⟩ := rr.get (List.getElem?_eq_getElem hi)
    exact ⟨vs, v, SqL.of g1, hv⟩
  · obtain ⟨vs, g1, rr⟩ := s.lst kk
    obtain ⟨rfl, yl⟩ := yl
    obtain ⟨v, hv, rv⟩ := rr.get hd
    have := yl vs (SqL.of g1)
    rw [hv] at this
    cases this
    exact ⟨.refl _, s, rv⟩
theorem itr_rng {K : PySem.W.Frag} {H1 : Hp} {lo : Int} {n : Nat} : ItR K H1 (Itr lo n) (rangeD lo n) fun _ => True := by
  refine ⟨fun H S x s _ => Nat.le_of_eq rangeD_length.symm, fun i H S hi x s _ => ?_, fun i H S y H' d hd x s _ yl => ?_⟩
  · rw [rangeD_length] at hi; exact hi
  · obtain ⟨rfl, rfl⟩ := yl
    obtain ⟨_, rfl⟩ := rangeD_get hd
    exact ⟨.refl _, s, .int _⟩
/-- what a walk finds: a list, a tuple, a text's signs -/
def signsD (z : Str) : List D := z.cps.toList.map fun c => .str ⟨#[c]⟩
def nWalkA : D → Sto → (List D → Keep → Prop) → Prop := fun x S Q => match x with
  | .tup ds => Q ds fun _ => True
  | .rol ds => Q ds fun _ => True
  | .str z => Q (signsD z) fun _ => True
  | .ref p => (match S p with
    | some (.lst ds) => Q ds fun S' => S' p = some (.lst ds)
    | _ => False)
  | _ => False
def iWalk (m : NE) : NI := fun e S Q => m e S fun x S1 => nWalkA x S1 fun ds kp => Q ds kp S1
theorem itr_str {K : PySem.W.Frag} {H1 : Hp} {z : Str} : ItR K H1 (Its z) (signsD z) fun _ => True := by
  refine ⟨fun H S _ _ _ => ?_, fun i H S hi _ _ _ => ?_, fun i H S y H' d hd _ s _ yl => ?_⟩
  · show z.cps.size ≤ (signsD z).length
    unfold signsD; simp
  · unfold signsD at hi
    show i < z.cps.size
    simpa using hi
  · obtain ⟨rfl, c, hc, rfl⟩ := yl
    unfold signsD at hd
    rw [List.getElem?_map] at hd
    have : z.cps.toList[i]? = some c := by simpa using hc
    rw [this] at hd
    cases hd
    exact ⟨.refl _, s, .str _⟩
def iAnyS (K : PySem.W.Frag) (tl : TE) : TI := fun σ H R => tl σ H fun x H1 => (∃ p, x = .ref p ∧ (((∃ xs, SqL K H1 p xs) ∧ R (Itl K p) H1) ∨ ((∃ xs, SqT K H1 p xs) ∧ R (Itt K p) H1))) ∨ ∃ z, x = .str z ∧ R (Its z) H1
theorem pi_any {tg l : Expr} {tl : TE} (hl : PE X l tl) : PI X tg l (iAnyS X.K tl) := by
  refine ⟨fun pins s σ H R I h => ?_⟩
  refine thn (hl.run pins s σ H _ I h) fun v s1 ⟨x, H1, I1, r1, q1⟩ => ?_
  rcases q1 with ⟨p, e, ⟨⟨xs, hq⟩, q⟩ | ⟨⟨xs, hq⟩, q⟩⟩ | ⟨z, e, q⟩
  · subst e
    cases r1
    obtain ⟨its, rv, p, hz⟩ := I1.list hq
    refine wpAny_pyIter_list p.isList ?_
    refine ⟨s1.heap.objs.size, [s1.heap.objs.size], _, _, H1, rfl, I1.kept (t' := s1.toks) fun b o e => Heap.get?_push_of_some _ e, turn_list _ _, ⟨_, Heap.get?_push_size _ rfl, rfl, rfl⟩, fun b hb => ?_, q⟩
    have e : b = s1.heap.objs.size := by simpa using hb
    subst e
    exact I1.fpOk (Nat.le_refl _) (I1.hok.fresh (Nat.le_refl _))
  · subst e
    cases r1
    obtain ⟨its, rv, p, hz⟩ := I1.tuple hq
    refine wpAny_pyIter_tuple (show s1.heap.IsTuple _ its.toArray from p) ?_
    refine ⟨s1.heap.objs.size, [s1.heap.objs.size], _, _, H1, rfl, I1.kept (t' := s1.toks) fun b o e => Heap.get?_push_of_some _ e, turn_tuple _ _, ⟨_, Heap.get?_push_size _ rfl, rfl, rfl⟩, fun b hb => ?_, q⟩
    have e : b = s1.heap.objs.size := by simpa using hb
    subst e
    exact I1.fpOk (Nat.le_refl _) (I1.hok.fresh (Nat.le_refl _))
  · subst e
    obtain ⟨t, rfl⟩ := r1
    cases ha : z.cps.all (· < 128)
    · exact wpAny_pyIter_wide ha (pi_one (tk := s1.toks) I1 _ (turn_str _ z t "str_iterator" (.inr rfl)) ⟨_, Heap.get?_push_size _ rfl, rfl, rfl⟩ q)
    · exact wpAny_pyIter_ascii ha (pi_one (tk := s1.toks) I1 _ (turn_str _ z t "str_ascii_iterator" (.inl rfl)) ⟨_, Heap.get?_push_size _ rfl, rfl, rfl⟩ q)
theorem ji_seq {tg : Expr} (ha : JE X H0 a ma) : JI X H0 tg a (iWalk ma) := by
  refine (pi_any (tg := tg) ha).imq fun σ H R ⟨e, S, Q', A, m, k⟩ => ?_
  refine ⟨e, S, _, A, m, fun x S1 v H1 x1 s1 r m1 => ?_⟩
  unfold nWalkA at m1
  split at m1
  · cases r with
    | tup tr rr => exact .inl ⟨_, rfl, .inr ⟨⟨_, tr.sq⟩, k _ _ _ _ _ x1 s1 True.intro m1 (itr_tup tr rr)⟩⟩
  · cases r with
    | rol tr rr => exact .inl ⟨_, rfl, .inl ⟨⟨_, tr.sq⟩, k _ _ _ _ _ x1 s1 True.intro m1 (itr_rol tr rr)⟩⟩
  · cases r
    exact .inr ⟨_, rfl, k _ _ _ _ _ x1 s1 True.intro m1 itr_str⟩
  · rename_i p
    cases r
    split at m1
    · rename_i ds e1
      obtain ⟨vs0, g0, _⟩ := s1.lst e1
      exact .inl ⟨p, rfl, .inl ⟨⟨vs0, SqL.of g0⟩, k _ _ _ _ _ x1 s1 e1 m1 itr_lst⟩⟩
    · exact m1.elim
  · exact m1.elim
def iRg1 (m : NE) : NI := fun e S Q => m e S fun x S1 => match x with
  | .int j => RngOk j ∧ Q (rangeD 0 j.toNat) (fun _ => True) S1
  | _ => False
def iRg2 (m m' : NE) : NI := fun e S Q => m e S fun x S1 => m' e S1 fun y S2 => match x, y with
  | .int i, .int j => (RngOk i ∧ RngOk j) ∧ Q (rangeD i (j - i).toNat) (fun _ => True) S2
  | _, _ => False
theorem ji_rng1 {tg : Expr} {p rpos : Pos} (hm : X.mg "range" = none) (ha : JE X H0 a ma) (hgl : Gl X "range" := by rfl) (hsr : starEach [a] X.env = [(false, eval a X.env)] := by rfl) (hs1 : starEach [a] X.env = (false, eval a X.env) :: starEach [] X.env := by rfl) :
    JI X H0 tg (.Call (.Name "range" p) [a] [] rpos) (iRg1 ma) := by
  refine (pi_range1 hgl hm (ja_cons ha ja_nil hs1) hsr).imq fun σ H R ⟨e, S, Q', A, m, k⟩ => ?_
  refine ⟨e, S, (fun ds S1 => ∃ x, ds = [x] ∧ match x with
    | .int j => RngOk j ∧ Q' (rangeD 0 j.toNat) (fun _ => True) S1
    | _ => False), A, ?_, fun ds S1 vs H1 x1 s1 r ⟨x, ed, m1⟩ => ?_⟩
  · show ma e S _
    unfold iRg1 at m
    have : (fun x S1 => ∃ x_1, [x] = [x_1] ∧ match x_1 with
      | D.int j => RngOk j ∧ Q' (rangeD 0 j.toNat) (fun _ => True) S1
      | _ => False) = (fun x S1 => match x with
      | D.int j => RngOk j ∧ Q' (rangeD 0 j.toNat) (fun _ => True) S1
      | _ => False) := by
      funext x S1
      exact propext ⟨fun ⟨y, e, q⟩ => by cases e; exact q, fun q => ⟨x, rfl, q⟩⟩
    exact (congrArg (ma e S) this).mpr m
  · subst ed
    obtain ⟨v, rfl, rv⟩ := vrs1 r
    cases x with
    | int j =>
      cases rv
      exact ⟨j, rfl, m1.1.1, m1.1.2, k _ _ _ _ _ x1 s1 True.intro m1.2 itr_rng⟩
    | _ => exact m1.elim
theorem ji_rng2 {tg : Expr} {p rpos : Pos} (hm : X.mg "range" = none) (ha : JE X H0 a ma) (hb : JE X H0 b mb) (hgl : Gl X "range" := by rfl) (hs1 : starEach [a, b] X.env = [(false, eval a X.env), (false, eval b X.env)] := by rfl) (hs2 : starEach [b] X.env = [(false, eval b X.env)] := by rfl)
    (hsa : starEach [a, b] X.env = (false, eval a X.env) :: starEach [b] X.env := by rfl) (hsb : starEach [b] X.env = (false, eval b X.env) :: starEach [] X.env := by rfl) :
    JI X H0 tg (.Call (.Name "range" p) [a, b] [] rpos) (iRg2 ma mb) := by
  refine (pi_range2 hgl hm (ja_cons ha (ja_cons hb ja_nil hsb) hsa) hs1 hs2).imq fun σ H R ⟨e, S, Q', A, m, k⟩ => ?_
  refine ⟨e, S, (fun ds S1 => ∃ x y, ds = [x, y] ∧ match x, y with
    | .int i, .int j => (RngOk i ∧ RngOk j) ∧ Q' (rangeD i (j - i).toNat) (fun _ => True) S1
    | _, _ => False), A, ?_, fun ds S1 vs H1 x1 s1 r ⟨x, y, ed, m1⟩ => ?_⟩
  · show ma e S _
    unfold iRg2 at m
    have : (fun x S1 => mb e S1 fun y S2 => ∃ x_1 y_1, [x, y] = [x_1, y_1] ∧ match x_1, y_1 with
      | D.int i, D.int j => (RngOk i ∧ RngOk j) ∧ Q' (rangeD i (j - i).toNat) (fun _ => True) S2
      | _, _ => False) = (fun x S1 => mb e S1 fun y S2 => match x, y with
      | D.int i, D.int j => (RngOk i ∧ RngOk j) ∧ Q' (rangeD i (j - i).toNat) (fun _ => True) S2
      | _, _ => False) := by
      funext x S1
      congr 1
      funext y S2
      exact propext ⟨fun ⟨x', y', e, q⟩ => by cases e; exact q, fun q => ⟨x, y, rfl, q⟩⟩
    exact (congrArg (ma e S) this).mpr m
  · subst ed
    obtain ⟨v, u, rfl, rv, ru⟩ := vrs2 r
    cases x with
    | int i =>
      cases y with
      | int j =>
        cases rv; cases ru
        exact ⟨i, j, rfl, ⟨m1.1.1.1, m1.1.1.2, m1.1.2.1, m1.1.2.2⟩, k _ _ _ _ _ x1 s1 True.intro m1.2 itr_rng⟩
      | _ => exact m1.elim
    | _ => exact m1.elim
/-- enumerate of a list, zip of two lists -/
def enumD : List D → Nat → List D
  | [], _ => []
  | d :: r, i => .tup [.int i, d] :: enumD r (i + 1)
theorem enumD_get : ∀ {ds : List D} {n i : Nat} {d : D}, (enumD ds n)[i]? = some d → ∃ y, ds[i]? = some y ∧ d = .tup [.int (n + i : Nat), y]
  | [], _, _, _, h => by cases h
  | y :: r, n, 0, d, h => ⟨y, rfl, by simp [enumD] at h; rw [← h]; simp⟩
  | y :: r, n, i + 1, d, h => by
    obtain ⟨y', h1, h2⟩ := enumD_get (ds := r) (n := n + 1) (i := i) (by simpa [enumD] using h)
    exact ⟨y', by simpa using h1, by rw [h2]; congr 3; omega⟩
theorem enumD_length : ∀ {ds : List D} {n : Nat}, (enumD ds n).length = ds.length
  | [], _ => rfl
  | _ :: r, n => by simp [enumD, enumD_length (ds := r)]
/-- the list's place, its items, how it is held -/
def nLstAt : D → Sto → (List D → Keep → Prop) → Prop := fun x S Q => match x with
  | .rol ds => Q ds fun _ => True
  | .ref p => (match S p with
    | some (.lst ds) => Q ds fun S' => S' p = some (.lst ds)
    | _ => False)
  | _ => False
/-- a list, read at any time of the walk -/
structure LstR (K : PySem.W.Frag) (H1 : Hp) (p : Addr) (ds : List D) (kp : Keep) : Prop where
  rd : ∀ H S, HExt H1 H → SR K S H → kp S → ∃ vs, SqL K H p vs ∧ VRs K H ds vs
theorem lstAt_ok {K : PySem.W.Frag} {x : D} {S : Sto} {H : Hp} {v : V} {Q : List D → Keep → Prop} (s : SR K S H) (r : VR K H x v) (m : nLstAt x S Q) : ∃ p ds kp, v = .ref p ∧ Q ds kp ∧ kp S ∧ LstR K H p ds kp := by
  unfold nLstAt at m
  split at m
  · cases r with
    | rol tr rr => exact ⟨_, _, _, rfl, m, True.intro, ⟨fun H' S' x s _ => ⟨_, (tr.ext x).sq, rr.ext x⟩⟩⟩
  · rename_i p
    cases r
    split at m
    · rename_i ds e1
      refine ⟨p, ds, _, rfl, m, e1, ⟨fun H' S' x s' kk => ?_⟩⟩
      obtain ⟨vs, g1, rr⟩ := s'.lst kk
      exact ⟨vs, SqL.of g1, rr⟩
    · exact m.elim
  · exact m.elim
theorem new_pair {K : PySem.W.Frag} {S : Sto} {H : Hp} {T : Addr} {v u : V} {d e : D} (s : SR K S H) (n : H T = none) (rv : VR K H d v) (ru : VR K H e u) : HExt H (upd H T (.tup [v, u])) ∧ SR K S (upd H T (.tup [v, u])) ∧ VR K (upd H T (.tup [v, u])) (.tup [d, e]) (.ref T) :=
  ⟨.new n, s.more n, .tup (.inl upd_same) (.cons (rv.ext (.new n)) (.cons (ru.ext (.new n)) .nil))⟩
def iEnumN (m : NE) : NI := fun e S Q => m e S fun x S1 => nLstAt x S1 fun ds kp => Q (enumD ds 0) kp S1
theorem one_arg {K : PySem.W.Frag} {m : NE} {e : Env} {S : Sto} {P : D → Sto → Prop} (h : m e S P) : mCons m mNil e S fun ds S1 => ∃ x, ds = [x] ∧ P x S1 := by
  show m e S _
  have : (fun x S1 => ∃ x_1, [x] = [x_1] ∧ P x_1 S1) = P := by
    funext x S1
    exact propext ⟨fun ⟨y, e, q⟩ => by cases e; exact q, fun q => ⟨x, rfl, q⟩⟩
  exact (congrArg (m e S) this).mpr h
theorem two_args {K : PySem.W.Frag} {m m' : NE} {e : Env} {S : Sto} {P : D → D → Sto → Prop} (h : m e S fun x S1 => m' e S1 fun y S2 => P x y S2) : mCons m (mCons m' mNil) e S fun ds S1 => ∃ x y, ds = [x, y] ∧ P x y S1 := by
  show m e S _
  have : (fun x S1 => m' e S1 fun y S2 => ∃ x_1 y_1, [x, y] = [x_1, y_1] ∧ P x_1 y_1 S2) = fun x S1 => m' e S1 fun y S2 => P x y S2 := by
    funext x S1
    congr 1
    funext y S2
    exact propext ⟨fun ⟨x', y', e, q⟩ => by cases e; exact q, fun q => ⟨x, y, rfl, q⟩⟩
  exact (congrArg (m e S) this).mpr h
theorem ji_enum {p rpos tpos : Pos} {elts : List Expr} {kk : Nat} (hm : X.mg "enumerate" = none) (ha : JE X H0 a ma) (hgl : Gl X "enumerate" := by rfl) (hs : starEach [a] X.env = [(false, eval a X.env)] := by rfl) (hs1 : starEach [a] X.env = (false, eval a X.env) :: starEach [] X.env := by rfl) :
    JI X H0 (.Tuple elts kk tpos) (.Call (.Name "enumerate" p) [a] [] rpos) (iEnumN ma) := by
  refine (pi_enum hgl hm (ja_cons ha ja_nil hs1) hs).imq fun σ H R ⟨e, S, Q', A, m, k⟩ => ?_
  refine ⟨e, S, _, A, one_arg (K := X.K) m, fun ds S1 vs H1 x1 s1 r ⟨x, ed, m1⟩ => ?_⟩
  subst ed
  obtain ⟨v, rfl, rv⟩ := vrs1 r
  obtain ⟨p, ds, kp, rfl, q, kk, L⟩ := lstAt_ok s1 rv m1
  obtain ⟨vs, h1, _⟩ := L.rd H1 S1 (.refl _) s1 kk
  refine ⟨p, vs, rfl, h1, k _ _ _ _ _ x1 s1 kk q ⟨fun H S x s kk => ?_, fun i H S hi x s kk => ?_, fun i H S y H' d hd x s kk yl => ?_⟩⟩
  · obtain ⟨vs, h1, h2⟩ := L.rd H S x s kk
    exact ⟨vs, h1, by rw [enumD_length, h2.length]; exact Nat.le_refl _⟩
  · obtain ⟨vs, h1, h2⟩ := L.rd H S x s kk
    rw [enumD_length] at hi
    obtain ⟨v, hv, _⟩ := h2.get (List.getElem?_eq_getElem hi)
    exact ⟨vs, v, h1, hv⟩
  · obtain ⟨vs, h1, h2⟩ := L.rd H S x s kk
    obtain ⟨T, u, rfl, nT, rfl, yl⟩ := yl
    obtain ⟨z, hz, rfl⟩ := enumD_get hd
    obtain ⟨v, hv, rv⟩ := h2.get hz
    have := yl vs h1
    rw [hv] at this
    cases this
    have := new_pair (d := .int ((0 + i : Nat) : Int)) s nT (.int _) rv
    rw [Nat.zero_add] at this ⊢
    exact this
def zipD : List D → List D → List D
  | x :: xs, y :: ys => .tup [x, y] :: zipD xs ys
  | _, _ => []
theorem zipD_get : ∀ {xs ys : List D} {i : Nat} {d : D}, (zipD xs ys)[i]? = some d → ∃ x y, xs[i]? = some x ∧ ys[i]? = some y ∧ d = .tup [x, y]
  | [], _, _, _, h => by simp [zipD] at h
  | _ :: _, [], _, _, h => by simp [zipD] at h
  | x :: xs, y :: ys, 0, d, h => ⟨x, y, rfl, rfl, by simp [zipD] at h; exact h.symm⟩
  | x :: xs, y :: ys, i + 1, d, h => by
    obtain ⟨x', y', h1, h2, h3⟩ := zipD_get (xs := xs) (ys := ys) (i := i) (by simpa [zipD] using h)
    exact ⟨x', y', by simpa using h1, by simpa using h2, h3⟩
theorem zipD_length : ∀ {xs ys : List D}, (zipD xs ys).length = min xs.length ys.length
  | [], ys => by simp [zipD]
  | _ :: _, [] => by simp [zipD]
  | x :: xs, y :: ys => by simp [zipD, zipD_length (xs := xs) (ys := ys)]
def iZipN (m m' : NE) : NI := fun e S Q => m e S fun x S1 => m' e S1 fun y S2 => nLstAt x S2 fun ds kp => nLstAt y S2 fun es kp' => Q (zipD ds es) (fun S' => kp S' ∧ kp' S') S2
theorem ji_zip {p rpos tpos : Pos} {elts : List Expr} {kk : Nat} (hm : X.mg "zip" = none) (ha : JE X H0 a ma) (hb : JE X H0 b mb) (hgl : Gl X "zip" := by rfl) (hs : starEach [a, b] X.env = (false, eval a X.env) :: starEach [b] X.env := by rfl) (hpl : (backTo rpos (starEach [b] X.env)).any (·.1) = false := by rfl) (hsb : starEach [b] X.env = (false, eval b X.env) :: starEach [] X.env := by rfl) :
    JI X H0 (.Tuple elts kk tpos) (.Call (.Name "zip" p) [a, b] [] rpos) (iZipN ma mb) := by
  refine (pi_zip hgl hm (ja_cons ha (ja_cons hb ja_nil hsb) hs) hs hpl).imq fun σ H R ⟨e, S, Q', A, m, k⟩ => ?_
  refine ⟨e, S, _, A, two_args (K := X.K) m, fun ds S1 vs H1 x1 s1 r ⟨x, y, ed, m1⟩ => ?_⟩
  subst ed
  obtain ⟨v, u, rfl, rv, ru⟩ := vrs2 r
  obtain ⟨p, ds, kp, rfl, q, kk, L⟩ := lstAt_ok s1 rv m1
  obtain ⟨p', es, kp', rfl, q', kk', L'⟩ := lstAt_ok s1 ru q
  obtain ⟨vs, h1, _⟩ := L.rd H1 S1 (.refl _) s1 kk
  obtain ⟨us, h2, _⟩ := L'.rd H1 S1 (.refl _) s1 kk'
  refine ⟨p, p', vs, us, rfl, h1, h2, k _ _ _ _ _ x1 s1 ⟨kk, kk'⟩ q' ⟨fun H S x s kk => ?_, fun i H S hi x s kk => ?_, fun i H S y H' d hd x s kk yl => ?_⟩⟩
  · obtain ⟨vs, h1, r1⟩ := L.rd H S x s kk.1
    obtain ⟨us, h2, r2⟩ := L'.rd H S x s kk.2
    refine ⟨vs, us, h1, h2, ?_⟩
    rw [zipD_length, r1.length, r2.length]
    omega
  · obtain ⟨vs, h1, r1⟩ := L.rd H S x s kk.1
    obtain ⟨us, h2, r2⟩ := L'.rd H S x s kk.2
    rw [zipD_length] at hi
    obtain ⟨v, hv, _⟩ := r1.get (List.getElem?_eq_getElem (show i < ds.length by omega))
    obtain ⟨u, hu, _⟩ := r2.get (List.getElem?_eq_getElem (show i < es.length by omega))
    exact ⟨vs, us, v, u, h1, h2, hv, hu⟩
  · obtain ⟨vs, h1, r1⟩ := L.rd H S x s kk.1
    obtain ⟨us, h2, r2⟩ := L'.rd H S x s kk.2
    obtain ⟨T, a', b', rfl, nT, rfl, y1, y2⟩ := yl
    obtain ⟨x', y', hx, hy, rfl⟩ := zipD_get hd
    obtain ⟨v, hv, rv⟩ := r1.get hx
    obtain ⟨u, hu, ru⟩ := r2.get hy
    have e1 := y1 vs h1
    have e2 := y2 us h2
    rw [hv] at e1; rw [hu] at e2
    cases e1; cases e2
    exact new_pair s nT rv ru

/-! ### for, over anything -/
def sForI (mi : NI) (g : NG) (b : NS) : NS := fun Z e S => mi e S fun ds kp S1 => loopL g b Z kp ds e S1
theorem js_forI {tg it : Expr} {g : NG} {mi : NI} {body : List Stmt} {t : NS} (cx : NX X H0 w) (hl : JI X H0 tg it mi) (hg : JG X H0 tg g) (hb : JSs X H0 body t) (hs : ∀ x, foldedSetIterable it X.env x = pure x := by intro _; rfl) : JS X H0 (.For tg it body [] pos) (sForI mi g t) := by
  refine (ps_for cx.po cx.calm hl hg hb hs).imq fun D σ H ⟨e, S, D', A, m, k⟩ => ?_
  refine ⟨e, S, _, A, m, fun ds kp S1 H1 J x1 s1 kk q I => ?_⟩
  exact loop_ok (k.ext x1) I.stop I.go (fun i H2 S2 y H3 d hd x s kk yl => let ⟨h1, h2, h3⟩ := I.yld i H2 S2 y H3 d hd x s kk yl; ⟨S2, h1, h2, fun _ _ h => h, rfl, h3⟩) (A.next x1 s1) kk q

/-! ### list comprehensions -/
def nwipe (e : Env) : List Nat → Env
  | [] => e
  | v :: vs => (nwipe e vs).set v none
theorem ER.wipe {K : PySem.W.Frag} {H : Hp} {e : Env} {σ : L2.St} (h : ER K H e σ) : ∀ vs : List Nat, ER K H (nwipe e vs) (L2.wipe σ vs)
  | [] => h
  | v :: vs => (ER.wipe h vs).unset v
/-- a target that touches the names vs alone -/
def lGv (K : PySem.W.Frag) (H0 : Hp) (vs : List Nat) (m : NG) : TG := fun v σ H Q => ∃ d e S Q', VR K H d v ∧ At K H0 H σ e S ∧ m d e S Q' ∧ ∀ e' S' σ' H', HExt H H' → At K H0 H' σ' e' S' → L2.wipe σ' vs = L2.wipe σ vs → Q' e' S' → Q σ' H'
def lGvs (K : PySem.W.Frag) (H0 : Hp) (vs : List Nat) (m : NGs) : TGs := fun us σ H Q => ∃ ds e S Q', VRs K H ds us ∧ At K H0 H σ e S ∧ m ds e S Q' ∧ ∀ e' S' σ' H', HExt H H' → At K H0 H' σ' e' S' → L2.wipe σ' vs = L2.wipe σ vs → Q' e' S' → Q σ' H'
abbrev JGv (X : Cx) (H0 : Hp) (vs : List Nat) (e : Expr) (m : NG) : Prop := PG X e (lGv X.K H0 vs m)
abbrev JGvs (X : Cx) (H0 : Hp) (vs : List Nat) (es : List Expr) (m : NGs) : Prop := PGs X es (lGvs X.K H0 vs m)
theorem wipe_set {σ : L2.St} {i : Nat} {x : Option V} : ∀ {vs : List Nat}, i ∈ vs → L2.wipe (σ.set i x) vs = L2.wipe σ vs
  | [], h => by cases h
  | v :: vs, h => by
    unfold L2.wipe
    by_cases hv : i ∈ vs
    · rw [wipe_set hv]
    · have e : i = v := by
        rcases List.mem_cons.mp h with h | h
        · exact h
        · exact absurd h hv
      subst e
      have : ∀ (us : List Nat), i ∉ us → L2.wipe (σ.set i x) us = (L2.wipe σ us).set i x := by
        intro us
        induction us with
        | nil => intro _; rfl
        | cons u us ih =>
          intro hu
          simp only [List.mem_cons, not_or] at hu
          unfold L2.wipe
          rw [ih hu.2, List.set_comm _ _ (fun z => hu.1 z)]
      rw [this vs hv, List.set_set]
theorem wipe_wipe' {σ : L2.St} {vs : List Nat} : ∀ {us : List Nat}, (∀ u ∈ us, u ∈ vs) → L2.wipe (L2.wipe σ us) vs = L2.wipe σ vs
  | [], _ => rfl
  | u :: us, h => by
    show L2.wipe ((L2.wipe σ us).set u none) vs = _
    rw [wipe_set (h u (by simp)), wipe_wipe' fun z hz => h z (by simp [hz])]
theorem wipe_wipe {σ : L2.St} {vs : List Nat} : L2.wipe (L2.wipe σ vs) vs = L2.wipe σ vs := wipe_wipe' fun _ h => h
theorem jgv_name {vs : List Nat} {i : Nat} {x : Str} (hN : X.N.Nodup) (hv : i ∈ vs) (hi : X.N[i]? = some x := by rfl) (hx : Loc X.env.scope x := by first | exact Or.inl rfl | exact Or.inr rfl) (hf : X.fn x = true ∨ X.env.scope.names.lookup x = some .local := by first | exact .inl rfl | exact .inr rfl) : JGv X H0 vs (.Name x pos) (gNm i) :=
  (pg_name hN hi hx hf).imq fun v σ H Q ⟨d, e, S, Q', r, A, m, k⟩ => k _ _ _ _ (.refl H) (A.set r i) (wipe_set hv) m
theorem jgvs_nil {vs : List Nat} : JGvs X H0 vs [] gsNil := pgs_nil.imq fun v σ H Q ⟨ds, e, S, Q', r, A, m, k⟩ => by
  cases r with
  | nil => exact ⟨rfl, k _ _ _ _ (.refl H) A rfl m⟩
  | cons _ _ => exact m.elim
theorem jgvs_cons {vs : List Nat} {t : NG} {u : NGs} (h1 : JGv X H0 vs a t) (h2 : JGvs X H0 vs es u) (hs : (assignEach (a :: es) X.env).map (·.2) = assign a X.env :: (assignEach es X.env).map (·.2) := by rfl) : JGvs X H0 vs (a :: es) (gsCons t u) :=
  (pgs_cons h1 h2 hs).imq fun us σ H Q ⟨ds, e, S, Q', r, A, m, k⟩ => by
    cases r with
    | nil => exact m.elim
    | cons r rr => exact ⟨_, _, rfl, _, e, S, _, r, A, m, fun e1 S1 σ1 H1 x A1 w1 m1 => ⟨_, e1, S1, Q', rr.ext x, A1, m1, fun e2 S2 σ2 H2 x2 A2 w2 q => k e2 S2 σ2 H2 (x.trans x2) A2 (w2.trans w1) q⟩⟩
theorem jgv_tup {vs : List Nat} {k n : Nat} {t : NGs} (cx : NX X H0 w) (h : JGvs X H0 vs es t) (hn : (assignEach es X.env).length = n := by rfl) (hst : (assignEach es X.env).findIdx? (·.1) = none := by rfl) : JGv X H0 vs (.Tuple es k pos) (gTp n t) :=
  (pg_tup cx.calm h hn hst).imq fun v σ H Q ⟨d, e, S, Q', r, A, m, k⟩ => by
    unfold gTp at m
    split at m
    · rename_i ds
      cases r with
      | tup tr rr => exact ⟨_, _, rfl, tr.sq, by rw [← rr.length]; exact m.1, ds, e, S, Q', rr, A, m.2, k⟩
    · exact m.elim
abbrev JTs (X : Cx) (H0 : Hp) (es : List Expr) (m : NT) : Prop := PTs X es (lT X.K H0 m)
theorem _root_.L2.PTs.imq {X : Cx} {e : List Expr} {t t' : TT} (h : PTs X e t) (i : ∀ σ H Q, t' σ H Q → t σ H Q) : PTs X e t' := ⟨fun pins s σ H Q I q => h.run pins s σ H Q I (i _ _ _ q)⟩
def mYes : NT := fun _ S Q => Q true S
theorem jts_nil : JTs X H0 [] mYes := pts_nil.imq fun σ H Q ⟨e, S, Q', A, m, k⟩ => k true S H (.refl H) A.s m
theorem jts_one {t : NT} (h : JT X H0 a t) : JTs X H0 [a] t := pts_one h
/-- the list grows at p -/
def lcL (g : NG) (tt : NT) (te : NE) (kp : Keep) (p : Addr) (e : Env) : List D → Sto → (Sto → Prop) → Prop
  | [], S, Q => Q S
  | x :: xs, S, Q => g x e S fun e2 S2 => tt e2 S2 fun b S3 => match b with
    | true => te e2 S3 fun y S4 => (match S4 p with
      | some (.lst acc) => acc.length < sizeLine ∧ kp (put S4 p (.lst (acc ++ [y]))) ∧ lcL g tt te kp p e xs (put S4 p (.lst (acc ++ [y]))) Q
      | _ => False)
    | false => kp S3 ∧ lcL g tt te kp p e xs S3 Q
def mLc (mi : NI) (g : NG) (tt : NT) (te : NE) (vs : List Nat) : NE := fun e S Q => mi e S fun ds kp S1 => ∀ p, S1 p = none → kp (put S1 p (.lst [])) ∧ lcL g tt te kp p (nwipe e vs) ds (put S1 p (.lst [])) fun S2 => Q (.ref p) S2
theorem lc_ok {K : PySem.W.Frag} {mi : NI} {g : NG} {tt : NT} {te : NE} {vs : List Nat} {σ : L2.St} {H : Hp} {Q : VK} (h : lE K H0 (mLc mi g tt te vs) σ H Q) : tLc (lI K H0 mi) (lGv K H0 vs g) (lT K H0 tt) (lE K H0 te) vs σ H Q := by
  obtain ⟨e, S, Q', A, m, k⟩ := h
  refine ⟨e, S, _, A, m, fun ds kp S1 H1 J x1 s1 kk q I p np => ?_⟩
  have A1 := A.next x1 s1
  have xp : HExt H1 (upd H1 p (.lst [])) := .new np
  have sp : SR K (put S1 p (.lst [])) (upd H1 p (.lst [])) := s1.put (o := .lst []) xp ⟨[], upd_same, .nil⟩
  obtain ⟨k0, q⟩ := q p (s1.fresh np)
  refine ⟨fun i n H' => n = ds.length - i ∧ i ≤ ds.length ∧ HExt H1 H' ∧ ∃ S', SR K S' H' ∧ kp S' ∧ lcL g tt te kp p (nwipe e vs) (ds.drop i) S' fun S2 => Q' (.ref p) S2, ⟨_, rfl, Nat.zero_le _, xp, _, sp, k0, by simpa using q⟩, ?_⟩
  rintro i n H' ⟨rfl, hi, xe, S', s', kk', q⟩
  by_cases hlt : i < ds.length
  · obtain ⟨d, hd⟩ : ∃ d, ds[i]? = some d := ⟨ds[i], by simp [hlt]⟩
    have hdrop : ds.drop i = d :: ds.drop (i + 1) := by
      have := List.drop_eq_getElem_cons hlt
      rw [this]
      have : ds[i] = d := by
        have := List.getElem?_eq_getElem hlt
        rw [hd] at this
        exact (Option.some.inj this).symm
      rw [this]
    rw [hdrop] at q
    refine .inr ⟨I.go i H' S' hlt xe s' kk', fun H2 => i + 1 ≤ ds.length ∧ HExt H1 H2 ∧ ∃ S2, SR K S2 H2 ∧ kp S2 ∧ lcL g tt te kp p (nwipe e vs) (ds.drop (i + 1)) S2 fun S2 => Q' (.ref p) S2, fun H2 ⟨p1, p2, p3⟩ => ⟨ds.length - (i + 1), by omega, rfl, p1, p2, p3⟩, fun x H2 y => ?_⟩
    obtain ⟨x2, s2, rd⟩ := I.yld i H' S' x H2 d hd xe s' kk' y
    have xx2 := xe.trans x2
    have Aw : At K H0 H2 (L2.wipe σ vs) (nwipe e vs) S' := ⟨(A1.x.trans xe).trans x2, ((A1.e.ext xe).ext x2).wipe vs, s2⟩
    refine ⟨d, _, S', _, rd, Aw, q, fun e3 S3 σ3 H3 x3 A3 w3 q3 => ⟨?_, e3, S3, _, A3, q3, fun b S4 H4 x4 s4 q4 => ?_⟩⟩
    · rw [w3, wipe_wipe]
    · have xx4 := (xx2.trans x3).trans x4
      cases b with
      | false => exact iteF ⟨hlt, xx4, S4, s4, q4.1, q4.2⟩
      | true =>
        refine iteT ⟨e3, S4, _, A3.next x4 s4, q4, fun y S5 v H5 x5 s5 ry q5 => ?_⟩
        split at q5
        · rename_i acc e5
          obtain ⟨ws, g5, r5⟩ := s5.lst e5
          have x6 : HExt H5 (upd H5 p (.lst (ws ++ [v]))) := .upd g5 True.intro
          refine ⟨ws, g5, by rw [← r5.length]; exact q5.1, hlt, (xx4.trans x5).trans x6, _, s5.put (o := .lst (acc ++ [y])) x6 ⟨_, upd_same, (r5.append (.cons ry .nil)).ext x6⟩, q5.2.1, q5.2.2⟩
        · exact q5.elim
  · have e1 : i = ds.length := by omega
    subst e1
    rw [List.drop_length] at q
    exact .inl ⟨I.stop H' S' xe s' kk', k _ _ _ _ (x1.trans xe) s' (.ref p) q⟩
/-- inside a comprehension nothing is raised -/
def nw0 : NW := fun _ _ _ _ => False
theorem nx_blk {s : Shared} {H : Hp} {scope : Scope} {ce : PySem.Env} {fp : List Addr} (cx : NX X H0 w) : NX (X.blk s H scope ce fp) H0 nw0 :=
  ⟨fun u s' ⟨a, B, sI, pins, σ, H, cls, d, e, I, nb, up, sky, na, os, ag, c, e', S, _, _, h⟩ => h.elim, PassesOwn.never, cx.calm, cx.tb⟩
theorem je_lc {elt tg iter : Expr} {ifs : List Expr} {scope : Scope} {own : List (Str × Nat)} {mi : NI} {g : NG} {tt : NT} {te : NE} (cx : NX X H0 w) (hN : X.N.Nodup) (hi : JI X H0 tg iter mi) (ok : blkC X.N X.env.scope scope own = true)
    (hg : ∀ (s : Shared) (H : Hp) (C : Addr) (cl : List (Str × Addr)) (fp : List Addr), NX (X.blk s H scope (compEnvC scope cl C X.env) fp) H0 nw0 → JGv (X.blk s H scope (compEnvC scope cl C X.env) fp) H0 (own.map (·.2)) tg g)
    (ht : ∀ (s : Shared) (H : Hp) (C : Addr) (cl : List (Str × Addr)) (fp : List Addr), NX (X.blk s H scope (compEnvC scope cl C X.env) fp) H0 nw0 → JTs (X.blk s H scope (compEnvC scope cl C X.env) fp) H0 ifs tt)
    (he : ∀ (s : Shared) (H : Hp) (C : Addr) (cl : List (Str × Addr)) (fp : List Addr), NX (X.blk s H scope (compEnvC scope cl C X.env) fp) H0 nw0 → JE (X.blk s H scope (compEnvC scope cl C X.env) fp) H0 elt te)
    (hs : ∀ x, foldedSetIterable iter X.env x = pure x := by intro _; rfl) : JE X H0 (.ListComp elt [⟨tg, iter, ifs, 0⟩] scope pos) (mLc mi g tt te (own.map (·.2))) :=
  (pe_lc cx.calm hN hi (blkOk_by ok) (fun s H C cl fp => hg s H C cl fp (nx_blk cx)) (fun s H C cl fp => ht s H C cl fp (nx_blk cx)) (fun s H C cl fp => he s H C cl fp (nx_blk cx)) hs).imq fun _ _ _ h => lc_ok h
theorem js_setLc {i : Nat} {y : Str} {py : Pos} {elt tg iter : Expr} {ifs : List Expr} {scope : Scope} {own : List (Str × Nat)} {spos : Pos} {mi : NI} {g : NG} {tt : NT} {te : NE} (cx : NX X H0 w) (hN : X.N.Nodup) (hi : JI X H0 tg iter mi) (ok : blkC X.N X.env.scope scope own = true)
    (hg : ∀ (s : Shared) (H : Hp) (C : Addr) (cl : List (Str × Addr)) (fp : List Addr), NX (X.blk s H scope (compEnvC scope cl C X.env) fp) H0 nw0 → JGv (X.blk s H scope (compEnvC scope cl C X.env) fp) H0 (own.map (·.2)) tg g)
    (ht : ∀ (s : Shared) (H : Hp) (C : Addr) (cl : List (Str × Addr)) (fp : List Addr), NX (X.blk s H scope (compEnvC scope cl C X.env) fp) H0 nw0 → JTs (X.blk s H scope (compEnvC scope cl C X.env) fp) H0 ifs tt)
    (he : ∀ (s : Shared) (H : Hp) (C : Addr) (cl : List (Str × Addr)) (fp : List Addr), NX (X.blk s H scope (compEnvC scope cl C X.env) fp) H0 nw0 → JE (X.blk s H scope (compEnvC scope cl C X.env) fp) H0 elt te)
    (hsw : swapsWith (.ListComp elt [⟨tg, iter, ifs, 0⟩] scope pos) (some (.Name y py)) spos.line X.env = pure true := by rfl) (hy : X.N[i]? = some y := by rfl) (hyl : X.env.scope.names.lookup y = some .local := by rfl)
    (hs : ∀ x, foldedSetIterable iter X.env x = pure x := by intro _; rfl) : JS X H0 (.Assign [.Name y py] (.ListComp elt [⟨tg, iter, ifs, 0⟩] scope pos) spos) (sSet i (mLc mi g tt te (own.map (·.2)))) :=
  (ps_setLc cx.calm hN hy hyl hsw hi (blkOk_by ok) (fun s H C cl fp => hg s H C cl fp (nx_blk cx)) (fun s H C cl fp => ht s H C cl fp (nx_blk cx)) (fun s H C cl fp => he s H C cl fp (nx_blk cx)) hs).imq fun D σ H ⟨e, S, D', A, m, k⟩ =>
    lc_ok ⟨e, S, _, A, m, fun d S1 v H1 x s r q => k.nx _ _ _ _ x ((A.next x s).set r i) q⟩
end

/-! ### calls over lists -/
section
variable {X : Cx}
def intsOf : List D → Option (List Int)
  | [] => some []
  | .int i :: r => (intsOf r).map (i :: ·)
  | _ => none
theorem intsOf_eq : ∀ {ds : List D} {ns : List Int}, intsOf ds = some ns → ds = ns.map D.int
  | [], ns, h => by simp only [intsOf, Option.some.injEq] at h; subst h; rfl
  | .int i :: r, ns, h => by
    simp only [intsOf, Option.map_eq_some_iff] at h
    obtain ⟨ms, h1, rfl⟩ := h
    rw [intsOf_eq h1]; rfl
  | .non :: _, _, h => by cases h
  | .bl _ :: _, _, h => by cases h
  | .str _ :: _, _, h => by cases h
  | .ref _ :: _, _, h => by cases h
  | .ty _ :: _, _, h => by cases h
  | .cls _ :: _, _, h => by cases h
  | .tup _ :: _, _, h => by cases h
  | .rol _ :: _, _, h => by cases h
theorem intsOf_map : ∀ {ns : List Int}, intsOf (ns.map D.int) = some ns
  | [] => rfl
  | n :: r => by simp only [List.map_cons, intsOf, intsOf_map (ns := r), Option.map_some]
def blsOf : List D → Option (List Bool)
  | [] => some []
  | .bl i :: r => (blsOf r).map (i :: ·)
  | _ => none
theorem blsOf_eq : ∀ {ds : List D} {ns : List Bool}, blsOf ds = some ns → ds = ns.map D.bl
  | [], ns, h => by simp only [blsOf, Option.some.injEq] at h; subst h; rfl
  | .bl i :: r, ns, h => by
    simp only [blsOf, Option.map_eq_some_iff] at h
    obtain ⟨ms, h1, rfl⟩ := h
    rw [blsOf_eq h1]; rfl
  | .non :: _, _, h => by cases h
  | .int _ :: _, _, h => by cases h
  | .str _ :: _, _, h => by cases h
  | .ref _ :: _, _, h => by cases h
  | .ty _ :: _, _, h => by cases h
  | .cls _ :: _, _, h => by cases h
  | .tup _ :: _, _, h => by cases h
  | .rol _ :: _, _, h => by cases h
theorem blsOf_map : ∀ {ns : List Bool}, blsOf (ns.map D.bl) = some ns
  | [] => rfl
  | n :: r => by simp only [List.map_cons, blsOf, blsOf_map (ns := r), Option.map_some]
theorem vrs_ints {K : PySem.W.Frag} {H : Hp} : ∀ {ns : List Int} {vs : List V}, VRs K H (ns.map D.int) vs → vs = ns.map V.int
  | [], _, h => by cases h; rfl
  | _ :: r, _, h => by
    cases h with
    | cons a b => cases a; rw [vrs_ints b]; rfl
theorem vrs_bls {K : PySem.W.Frag} {H : Hp} : ∀ {ns : List Bool} {vs : List V}, VRs K H (ns.map D.bl) vs → vs = ns.map V.bl
  | [], _, h => by cases h; rfl
  | _ :: r, _, h => by
    cases h with
    | cons a b => cases a; rw [vrs_bls b]; rfl
/-- a list's items -/
def lstOf (S : Sto) : D → Option (List D)
  | .rol ds => some ds
  | .ref a => (match S a with
    | some (.lst ds) => some ds
    | _ => none)
  | _ => none
theorem lstOf_ok {K : PySem.W.Frag} {S : Sto} {H : Hp} {d : D} {v : V} {ds : List D} (s : SR K S H) (r : VR K H d v) (e : lstOf S d = some ds) : ∃ p vs, v = .ref p ∧ SqL K H p vs ∧ VRs K H ds vs := by
  unfold lstOf at e
  split at e
  · cases e
    cases r with
    | rol tr rr => exact ⟨_, _, rfl, tr.sq, rr⟩
  · cases r
    split at e
    · rename_i e1
      cases e
      obtain ⟨vs, h1, h2⟩ := s.lst e1
      exact ⟨_, vs, rfl, SqL.of h1, h2⟩
    · cases e
  · cases e
def nSum : NL := fun xs S Q => match xs with
  | [d] => (match lstOf S d with
    | some ds => (match intsOf ds with
      | some ns => Q (.int ns.sum) S
      | none => False)
    | none => False)
  | _ => False
theorem callN_sum (hc : X.calm = true) : CallN X (.builtin "sum") nSum := ⟨_, cr_sum hc, fun xs S Q vs H Q' s r n k => by
  unfold nSum at n
  split at n
  · rename_i d
    obtain ⟨v, rfl, rv⟩ := vrs1 r
    split at n
    · rename_i ds e1
      obtain ⟨p, ws, rfl, h1, h2⟩ := lstOf_ok s rv e1
      split at n
      · rename_i ns e2
        have := intsOf_eq e2
        subst this
        have := vrs_ints h2
        subst this
        exact ⟨p, ns, rfl, h1, k _ _ _ _ (.refl H) s (.int _) n⟩
      · exact n.elim
    · exact n.elim
  · exact n.elim⟩
def nAll : NL := fun xs S Q => match xs with
  | [d] => (match lstOf S d with
    | some ds => (match blsOf ds with
      | some ns => Q (.bl (ns.all id)) S
      | none => False)
    | none => False)
  | _ => False
theorem callN_all (hc : X.calm = true) : CallN X (.builtin "all") nAll := ⟨_, cr_all hc, fun xs S Q vs H Q' s r n k => by
  unfold nAll at n
  split at n
  · rename_i d
    obtain ⟨v, rfl, rv⟩ := vrs1 r
    split at n
    · rename_i ds e1
      obtain ⟨p, ws, rfl, h1, h2⟩ := lstOf_ok s rv e1
      split at n
      · rename_i ns e2
        have := blsOf_eq e2
        subst this
        have := vrs_bls h2
        subst this
        exact ⟨p, ns, rfl, h1, k _ _ _ _ (.refl H) s (.bl _) n⟩
      · exact n.elim
    · exact n.elim
  · exact n.elim⟩
/-- max, min of a list of numbers -/
def nMaxL : NL := fun xs S Q => match xs with
  | [d] => (match lstOf S d with
    | some ds => (match intsOf ds with
      | some ns => 0 < ns.length ∧ ∀ m, m ∈ ns → (∀ y, y ∈ ns → y ≤ m) → Q (.int m) S
      | none => False)
    | none => False)
  | _ => False
theorem callN_maxL (hc : X.calm = true) : CallN X (.builtin "max") nMaxL := ⟨_, cr_max hc, fun xs S Q vs H Q' s r n k => by
  unfold nMaxL at n
  split at n
  · rename_i d
    obtain ⟨v, rfl, rv⟩ := vrs1 r
    split at n
    · rename_i ds e1
      obtain ⟨p, ws, rfl, h1, h2⟩ := lstOf_ok s rv e1
      split at n
      · rename_i ns e2
        have := intsOf_eq e2
        subst this
        have := vrs_ints h2
        subst this
        exact ⟨p, ns, rfl, h1, n.1, fun m h3 h4 => k _ _ _ _ (.refl H) s (.int _) (n.2 m h3 h4)⟩
      · exact n.elim
    · exact n.elim
  · exact n.elim⟩

/-! ### isinstance of the program's own instances -/
def isC (c d : Str) : Bool := decide (c = d) || (decide (d = "Maker") && (decide (c = "Product") || decide (c = "Stretch") || decide (c = "Sum")))
structure InsC (K : PySem.W.Frag) (C : Addr) : Prop where
  ha : PySem.W.findIn K (.ref C) "__class__" = some (some (.builtin "object.__class__"))
  hn : PySem.W.specialIn K (.builtin "object.__class__") "__get__" = some (some (.builtin "getset_descriptor.__get__"))
  ht : PySem.W.takesIn K (.builtin "object.__class__") = some true
  hm : PySem.W.mroIn K C (.type "object") = some true
structure KI (IC : List Str) (K : PySem.W.Frag) : Prop where
  isa : ∀ c ∈ IC, ∀ d ∈ IC, PySem.W.kitOne K (.ref (He.ga K c)) (.ref (He.ga K d)) = some (isC c d)
  ins : ∀ c ∈ IC, InsC K (He.ga K c)
def nIsC (IC : List Str) : NL := fun xs S Q => match xs with
  | [.ref a, .cls d] => (match S a with
    | some (.ins c _) => IC.contains c = true ∧ IC.contains d = true ∧ Q (.bl (isC c d)) S
    | _ => False)
  | _ => False
theorem callN_isC {IC : List Str} (F : KI IC X.K) : CallN X (.builtin "isinstance") (nIsC IC) := ⟨_, call_isi, fun xs S Q vs H Q' s r n k => by
  unfold nIsC at n
  split at n
  · rename_i a d
    obtain ⟨v, w, rfl, rv, rw⟩ := vrs2 r
    cases rv
    cases rw
    split at n
    · rename_i c fs e1
      obtain ⟨n1, n2, n3⟩ := n
      have h1 := List.contains_iff_mem.mp n1
      obtain ⟨dx, ws, g1, _, co⟩ := s.ins e1
      obtain ⟨ha, hn, ht, hm⟩ := F.ins c h1
      exact ⟨_, _, _, _, _, rfl, .own _, .base (.ins g1 co.cl ha hn ht hm), F.isa c h1 d (List.contains_iff_mem.mp n2), k _ _ _ _ (.refl H) s (.bl _) n3⟩
    · exact n.elim
  · exact n.elim⟩
end
def insB (K : PySem.W.Frag) (D : Addr) : Bool := He.eqO (PySem.W.findIn K (.ref D) "__class__") (some (some (.builtin "object.__class__"))) &&
  (He.eqO (PySem.W.specialIn K (.builtin "object.__class__") "__get__") (some (some (.builtin "getset_descriptor.__get__"))) && (decide (PySem.W.takesIn K (.builtin "object.__class__") = some true) && decide (PySem.W.mroIn K D (.type "object") = some true)))
def kiW (IC : List Str) (K : PySem.W.Frag) : Bool := (IC.all fun c => IC.all fun d => decide (PySem.W.kitOne K (.ref (He.ga K c)) (.ref (He.ga K d)) = some (isC c d))) && IC.all fun c => insB K (He.ga K c)
theorem kiW_ok {IC : List Str} {K : PySem.W.Frag} (h : kiW IC K = true) : KI IC K := by
  obtain ⟨h1, h2⟩ := He.ba h
  refine ⟨fun c hc d hd => of_decide_eq_true (List.all_eq_true.mp (List.all_eq_true.mp h1 c hc) d hd), fun c hc => ?_⟩
  have h := List.all_eq_true.mp h2 c hc
  obtain ⟨h5, h⟩ := He.ba h
  obtain ⟨h6, h⟩ := He.ba h
  obtain ⟨h7, h8⟩ := He.ba h
  exact ⟨He.eqO_ok h5, He.eqO_ok h6, of_decide_eq_true h7, of_decide_eq_true h8⟩
end N

set_option Elab.async false
set_option linter.all false
set_option maxRecDepth 100000
set_option maxHeartbeats 4000000
namespace N
variable [TabList]
open PySem PySem.Spec PyProof.Rows L2 HT
/-! ### (a, b)[::-1] -/
section
variable {prog : Program} {w : World} {A : Around} {E : Value → Shared → Prop} {s : Shared}
theorem sliceApplied_rev2 {sl : Addr} {vl vu vs : Value} {Q : Int × Int × Nat → Shared → Prop} (hs : s.heap.IsSliceOf sl vl vu vs) (pl : IsPart vl none) (pu : IsPart vu none) (ps : IsPart vs (some (-1)))
    (h : Q (1, -1, 2) s) : wpAny (model prog w) A (Builtin.Slice.sliceApplied (.ref sl) (pure ((2 : Nat) : Int))) Q E s := by
  obtain ⟨os, hos, hcs, hds⟩ := id hs
  unfold Builtin.Slice.sliceApplied Builtin.Slice.sliceFields
  refine wpAny_bind (wpAny_bind (wpAny_field hos hds (x := vl) rfl (wpAny_bind (wpAny_field hos hds (x := vu) rfl (wpAny_bind (wpAny_field hos hds (x := vs) rfl (wpAny_pure ?_)))))))
  refine wpAny_bind (slicePart_ ps ?_)
  show wpAny _ _ (if ((-1 : Int) == 0) = true then _ else _) _ _ s
  rw [if_neg (by decide)]
  refine wpAny_bind (slicePart_ pl (wpAny_bind (slicePart_ pu (wpAny_bind (wpAny_pure ?_)))))
  exact wpAny_pure h
theorem getItem_pair_rev {t sl : Addr} {a b vl vu vs : Value} {Q : Value → Shared → Prop} (ht : IsTup s.heap t #[a, b]) (hs : s.heap.IsSliceOf sl vl vu vs) (pl : IsPart vl none) (pu : IsPart vu none) (ps : IsPart vs (some (-1)))
    (h : Q (.ref s.heap.objs.size) { s with heap := s.heap.push { cls := .type "tuple", data := .seq #[b, a] } }) : wpAny (model prog w) A (getItem (.ref t) (.ref sl)) Q E s := by
  have htake : sizeOk (.seq #[b, a]) := by
    show 2 ≤ sizeLine
    decide
  obtain ⟨os, hos, hcs, hds⟩ := id hs
  have hTs : s.TypeIs (.ref sl) "slice" := ⟨os, hos, hcs⟩
  unfold getItem
  try with_reducible refine wpAny_holding ?_
  first | refine wpAny_bind (wpAny_pure ?_) | skip
  refine wpAny_bind (wpAny_sequenceKey ht.typeIs (by decide) ?_)
  refine wpAny_bind (wpAny_callSpecial?_slot (name := Str.ofString "__getitem__") ht.typeIs PyProof.Rows.slot_tuple_getitem
    (wpAny_call_entry PyProof.Rows.slot_tuple_getitem ht.typeIs entry_tuple_getitem ?_ (args_tuple_getitem _ _)))
  show wpAny _ _ (Builtin.Tuple.tupleItemsOf (.ref t) >>= _) _ _ s
  refine wpAny_bind (tupleItemsOf_ ht ?_)
  refine wpAny_bind (wpAny_typeOf hTs ?_)
  rw [if_pos (by decide)]
  refine wpAny_bind (sliceApplied_rev2 hs pl pu ps ?_)
  first
    | exact wpAny_bind (m := Builtin.Tuple.tupleExact _) (wpAny_newObj_type (wpAny_pure ⟨_, rfl, wpAny_pure h⟩) htake)
    | exact wpAny_bind (m := Builtin.Tuple.tupleExact _) (wpAny_newObj_type (wpAny_bind (wpAny_pure (wpAny_pure ⟨_, rfl, wpAny_pure h⟩))) htake)
    | exact wpAny_bind (wpAny_bind (m := Builtin.Tuple.tupleExact _) (wpAny_newObj_type (wpAny_pure (wpAny_pure ⟨_, rfl, wpAny_pure h⟩)) htake))
    | exact wpAny_bind (wpAny_bind (m := Builtin.Tuple.tupleExact _) (wpAny_newObj_type (wpAny_pure ⟨_, rfl, wpAny_pure h⟩) htake))
end
section
variable {X : Cx} {H0 : Hp} {w : NW} {a b c o : Expr} {ma mb mo : NE} {pos : Pos} {es : List Expr} {mr : NA}
def tRevP (K : PySem.W.Frag) (te : TE) : TE := fun σ H Q => te σ H fun v H1 => ∃ a x y, v = .ref a ∧ SqT K H1 a [x, y] ∧ ∀ p, H1 p = none → Q (.ref p) (upd H1 p (.tup [y, x]))
theorem pe_revP {e : Expr} {te : TE} {k : Nat} {p1 p2 p3 pos : Pos} (he : PE X e te) : PE X (.Subscript e (.Slice none none (some (.UnaryOp .USub (.Constant (.int 1) k p1) p2)) p3) pos) (tRevP X.K te) := by
  refine ⟨fun pins s σ H Q I h => ?_⟩
  refine Subscript_ (thn (he.run pins s σ H _ I h) fun v s1 ⟨x, H1, I1, r1, q1⟩ => ?_)
  obtain ⟨a, x1, x2, ex, hx, q⟩ := q1
  subst ex
  cases r1
  have hst : PO X (some (.UnaryOp .USub (.Constant (.int 1) k p1) p2)) (tPart (tUn (rU fun i => .int (-i)) (tC (.int 1)))) := po_some (pe_un un_neg pe_int)
  refine wpAny_Slice (thn (po_none.run pins s1 σ H1 (fun o H2 => o = none ∧ H2 = H1) I1 ⟨rfl, rfl⟩) fun vl s2 ⟨l, H2, I2, pl, el, e2⟩ => ?_)
  subst el e2
  refine thn (po_none.run pins s2 σ H2 (fun o H3 => o = none ∧ H3 = H2) I2 ⟨rfl, rfl⟩) fun vu s3 ⟨u, H3, I3, pu, eu, e3⟩ => ?_
  subst eu e3
  refine thn (hst.run pins s3 σ H3 (fun o H4 => o = some (-1) ∧ H4 = H3) I3 ⟨1, rfl, -1, rfl, rfl, rfl⟩) fun vs s4 ⟨o, H4, I4, ps, eo, e4⟩ => ?_
  subst eo e4
  have I5 : Inv X pins σ H4 { s4 with heap := s4.heap.push { cls := .type "slice", data := .fields #[vl, vu, vs] } } := I4.kept (t' := s4.toks) fun b ob q => Heap.get?_push_of_some _ q
  obtain ⟨its, r, ht, hz⟩ := I5.tuple hx
  cases r with
  | cons ra r =>
    cases r with
    | cons rb r =>
      cases r
      rename_i u1 u2
      show wpAny (model X.prog X.w) X.A (subscriptTail e (.Slice none none (some (.UnaryOp .USub (.Constant (.int 1) k p1) p2)) p3) (.ref a) (.ref s4.heap.objs.size)) (EP X pins σ Q) X.xe { s4 with heap := s4.heap.push { cls := .type "slice", data := .fields #[vl, vu, vs] } }
      refine tail_any (ops := [.ref a, .ref s4.heap.objs.size]) ht.typeIs (PyProof.Rows.slot_tuple_getitem.lookup) ?_ (by with_unfolding_all rfl)
      refine getItem_pair_rev (a := u1) (b := u2) ht (Heap.IsSliceOf.new _ vl vu vs) pl pu ps ?_
      refine ⟨.ref _, _, I5.laid (t' := s4.toks) (o := .tup [x2, x1]) (fun b ob q => Heap.get?_push_of_some _ q) (Nat.le_refl _) ?_, rfl, q _ (I5.hok.fresh (Nat.le_refl _))⟩
      exact ⟨by show 2 ≤ sizeLine; decide, [u2, u1], .cons rb (.cons ra .nil), IsTup.new _ _⟩
def nRevP : D → Sto → NQ → Prop := fun x S Q => match x with
  | .tup [x, y] => Q (.tup [y, x]) S
  | _ => False
theorem je_revP {k : Nat} {p1 p2 p3 : Pos} (he : JE X H0 a ma) : JE X H0 (.Subscript a (.Slice none none (some (.UnaryOp .USub (.Constant (.int 1) k p1) p2)) p3) pos) (mUn nRevP ma) := by
  refine (pe_revP he).imq fun σ H Q h => ?_
  obtain ⟨e, S, Q', A, m, k⟩ := h
  refine ⟨e, S, _, A, m, fun x S1 vx H1 x1 s1 rx n => ?_⟩
  unfold nRevP at n
  split at n
  · rename_i d d'
    cases rx with
    | tup tr rr =>
      obtain ⟨v, u, rfl, rv, ru⟩ := vrs2 rr
      refine ⟨_, _, _, rfl, tr.sq, fun p np => ?_⟩
      exact k _ _ _ _ (x1.trans (.new np)) (s1.more np) (.tup (.inl upd_same) (.cons (ru.ext (.new np)) (.cons (rv.ext (.new np)) .nil))) n
  · exact n.elim
end
/-! ### max of a tuple of numbers -/
section
variable {X : Cx}
def rMaxT (K : PySem.W.Frag) : List V → Hp → VK → Prop := fun vs H Q => ∃ (a : Addr) (i : Int) (ns : List Int), vs = [V.ref a] ∧ SqT K H a (V.int i :: ns.map V.int) ∧ ns.length ≤ 100 ∧ Q (.int (ns.foldl max i)) H
theorem depth_ints : ∀ ns : List Int, PyData.depthAll (ns.map PyData.int) ≤ 1 := by
  intro ns; induction ns with
  | nil => decide
  | cons n r ih => simp only [List.map_cons, PyData.depthAll, PyData.depth]; omega
theorem dp_ints {K : PySem.W.Frag} {H : Hp} : ∀ ns : List Int, DpAll K H (ns.map V.int) (ns.map PyData.int)
  | [] => .nil
  | n :: r => .cons (.int n) (dp_ints r)
theorem cr_maxT (hc : X.calm = true) (hu : X.A.units + 64 < cLine) : CallR X (.builtin "max") (rMaxT X.K) := by
  intro pins s σ H vs us Q I r h
  obtain ⟨a, i, ns, rfl, hs, _, q⟩ := h
  obtain ⟨its, rv, hl, _⟩ := I.tuple hs
  rw [Vals.ref1 r]
  obtain ⟨as, hr⟩ := Dp.readsAll I ((i :: ns).map PyData.int) ((i :: ns).map V.int) its (dp_ints (i :: ns)) rv
  have hd := depth_ints (i :: ns)
  simp only [List.map_cons] at hr hd
  refine PySem.W.max_tuple_data (I.ok.hd hc) hl (x := .int i) (xs := ns.map PyData.int) (as := as) hr ?_ (by omega) fun k v h' tk bs hk hv hkp => ?_
  · refine ⟨fun x hx y hy => ?_, fun x hx => ?_⟩
    · have ex : ∃ n, x = PyData.int n := by
        rcases List.mem_cons.mp hx with rfl | hx
        · exact ⟨_, rfl⟩
        · obtain ⟨n, _, e⟩ := List.mem_map.mp hx
          exact ⟨n, e.symm⟩
      have ey : ∃ n, y = PyData.int n := by
        rcases List.mem_cons.mp hy with rfl | hy
        · exact ⟨_, rfl⟩
        · obtain ⟨n, _, e⟩ := List.mem_map.mp hy
          exact ⟨n, e.symm⟩
      obtain ⟨n, rfl⟩ := ex
      obtain ⟨m, rfl⟩ := ey
      rfl
    · rcases List.mem_cons.mp hx with rfl | hx
      · exact fun z => nomatch z
      · obtain ⟨n, _, e⟩ := List.mem_map.mp hx
        rw [← e]; exact fun z => nomatch z
  · rw [PySem.W.maxD_ints] at hv
    cases hv with
    | int => exact ⟨.int _, H, I.kept hkp, ⟨_, rfl⟩, q⟩
def nMaxT : NL := fun xs S Q => match xs with
  | [.tup (.int i :: r)] => (match intsOf r with
    | some ns => ns.length ≤ 100 ∧ Q (.int (ns.foldl max i)) S
    | none => False)
  | _ => False
/-- max of a list, of a tuple -/
def nMax1 : NL := fun xs S Q => match xs with
  | [.tup r] => nMaxT [.tup r] S Q
  | xs => nMaxL xs S Q
theorem callN_max1 (hc : X.calm = true) (hu : X.A.units + 64 < cLine) : CallN X (.builtin "max") nMax1 := by
  obtain ⟨rl, h1, h2⟩ := callN_maxL (X := X) hc
  refine ⟨_, (cr_maxT hc hu).or h1, fun xs S Q vs H Q' s r n k => ?_⟩
  unfold nMax1 at n
  split at n
  · rename_i es
    unfold nMaxT at n
    split at n
    · rename_i i t e
      cases e
      obtain ⟨v, rfl, rv⟩ := vrs1 r
      split at n
      · rename_i ns e2
        have := intsOf_eq e2
        subst this
        cases rv with
        | tup tr rr =>
          obtain ⟨u, ws, rfl, r1, r2⟩ := rr.cons_inv
          cases r1
          have := vrs_ints r2
          subst this
          exact .inl ⟨_, i, ns, rfl, tr.sq, n.1, k _ _ _ _ (.refl H) s (.int _) n.2⟩
      · exact n.elim
    · exact n.elim
  · exact .inr (h2 _ _ _ _ _ _ s r n k)
end
/-! ### x, y = a, b -/
section
variable {X : Cx} {H0 : Hp} {w : NW} {a b c o : Expr} {ma mb mo : NE} {pos : Pos} {es : List Expr} {mr : NA}
def sPar (i j : Nat) (ma mb : NE) : NS := fun Z e S => ma e S fun x S1 => mb e S1 fun y S2 => Z.nx ((e.set i (some x)).set j (some y)) S2
theorem js_par {i j : Nat} {x y : Str} {px py pt pt2 : Pos} {kt k2} (cx : NX X H0 w) (hN : X.N.Nodup) (ha : JE X H0 a ma) (hb : JE X H0 b mb) (hij : i ≠ j) (hi : X.N[i]? = some x := by rfl) (hj : X.N[j]? = some y := by rfl)
    (hx : X.env.scope.names.lookup x = some .local := by rfl) (hy : X.env.scope.names.lookup y = some .local := by rfl)
    (hw : swappedStores [.Tuple [.Name x px, .Name y py] kt pt] (.Tuple [a, b] k2 pt2) X.env = pure (some [x, y]) := by rfl)
    (hs : swapsWithSole [.Tuple [.Name x px, .Name y py] kt pt] (.Tuple [a, b] k2 pt2) pos.line X.env = pure false := by rfl)
    (hsa : starEach [a, b] X.env = (false, eval a X.env) :: starEach [b] X.env := by rfl) (hsb : starEach [b] X.env = (false, eval b X.env) :: starEach [] X.env := by rfl) :
    JS X H0 (.Assign [.Tuple [.Name x px, .Name y py] kt pt] (.Tuple [a, b] k2 pt2) pos) (sPar i j ma mb) :=
  (ps_par cx.calm hN hi hj hij hx hy (ja_cons ha (ja_cons hb ja_nil hsb) hsa) hw hs).imq fun D σ H ⟨e, S, D', A, m, k⟩ =>
    ⟨e, S, fun ds S1 => ∃ x y, ds = [x, y] ∧ D'.nx ((e.set i (some x)).set j (some y)) S1, A, two_args (K := X.K) m, fun ds S1 vs H1 x1 s1 r ⟨x, y, ed, m1⟩ => by
      subst ed
      obtain ⟨v, u, rfl, rv, ru⟩ := vrs2 r
      exact ⟨v, u, rfl, k.nx _ _ _ _ x1 (((A.next x1 s1).set rv i).set ru j) m1⟩⟩
end
end N

set_option Elab.async false
set_option linter.all false
set_option maxRecDepth 100000
set_option maxHeartbeats 4000000
namespace N
open PySem PySem.Spec PyProof.Rows L2
variable [TabList]
/-! ### texts -/
def strsOf : List D → Option (List Str)
  | [] => some []
  | .str x :: r => (strsOf r).map (x :: ·)
  | _ => none
theorem strsOf_eq : ∀ {ds : List D} {ss : List Str}, strsOf ds = some ss → ds = ss.map D.str
  | [], ss, h => by simp only [strsOf, Option.some.injEq] at h; subst h; rfl
  | .str i :: r, ss, h => by
    simp only [strsOf, Option.map_eq_some_iff] at h
    obtain ⟨ms, h1, rfl⟩ := h
    rw [strsOf_eq h1]; rfl
  | .non :: _, _, h => by cases h
  | .bl _ :: _, _, h => by cases h
  | .int _ :: _, _, h => by cases h
  | .ref _ :: _, _, h => by cases h
  | .ty _ :: _, _, h => by cases h
  | .cls _ :: _, _, h => by cases h
  | .tup _ :: _, _, h => by cases h
  | .rol _ :: _, _, h => by cases h
theorem strsOf_map : ∀ (ss : List Str), strsOf (ss.map D.str) = some ss
  | [] => rfl
  | x :: r => by
    show (strsOf (r.map D.str)).map (x :: ·) = some (x :: r)
    rw [strsOf_map r]; rfl
theorem vrs_strs_eq {K : PySem.W.Frag} {H : Hp} : ∀ {ss : List Str} {vs : List V}, VRs K H (ss.map D.str) vs → vs = ss.map V.str
  | [], _, .nil => rfl
  | x :: r, _, .cons h t => by
    cases h
    rw [vrs_strs_eq t]; rfl
/-- sep.join(texts) -/
def nJoin : D → D → Sto → NQ → Prop := fun x y S Q => match x with
  | .str a => (match seqOf S y with
    | some ds => (match strsOf ds with
      | some ss => (ss.map (·.length)).sum + ss.length * a.length ≤ 16777216 ∧ Q (.str (Txt.join a ss)) S
      | none => False)
    | none => False)
  | _ => False
def mM1 (n : D → D → Sto → NQ → Prop) (mo me : NE) : NE := fun e S Q => mo e S fun x S1 => match x with
  | .str a => me e S1 fun y S2 => n (.str a) y S2 Q
  | _ => False
section
variable {X : Cx} {H0 : Hp} {w : NW} {a o : Expr} {mo me : NE} {pos : Pos}
theorem je_join {apos : Pos} (ho : JE X H0 o mo) (he : JE X H0 a me) (hs : starEach [a] X.env = [(false, eval a X.env)] := by rfl) (hbase : attributeBase o "join" X.env (eval o X.env) = eval o X.env := by rfl) (hline : (apos.endLine == pos.line) = true := by rfl) :
    JE X H0 (.Call (.Attribute o "join" apos) [a] [] pos) (mM1 nJoin mo me) := by
  refine (pe_join ho he hs hbase hline).imq fun σ H Q ⟨e, S, Q', A, m, k⟩ => ?_
  refine ⟨e, S, _, A, m, fun x S1 vx H1 x1 s1 rx q => ?_⟩
  split at q
  · rename_i z
    cases rx
    refine ⟨⟨_, rfl⟩, e, S1, _, A.next x1 s1, q, fun y S2 vy H2 x2 s2 ry q2 => ?_⟩
    unfold nJoin at q2
    dsimp only at q2
    split at q2
    · rename_i ds e1
      split at q2
      · rename_i ss e2
        obtain ⟨p, ws, rfl, hs, r1⟩ := seqOf_ok s2 ry e1
        rw [strsOf_eq e2] at r1
        rw [vrs_strs_eq r1] at hs
        exact ⟨_, p, ss, rfl, rfl, hs, q2.1, k _ _ _ _ (x1.trans x2) s2 (.str _) q2.2⟩
      · exact q2.elim
    · exact q2.elim
  · exact q.elim
end
end N

set_option Elab.async false
set_option linter.all false
set_option maxRecDepth 100000
set_option maxHeartbeats 4000000
namespace N
open PySem PySem.Spec PyProof.Rows L2
variable [TabList]

/-! ### a lambda without parameters, handed to a def that calls it -/
theorem SR.lam {K : PySem.W.Frag} {S : Sto} {H H' : Hp} (h : SR K S H) (e : LamX.ExtN H H') (x : HExt H H') : SR K S H' := fun a o q => by
  have r := h a o q
  cases o with
  | lst ds => obtain ⟨vs, e1, r⟩ := r; exact ⟨vs, e _ _ e1 (fun _ z => by cases z), r.ext x⟩
  | dic kvs => obtain ⟨vs, e1, r⟩ := r; exact ⟨vs, e _ _ e1 (fun _ z => by cases z), KVR.ext x r⟩
  | ins C fs => obtain ⟨dx, vs, e1, r, c⟩ := r; exact ⟨dx, vs, e _ _ e1 (fun _ z => by cases z), KVR.ext x r, c⟩
  | exc c d => exact e _ _ r (fun _ z => by cases z)
  | xd fs => obtain ⟨vs, e1, r⟩ := r; exact ⟨vs, e _ _ e1 (fun _ z => by cases z), KVR.ext x r⟩
/-- what is known of the code object of a def that makes lambdas -/
structure LamT (base : Heap) (mg : Str → Option Value) (cdv : Value) (q : Str) : Prop where
  ex : ∃ c P, cdv = .ref c ∧ LamX.TabB base mg c P ∧ (P, q) ∈ TabList.T ∧ ∀ p ∈ TabList.T, p.1 = P → p.2 = q
/-- the call of the lambda f, that stands in the i-th slot -/
def mAct (i : Nat) (f : Addr) (act : NSp) (w : NW) : NE := fun e S Q => e[i]? = some (some (.ref f)) ∧ act [] S Q fun c d S' => w c d e S'
section
variable {X : Cx} {pins : List (Addr × Obj)} {σ : L2.St} {H H1 : Hp} {s : Shared} {w1 : NW} {e0 : Env} {mb : NW → NE}
theorem je_act {Eg : XK} {Ng : List Str} {qg : Str} {sg : Scope} {g f c' : Addr} {cdg pm ctv : Value} {params : Arguments} {body : Expr} {scope : Scope} {k i : Nat} {a : Str} {pn : List (Addr × Obj)} {xe : Value → Shared → Prop} {p1 p2 : Pos}
    (I : Inv X pins σ H s) (r0 : ER X.K H e0 σ) (L : LamX.LamS X.env.scope scope) (hf : s.heap.get? f = some (PySem.W.kla_obj "<lambda>" (X.env.qual ++ "<lambda>") params body scope (cloFrom X.env.cells scope.names []) pm c' ctv)) (hfn : H f = none) (hfr : f ∉ frs X.stack)
    (hbind : bindArgs (PySem.W.kla_fn "<lambda>" (X.env.qual ++ "<lambda>") params body scope (cloFrom X.env.cells scope.names []) pm (.ref c') ctv) ⟨[], []⟩ = pure [])
    (hco : H c' = some (LamX.CodeO c' (X.env.qual ++ "<lambda>"))) (hx1 : HExt H H1)
    (cx1 : NX ((cxOf (L2.CX X.prog X.w) X.prog X.w X.K X.mg X.base Ng qg sg g cdg X.A X.stack s H Eg).tr pn xe) H1 w1) (hr : Room (k + 1) (X.A.deeper (envOfC qg sg s.heap.objs.size g cdg)))
    (hbody : ∀ (A : Around) (outer : List PySem.Env) (s : Shared) (H : Hp) (E : XK) (w' : NW), Room k (A.deeper (LamX.lamEnv X scope s.heap.objs.size f c')) → NX (LamX.lamCx X A outer s H E scope f c') H w' → JE (LamX.lamCx X A outer s H E scope f c') H body (mb w'))
    (hN : Ng[i]? = some a) (hv : Vis sg a) (hd : (a == ("__debug__" : Str)) = false := by decide) (hcd : (a == ("__classdict__" : Str)) = false := by decide) :
    JE ((cxOf (L2.CX X.prog X.w) X.prog X.w X.K X.mg X.base Ng qg sg g cdg X.A X.stack s H Eg).tr pn xe) H1 (.Call (.Name a p1) [] [] p2) (mAct i f (fun _ S' Q' E' => mb (fun c d _ S2 => E' c d S2) e0 S' Q') w1) := by
  refine ⟨fun pinsZ sZ σZ HZ Q IZ h => ?_⟩
  obtain ⟨eZ, SZ, Q', AZ, ⟨m1, m2⟩, kk⟩ := h
  obtain ⟨v0, hs0, rv0⟩ := AZ.e.get m1
  cases rv0
  refine wpAny_Call_Name_kw (thn ((pe_var (pos := p1) (i := i) hN hv hd hcd).run pinsZ sZ σZ HZ (fun v H1 => v = .ref f ∧ H1 = HZ) IZ ⟨.ref f, hs0, rfl, rfl⟩) fun u s1 ⟨v, H2, I1, r1, q1⟩ => ?_)
  obtain ⟨ev, eH⟩ := q1
  subst ev
  rw [eH] at I1
  obtain rfl : u = Value.ref f := r1
  have of1 := I1.base.keep f _ hf hfn hfr (fun z => nomatch (show f ∈ ([] : List Addr) from z))
  refine PySem.W.callWith_F0 ⟨_, _, _, _, of1⟩ ?_
  have un : Un (frs X.stack) [] H HZ s.heap s1.heap := I1.base
  have hcZ : HZ c' = some (LamX.CodeO c' (X.env.qual ++ "<lambda>")) := (hx1.trans AZ.x).cod _ _ hco
  obtain ⟨⟨oc, vs, t, hoc, hdc, hvc⟩, _, _⟩ := I1.hok c' _ hcZ
  have tbZ : LamX.Tabs TabList.T HZ := AZ.x.tab cx1.tb
  have rc : codeAny (model X.prog X.w) (X.A.deeper (envOfC qg sg s.heap.objs.size g cdg)) (.call (.ref f) ⟨[], []⟩) (CR (L2.CX X.prog X.w) (envOfC qg sg s.heap.objs.size g cdg :: X.stack) X.prog X.w HZ s1 Q (WE (lW X.K H1 w1) σZ)) s1 := by
    refine PySem.W.kla_callFunE hr.depth of1 rfl L.co L.gen rfl ⟨c', oc, vs, t, rfl, hoc, hdc, hvc⟩ ?_
    rw [hbind]
    refine wpAny_pure (wpAny_newFunctionEnv (fun y hy => (L.own y hy).2) (fun y hy => absurd hy (by simp)) (fun h₁ hns hsb => ⟨I1.nolimit.fresh _ hsb, ?_⟩) L.kind)
    show codeAny _ _ (.expr body (LamX.lamEnv X scope s1.heap.objs.size f c')) _ _
    have kp : ∀ b o, s1.heap.get? b = some o → h₁.get? b = some o := fun b o e => hsb.extBut b o (Nat.ne_of_lt (Heap.lt_size e)) (Heap.get?_push_of_some _ e)
    have J : Inv (LamX.lamCx X (X.A.deeper (envOfC qg sg s.heap.objs.size g cdg)) (envOfC qg sg s.heap.objs.size g cdg :: X.stack) s1 HZ (WE (lW X.K H1 w1) σZ) scope f c') [] σ HZ { s1 with heap := h₁, toks := s1.toks + ([] : List (Str × Value)).length } :=
      LamX.lam_start2 I L I1.env0 hr.hd un hns kp
    have tk0 : Takes (LamX.lamCx X (X.A.deeper (envOfC qg sg s.heap.objs.size g cdg)) (envOfC qg sg s.heap.objs.size g cdg :: X.stack) s1 HZ (WE (lW X.K H1 w1) σZ) scope f c') (fun cls d _ H' => WE (lW X.K H1 w1) σZ cls d H') := takes_of rfl rfl rfl rfl
    have tk : Takes (LamX.lamCx X (X.A.deeper (envOfC qg sg s.heap.objs.size g cdg)) (envOfC qg sg s.heap.objs.size g cdg :: X.stack) s1 HZ (WE (lW X.K H1 w1) σZ) scope f c') (lW X.K HZ fun c d _ S2 => w1 c d eZ S2) :=
      tk0.imp fun cls d σ' H' ⟨c, e, S', ec, A', q⟩ => ⟨c, eZ, S', ec, AZ.next A'.x A'.s, q⟩
    refine PySem.W.kla_codeExpr (wpAny_mono ((hbody _ _ s1 HZ _ _ (hr.deeper _) ⟨tk, passes_of rfl, rfl, tbZ⟩).run [] _ _ HZ Q J ⟨e0, SZ, Q', ⟨.refl HZ, r0.ext (hx1.trans AZ.x), AZ.s⟩, m2, kk⟩) (fun v s' hq => ?_) fun e s' hq => hq)
    obtain ⟨w', H', J', rv, q⟩ := hq
    exact ⟨w', H', J'.os, J'.bare, J'.base, J'.hok, rv, q⟩
  refine wpAny_call (codeAny_mono rc fun r s' hq => ?_)
  cases r with
  | error e => exact passAt cx1.tk σZ pinsZ HZ s1 e s' I1 hq
  | ok fl =>
    cases fl with
    | ret u => exact I1.after hq
    | next => exact False.elim hq
    | brk => exact False.elim hq
    | cont => exact False.elim hq
end
/-- the promise of a def that calls the lambda it is given -/
def spAct (N : Nat) (mT : Addr → NSp → NW → NS) : NSp → NSp := fun act _ S Q E => ∀ f, S f = none → mT f act (fun c d _ S' => E c d S') { nx := fun _ S' => Q .non S', rt := Q } (startN N [.ref f]) S
/-- x(lambda: body) -/
def mLam (spT : NSp → NSp) (w : NW) (mb : NW → NE) : NE := fun e S Q => spT (fun _ S' Q' E' => mb (fun c d _ S2 => E' c d S2) e S' Q') [] S Q fun c d S' => w c d e S'
section
variable {X : Cx} {H0 : Hp} {w : NW} {mb : NW → NE}
theorem je_lam {x a : Str} {g : Addr} {k n : Nat} {pg : Arguments} {bg : List Stmt} {sg : Scope} {fd : FuncData} {Ng : List Str} {mT : Addr → NSp → NW → NS}
    {params : Arguments} {body : Expr} {scope : Scope} {p lpos pos : Pos} (cx : NX X H0 w) (F : FunD X.K x x pg bg sg [] [] g fd) (hm : X.mg x = some (.ref g)) (hb : Binds X.K fd [a] []) (Sg : FnScope Ng [a] sg)
    (LT : LamT X.base X.mg X.env.code (X.env.qual ++ "<lambda>")) (hr : Room (k + 2) X.A)
    (hT : ∀ (cdv : Value) (A : Around) (outer : List PySem.Env) (s : Shared) (H : Hp) (E : XK) (w' : NW) (f : Addr) (act : NSp), Room (k + 1) (A.deeper (envOfC x sg s.heap.objs.size g cdv)) → NX (cxOf (L2.CX X.prog X.w) X.prog X.w X.K X.mg X.base Ng x sg g cdv A outer s H E) H w' →
      (∀ (H1 : Hp) (w1 : NW) (pn : List (Addr × Obj)) (xe : Value → Shared → Prop) (p1 p2 : Pos), HExt H H1 → NX ((cxOf (L2.CX X.prog X.w) X.prog X.w X.K X.mg X.base Ng x sg g cdv A outer s H E).tr pn xe) H1 w1 →
        JE ((cxOf (L2.CX X.prog X.w) X.prog X.w X.K X.mg X.base Ng x sg g cdv A outer s H E).tr pn xe) H1 (.Call (.Name a p1) [] [] p2) (mAct 0 f act w1)) →
      JSs (cxOf (L2.CX X.prog X.w) X.prog X.w X.K X.mg X.base Ng x sg g cdv A outer s H E) H bg (mT f act w'))
    (hbody : ∀ (A : Around) (outer : List PySem.Env) (s : Shared) (H : Hp) (E : XK) (w' : NW) (f c' : Addr), Room k (A.deeper (LamX.lamEnv X scope s.heap.objs.size f c')) → NX (LamX.lamCx X A outer s H E scope f c') H w' → JE (LamX.lamCx X A outer s H E scope f c') H body (mb w'))
    (hn : Ng.length = n) (hNg : Ng[0]? = some a) (hva : Vis sg a) (hL : LamX.lamSB X.env.scope scope = true) (hdef : defaultsOf params X.env = ([], []))
    (hbind : ∀ (q : Str) (cl : List (Str × Addr)) (pm cv ctv : Value), bindArgs (PySem.W.kla_fn "<lambda>" q params body scope cl pm cv ctv) ⟨[], []⟩ = pure [])
    (hg : Gl X x := by rfl) (hdb : (x == ("__debug__" : Str)) = false := by decide +kernel) (hd : (a == ("__debug__" : Str)) = false := by decide) (hcd : (a == ("__classdict__" : Str)) = false := by decide) :
    JE X H0 (.Call (.Name x p) [.Lambda params body scope lpos] [] pos) (mLam (spAct n mT) w mb) := by
  subst hn
  have L := LamX.lamS_by hL
  obtain ⟨c, P, hcode, TB, hmT, hu⟩ := LT.ex
  have kpF := F.kp
  obtain ⟨oc, od, dV, kV, doc, pm, an, cdv, ct, osl, rfl, lk, hcg, _, _⟩ := F.ex
  refine ⟨fun pins s σ H Q I h => ?_⟩
  obtain ⟨e, S, Q', A, m, kk⟩ := h
  refine wpAny_Call_Name_kw (ld_glob I hg hm ?_ hdb)
  refine PySem.W.callWith_K (h₀ := X.base) I.ok.mod.kin kpF ?_ (by rfl) (by rfl)
  show wpAny _ _ (spliced ((false, eval (.Lambda params body scope lpos) X.env) :: backTo pos (starEach [] X.env))) _ _ s
  refine Calls.spliced_cons (LamX.lam_make2 I TB hcode hmT hu (A.x.tab cx.tb) hdef (L.has I.ok) fun f c' pm' ctv H1 s' I1 eN T1 hf hfn hfr hco => ?_)
  refine Calls.spliced_nil ⟨I1.kIn, ?_⟩
  have x1 : HExt H H1 := .lam eN T1
  have A1 := A.next x1 (A.s.lam eN x1)
  have rc : codeAny (model X.prog X.w) X.A (.call (.ref g) ⟨[.ref f], []⟩) (CR (L2.CX X.prog X.w) X.stack X.prog X.w H1 s' Q (WE (lW X.K H0 w) σ)) s' := by
    refine LamX.run_ofS (k := k + 1) (N := Ng) (ps := [a]) (us := [.ref f]) (vs := [.ref f]) lk hcg Sg hr I1.env0 (hb s' [.ref f] I1.kIn rfl) (.cons rfl .nil) rfl fun hr' => ?_
    have tk0 : Takes (cxOf (L2.CX X.prog X.w) X.prog X.w X.K X.mg X.base Ng x sg g cdv X.A X.stack s' H1 (WE (lW X.K H0 w) σ)) (fun cls d _ H' => WE (lW X.K H0 w) σ cls d H') := takes_of rfl rfl rfl rfl
    have tk : Takes (cxOf (L2.CX X.prog X.w) X.prog X.w X.K X.mg X.base Ng x sg g cdv X.A X.stack s' H1 (WE (lW X.K H0 w) σ)) (lW X.K H1 fun c d _ S2 => w c d e S2) :=
      tk0.imp fun cls d σ' H' ⟨c, e', S', ec, A', q⟩ => ⟨c, e, S', ec, A1.next A'.x A'.s, q⟩
    refine ⟨_, hT cdv X.A X.stack s' H1 _ _ f _ hr' ⟨tk, passes_of rfl, rfl, T1⟩ (fun H2 w1 pn xe p1 p2 hx2 cx2 => je_act (i := 0) I1 A1.e L hf hfn hfr (hbind _ _ _ _ _) hco hx2 cx2 hr' (fun A outer s H E w' => hbody A outer s H E w' f c') hNg hva hd hcd), ?_⟩
    refine ⟨startN Ng.length [.ref f], S, _, ⟨.refl H1, ?_, A1.s⟩, m f (A1.s.fresh hfn), ⟨fun e S' σ' H' x A' q => kk _ _ _ _ (x1.trans x) A'.s .non q, fun d S' v H' x s r q => kk _ _ _ _ (x1.trans x) s r q, fun _ _ _ _ _ _ q => q, fun _ _ _ _ _ _ q => q⟩⟩
    rw [startN_eq]
    exact ER.app (ER.some (.cons (.ref f) .nil)) (ER.none _)
  refine wpAny_call (codeAny_mono rc fun r s2 hq => ?_)
  cases r with
  | error e => exact passAt cx.tk σ pins H1 s' e s2 I1 hq
  | ok fl =>
    cases fl with
    | ret u => exact I1.after hq
    | next => exact False.elim hq
    | brk => exact False.elim hq
    | cont => exact False.elim hq
end
/-- the name of the lambdas of a def of the top -/
def lamQ (x : Str) : Str := x ++ ".<locals>." ++ "<lambda>"
theorem code_of {K : PySem.W.Frag} {x y qual : Str} {params : Arguments} {body : List Stmt} {scope : Scope} {dvs : List V} {kws : List (Str × V)} {fd : FuncData} {c P : Addr} (F : FunD K y qual params body scope dvs kws (He.ga K x) fd) (h : PySem.W.tabIn K x = some (c, P)) : fd.code = .ref c := by
  obtain ⟨oc, od, dV, kV, doc, pm, an, cdv, ct, osl, e0, lk, _⟩ := F.ex
  unfold PySem.W.tabIn at h
  split at h
  · rename_i f hf
    have eg : He.ga K x = f := by unfold He.ga; rw [hf]
    rw [eg] at lk
    rw [lk] at h
    dsimp only at h
    split at h
    · rename_i c2 hc
      split at h
      · split at h
        · cases h; exact hc
        · cases h
      · cases h
    · cases h
  · cases h
theorem fn_bodyL {P : Program} {w : World} {K : PySem.W.Frag} {mg : Str → Option Value} {base : Heap} {x qual : Str} {params : Arguments} {body : List Stmt} {scope : Scope} {fd : FuncData} {N ps : List Str} {k : Nat} {m : NW → NS}
    (F : FunD K x qual params body scope [] [] (He.ga K x) fd) (S : FnScope N ps scope) {q : Str} (lt : ∃ c P, PySem.W.tabIn K x = some (c, P) ∧ LamX.TabB base mg c P ∧ (P, q) ∈ TabList.T ∧ ∀ p ∈ TabList.T, p.1 = P → p.2 = q)
    (hb : ∀ (cdv : Value) (A : Around) (outer : List PySem.Env) (s : Shared) (H : Hp) (E : XK) (w' : NW), LamT base mg cdv q → Room k (A.deeper (envOfC qual scope s.heap.objs.size (He.ga K x) cdv)) → NX (cxOf (L2.CX P w) P w K mg base N qual scope (He.ga K x) cdv A outer s H E) H w' →
      JSs (cxOf (L2.CX P w) P w K mg base N qual scope (He.ga K x) cdv A outer s H E) H body (m w')) :
    FnOk P w K mg base (L2.CX P w) (k + 1) (He.ga K x) fd ps (lSp K ps.length (spOf N.length m)) := by
  obtain ⟨c, Pt, ht, tb, t1, t2⟩ := lt
  have hcode := code_of F ht
  obtain ⟨oc, od, dV, kV, doc, pm, an, cdv, ct, osl, rfl, lk, hcd, _, _⟩ := F.ex
  have ec : cdv = .ref c := hcode
  refine fn_of lk hcd S (fun vs H Q E h => h.len) fun A outer s H vs Q E hr h => ?_
  obtain ⟨ds, S0, Q', E', h1, h2, h3, h3t, h4, h5, h6⟩ := h
  have tk0 : Takes (cxOf (L2.CX P w) P w K mg base N qual scope (He.ga K x) cdv A outer s H E) (fun cls d _ H' => E cls d H') := takes_of rfl rfl rfl rfl
  have tk : Takes (cxOf (L2.CX P w) P w K mg base N qual scope (He.ga K x) cdv A outer s H E) (lW K H fun c d _ S' => E' c d S') :=
    tk0.imp fun cls d σ H' ⟨c, e, S', ec, A', q⟩ => by
      rw [ec]; exact h6 c d S' H' A'.x A'.s q
  refine ⟨_, hb cdv A outer s H E _ ⟨c, Pt, ec, tb, t1, t2⟩ hr ⟨tk, passes_of rfl, rfl, h3t⟩, ?_⟩
  refine ⟨startN N.length ds, S0, _, ⟨.refl H, ?_, h3⟩, h4, ⟨fun e S' σ' H' x A' q => h5 _ _ _ _ x A'.s .non q, fun d S' v H' x s r q => h5 _ _ _ _ x s r q, fun _ _ _ _ _ _ q => q, fun _ _ _ _ _ _ q => q⟩⟩
  rw [startN_eq]
  unfold L2.start
  rw [h2.length]
  exact ER.app (ER.some h2) (ER.none _)
end N

set_option Elab.async false
set_option linter.all false
set_option maxRecDepth 100000
set_option maxHeartbeats 4000000
namespace N
variable [TabList]
open PySem PySem.Spec PyProof.Rows L2

/-! ### methods, the room apart -/
structure MtK (P : Program) (w : World) (K : PySem.W.Frag) (mg : Str → Option Value) (base : Heap) (m : Str) (mt : MT) (k : Nat) : Prop where
  ok : ∀ c n sp, mt c = some (n, sp) → ∃ f, Meth K (He.ga K c) m f ∧ Fn P w K mg base k f n sp
theorem Fn.mono {P : Program} {w : World} {K : PySem.W.Frag} {mg : Str → Option Value} {base : Heap} {j k : Nat} {f : Addr} {n : Nat} {sp : NSp} (F : Fn P w K mg base j f n sp) (h : j ≤ k) : Fn P w K mg base k f n sp := by
  obtain ⟨fd, ps, h1, h2, h3⟩ := F.ex
  exact ⟨⟨fd, ps, h1, h2.mono h, h3⟩, F.kp⟩
section
variable {X : Cx} {H0 : Hp} {w : NW} {a o : Expr} {mo : NE} {pos : Pos} {es : List Expr} {mr : NA} {k : Nat}
theorem MtK.at {m : Str} {mt : MT} (h : MtK X.prog X.w X.K X.mg X.base m mt k) (hr : Room k X.A) : MtOk X m mt := ⟨fun c n sp e => let ⟨f, h1, h2⟩ := h.ok c n sp e; ⟨f, k, hr, h1, h2⟩⟩
theorem je_methK {m : Str} {mt : MT} {apos : Pos} {pl : Sem Bool} (cx : NX X H0 w) (h : MtK X.prog X.w X.K X.mg X.base m mt k) (hr : Room k X.A) (he : JE X H0 o mo) (ha : JA X H0 (a :: es) mr)
    (hst : starEach (a :: es) X.env = (false, eval a X.env) :: starEach es X.env := by rfl) (hpl : (backTo pos (starEach es X.env)).any (·.1) = false := by rfl)
    (ht : eval (.Call (.Attribute o m apos) (a :: es) [] pos) X.env = (do
      let ov ← eval o X.env
      standAt apos.atName
      let (f, first) ← holding [ov] (getMethod ov m pl)
      callWith pos f first (backTo pos (starEach (a :: es) X.env)) (backToKw pos (keywordEach [] X.env))) := by rfl) :
    JE X H0 (.Call (.Attribute o m apos) (a :: es) [] pos) (mMeth m mt w mo mr) := je_meth cx (h.at hr) he ha hst hpl ht
theorem je_methK0 {m : Str} {mt : MT} {apos : Pos} {pl : Sem Bool} (cx : NX X H0 w) (h : MtK X.prog X.w X.K X.mg X.base m mt k) (hr : Room k X.A) (he : JE X H0 o mo)
    (ht : eval (.Call (.Attribute o m apos) [] [] pos) X.env = (do
      let ov ← eval o X.env
      standAt apos.atName
      let (f, first) ← holding [ov] (getMethod ov m pl)
      callWith pos f first (backTo pos (starEach [] X.env)) (backToKw pos (keywordEach [] X.env))) := by rfl) :
    JE X H0 (.Call (.Attribute o m apos) [] [] pos) (mMeth m mt w mo mNil) := je_meth0 cx (h.at hr) he ht
end

/-! ### what the head looks at -/
def excB (K : PySem.W.Frag) (D : Addr) : Bool := He.eqO (PySem.W.findIn K (.ref D) "__getattribute__") (some (some (.builtin "BaseException.__getattribute__"))) && (He.eqO (PySem.W.findIn K (.ref D) "__getattr__") (some none) &&
  (decide (PySem.W.subIn K (.ref D) (.type "BaseException") = some true) && (PySem.W.hasDictIn K D && (He.eqO (PySem.W.findIn K (.ref D) "__class__") (some (some (.builtin "object.__class__"))) &&
  (He.eqO (PySem.W.specialIn K (.builtin "object.__class__") "__get__") (some (some (.builtin "getset_descriptor.__get__"))) && (decide (PySem.W.takesIn K (.builtin "object.__class__") = some true) && decide (PySem.W.mroIn K D (.type "object") = some true)))))))
theorem excB_ok {K : PySem.W.Frag} {D : Addr} (h : excB K D = true) : ExcC K D := by
  obtain ⟨h1, h⟩ := He.ba h
  obtain ⟨h2, h⟩ := He.ba h
  obtain ⟨h3, h⟩ := He.ba h
  obtain ⟨h4, h⟩ := He.ba h
  obtain ⟨h5, h⟩ := He.ba h
  obtain ⟨h6, h⟩ := He.ba h
  obtain ⟨h7, h8⟩ := He.ba h
  exact ⟨He.eqO_ok h1, He.eqO_ok h2, of_decide_eq_true h3, h4, He.eqO_ok h5, He.eqO_ok h6, of_decide_eq_true h7, of_decide_eq_true h8⟩
def kfW (CL : List Str) (K : PySem.W.Frag) : Bool := ((T1 CL).all fun t => (T2 CL).all fun u => decide (PySem.W.kitOne K (t.v K) (u.v K) = some (isT t u))) && ((CL.all fun c => excB K (He.ga K c)) && CL.all fun c => (Str.ofString "MartError" :: CL).all fun x => decide (PySem.W.exmOne K (.ref (He.ga K c)) (.ref (He.ga K x)) = some (isT (.cls c) (.cls x))))
theorem kfW_ok {CL : List Str} {K : PySem.W.Frag} (h : kfW CL K = true) : KF CL K := by
  obtain ⟨h1, h⟩ := He.ba h
  obtain ⟨h2, h3⟩ := He.ba h
  exact ⟨fun t ht u hu => of_decide_eq_true (List.all_eq_true.mp (List.all_eq_true.mp h1 t ht) u hu), fun c hc => excB_ok (List.all_eq_true.mp h2 c hc)⟩
theorem kxW_ok {CL : List Str} {K : PySem.W.Frag} (h : kfW CL K = true) : KX CL K := by
  obtain ⟨h1, h⟩ := He.ba h
  obtain ⟨h2, h3⟩ := He.ba h
  exact ⟨fun c hc x hx => of_decide_eq_true (List.all_eq_true.mp (List.all_eq_true.mp h3 c hc) x hx)⟩
def clsW (K : PySem.W.Frag) (c : Str) : Bool := (He.Fa.cls c).ok K && FN.all fun f => (He.Fa.noat c f).ok K
theorem clsW_ok {K : PySem.W.Frag} {c : Str} (h : clsW K c = true) : ClsOk K c := by
  obtain ⟨h1, h2⟩ := He.ba h
  exact ⟨He.cls_ok h1, fun f hf => He.noat_ok (List.all_eq_true.mp h2 f hf)⟩
abbrev AlN : Type := He.AlD × Bool
/-- the places that are looked at: tables of code objects are none -/
def asN (g : Addr → Option Obj) (n : Nat) : List Addr := (He.asD g n).filter fun a => match g a with
  | some ⟨.none, _, .fields vs, _⟩ => vs.size != 0
  | _ => true
def obsN (n : Nat) (fa : List He.Fa) (fn : List He.DefD) (ex : PySem.W.Frag → Bool) (g : Addr → Option Obj) : AlN := (He.obsD fa fn (He.frG g (asN g n)), ex (He.frG g (asN g n)))
def hookN (n : Nat) (fa : List He.Fa) (fn : List He.DefD) (ex : PySem.W.Frag → Bool) : PySem.W.Hook where
  α := AlN
  obs := fun s => obsN n fa fn ex s.heap.get?
  val := fun _ => (He.valD fn, true)
  says := fun _ h => ∃ K : PySem.W.Frag, K.In h ∧ He.SaysD fa fn K ∧ ex K = true
  of := fun _ _ e => ⟨_, He.frG_in, congrArg (fun z : AlN => z.1) e, congrArg (fun z : AlN => z.2) e⟩
  keeps := fun _ _ _ ⟨K, hK, c⟩ k => ⟨K, PySem.W.Frag.In.keeps hK k, c⟩
omit [TabList] in
theorem obsN_eq {n : Nat} {fa : List He.Fa} {fn : List He.DefD} {ex : PySem.W.Frag → Bool} {g : Addr → Option Obj} {s : Shared} (h : ∀ a, g a = s.heap.get? a) : obsN n fa fn ex g = (hookN n fa fn ex).obs s := by
  have e : g = s.heap.get? := funext h
  rw [e] <;> rfl

/-! ### the end -/
theorem cx_none {P : Program} {w : World} {H : Hp} {s : Shared} {e : Value} {s' : Shared} (h : L2.CX P w [] H s (fun _ _ _ => False) e s') : False := by
  obtain ⟨_, _, _, _, _, _, _, _, _, _, _, _, z⟩ := h
  exact z.elim
omit [TabList] in
theorem walk_ofN {l : PySem.W.OpenLaw} {k : Nat} {q : Program} {loose : List Str} {XP : (Str → Option Value) → Heap → Prop} {YP : World → Heap → Prop} {d : DefRec} {x : Str} {sp : NSp}
    (hn : l.most = some 63) (hdf : d.params.defaults = []) (hr : Room k callerA)
    (plain : ∀ ns : List Int, ns.length ≤ 63 → sp [.rol (ns.map D.int)] (fun _ => none) (fun d _ => d = .bl true) (fun _ _ _ => False))
    (F : ∀ (w : World) (mg : Str → Option Value) (fa : Addr) (h : Heap), YP w h → h.Ns mainGlobals mg → mg d.name = some (.ref fa) →
      ∃ (K : PySem.W.Frag) (fd : FuncData), K.In h ∧ (∀ (s : Shared) (u : Value), BindsTo s fd ⟨[u], []⟩ [(x, u)]) ∧
        ∀ base : Heap, K.In base → base.Ns mainGlobals mg → FnOk l.prog w K mg base (L2.CX l.prog w) k fa fd [x] (@lSp ⟨[]⟩ K 1 sp)) :
    PySem.W.WalkO q loose XP YP l.row.toRowW d [] (fun f vs => PySem.call f vs) := by
  letI : TabList := ⟨[]⟩
  refine Att.attach_call hn hdf fun w s₀ s₁ mg mb fa o pm cd doc a vs ns G Y ho hd hcd hmg hobj hints hlen hg => ?_
  obtain ⟨K, fd, KX, hb, hF⟩ := F w mg fa _ Y G.T.g hmg
  refine law_call KX G.T.g G.T.b G.T.builtins G.T.nolimit hg hobj hints (Nat.le_trans hlen (by decide)) hr hF hb (fun H hO hS => ?_) fun H e s' => cx_none
  refine ⟨[.rol (ns.map D.int)], fun _ => none, _, _, rfl, .cons (.rol (vs := ns.map V.int) ?_ VRs.ints) .nil, fun a o e => (by cases e), fun p hp => (by cases hp), plain ns hlen, fun d S' v H' _ _ r e => ?_, fun _ _ _ _ _ _ z => z⟩
  · rcases hS with (h | ⟨ob, h⟩) | h
    · rcases hO a with z | ⟨o, xs, z⟩
      · rw [h] at z; cases z
      · rw [h] at z; cases z
    · exact .inl ⟨ob, h⟩
    · exact .inr h
  · subst e
    cases r; rfl
end N

set_option Elab.async false
set_option linter.all false
set_option maxRecDepth 100000
set_option maxHeartbeats 4000000
namespace N
open PySem PySem.Spec PyProof.Rows L2
/-! ### the end of a law whose defs make lambdas -/
/-- which tables there are: LN, the defs that make lambdas and the names of these -/
def tabsL (LN : List (Str × Str)) (K : PySem.W.Frag) : List (Addr × Str) := LN.filterMap fun x => (PySem.W.tabIn K x.1).map fun p => (p.2, x.2)
def tabsB (LN : List (Str × Str)) (K : PySem.W.Frag) : Bool := (LN.all fun x => match PySem.W.tabIn K x.1 with
    | some p => (K.lookup p.2).isNone
    | none => false) && (tabsL LN K).all fun p => (tabsL LN K).all fun r => !decide (p.1 = r.1) || decide (p.2 = r.2)
/-- where the law is called: what is tracked there -/
def hp0 (K : PySem.W.Frag) (ts : List Addr) (a : Addr) (ob : Obj) (xs : List V) : Hp := fun b => if b ∈ ts then some (.tbl #[]) else if b = a ∧ K.lookup a = none then some (.frz ob (.lst xs)) else none
section
variable {P : Program} {w : World} {K : PySem.W.Frag} {mg mb : Str → Option Value} {CX : CXT} {k : Nat} {fa a : Addr} {cs : List (Addr × Addr)} {fd : FuncData} {x : Str} {sp : Sp} {s₁ : Shared} {vs : List Value} {ns : List Int}
theorem law_callN (KX : K.In s₁.heap) (hns : s₁.heap.Ns mainGlobals mg) (hb : s₁.heap.Ns builtinsNs mb) (hbb : ∀ x : Str, x ≠ "__name__" → mb x = bootBuiltins x) (hlim : s₁.heap.NoLimit) (hg : s₁.gens = #[])
    (hT : ∀ p ∈ cs, s₁.heap.get? p.2 = some { cls := .none, data := .fields #[] }) (nT : ∀ p ∈ cs, K.lookup p.2 = none) (C : ∀ p ∈ cs, PySem.W.CodeHd s₁.heap p.1 p.2)
    (hbm : ∃ (bm : Addr) (ob : Obj), mg "__builtins__" = some (.ref bm) ∧ bm ≠ builtinsNs ∧ s₁.heap.get? bm = some ob ∧ ob.cls = .type "module" ∧ ob.dict = some builtinsNs ∧ ob.data = .plain)
    (ha : s₁.heap.get? a = some { cls := .type "list", data := .seq vs.toArray }) (hi : IntsAre vs ns) (hl : ns.length ≤ sizeLine) (hr : Room k callerA)
    (F : ∀ base : Heap, K.In base → base.Ns mainGlobals mg → (∀ p ∈ cs, LamX.TabB base mg p.1 p.2) → FnOk P w K mg base CX k fa fd [x] sp) (hbind : ∀ (s : Shared) (u : Value), BindsTo s fd ⟨[u], []⟩ [(x, u)])
    (hsp : ∀ H : Hp, (∀ p ∈ cs, H p.2 = some (.tbl #[])) → RolR K H a (ns.map V.int) → sp [.ref a] H (fun v _ => v = .bl true) fun _ _ _ => False)
    (hCX : ∀ H e s', CX [] H s₁ (fun _ _ _ => False) e s' → False) :
    codeAny (model P w) callerA (.call (.ref fa) ⟨[.ref a], []⟩) (fun r s' => r = .ok (.ret (.bool true)) ∧ OldK s₁.heap s'.heap ∧ s'.os = s₁.os ∧ AllBare s'.gens) s₁ := by
  have rv := vals_ints hi
  have lenV := hi.length
  have mT : ∀ {b}, b ∈ cs.map (·.2) → ∃ p ∈ cs, p.2 = b := fun hb => List.mem_map.mp hb
  have tm : ∀ p ∈ cs, p.2 ∈ cs.map (·.2) := fun p hp => List.mem_map.mpr ⟨p, hp, rfl⟩
  have tO : ∀ {b}, b ∈ cs.map (·.2) → s₁.heap.get? b = some { cls := .none, data := .fields #[] } := fun hb => let ⟨p, hp, e⟩ := mT hb; e ▸ hT p hp
  have aT : a ∉ cs.map (·.2) := fun z => by
    have q := (tO z).symm.trans ha
    cases q
  obtain ⟨ob, eob⟩ : ∃ ob : Obj, ob = { cls := .type "list", data := .seq vs.toArray } := ⟨_, rfl⟩
  have ha' : s₁.heap.get? a = some ob := eob ▸ ha
  obtain ⟨H, eH⟩ : ∃ H, H = hp0 K (cs.map (·.2)) a ob (ns.map V.int) := ⟨_, rfl⟩
  have H1 : ∀ p ∈ cs, H p.2 = some (.tbl #[]) := fun p hp => by rw [eH]; exact if_pos (tm p hp)
  -- the three kinds of place
  have kind : ∀ b, H b = none ∨ (b ∈ cs.map (·.2) ∧ H b = some (.tbl #[])) ∨ (b = a ∧ K.lookup a = none ∧ H b = some (.frz ob (.lst (ns.map V.int)))) := fun b => by
    rw [eH]; unfold hp0
    by_cases h1 : b ∈ cs.map (·.2)
    · exact .inr (.inl ⟨h1, if_pos h1⟩)
    · rw [if_neg h1]
      by_cases h2 : b = a ∧ K.lookup a = none
      · exact .inr (.inr ⟨h2.1, h2.2, if_pos h2⟩)
      · exact .inl (if_neg h2)
  have hS : RolR K H a (ns.map V.int) := by
    cases hk : K.lookup a with
    | some o =>
      have e := KX a o hk
      rw [ha] at e
      cases e
      exact .inr ⟨_, vs.toArray, _, hk, rfl, rfl, rfl, by rw [List.size_toArray, lenV]; exact hl, by simpa using rv⟩
    | none => exact .inl ⟨ob, by rw [eH]; unfold hp0; rw [if_neg aT, if_pos ⟨rfl, hk⟩]⟩
  have hok : HOk P w H s₁.heap := fun b u e => by
    rcases kind b with z | ⟨z1, z2⟩ | ⟨z1, _, z2⟩
    · rw [e] at z; cases z
    · rw [e] at z2; cases z2; exact tO z1
    · rw [e] at z2; cases z2
      subst z1; subst eob
      exact ⟨ha, by rw [List.length_map]; exact hl, vs, _, rv, ha⟩
  -- what is no list and no table stays in the base
  have off : ∀ {b : Addr} {o : Obj}, s₁.heap.get? b = some o → (∀ xs n, o.data ≠ .seq xs n) → o.data ≠ .fields #[] → H b = none := fun {b o} e h1 h2 => by
    rcases kind b with z | ⟨z1, z2⟩ | ⟨z1, _, z2⟩
    · exact z
    · rw [tO z1] at e; cases e; exact (h2 rfl).elim
    · rw [z1, ha] at e; cases e; exact (h1 _ _ rfl).elim
  have base_of : ∀ {b : Addr} {o : Obj}, s₁.heap.get? b = some o → (∀ xs n, o.data ≠ .seq xs n) → o.data ≠ .fields #[] → (hidT s₁.heap H).get? b = some o := fun e h1 h2 => hidT_get e (off e h1 h2)
  have nsK : ∀ {b : Addr} {m : Str → Option Value}, s₁.heap.Ns b m → (hidT s₁.heap H).Ns b m := fun {b m} ⟨o, es, ep, e, d, r⟩ => ⟨o, es, ep, base_of e (fun xs n z => by rw [d] at z; cases z) (fun z => by rw [d] at z; cases z), d, r⟩
  have hKb : K.In (hidT s₁.heap H) := fun b o e => hidT_get (KX b o e) (by
    rcases kind b with z | ⟨z1, z2⟩ | ⟨z1, z2, _⟩
    · exact z
    · obtain ⟨p, hp, ep⟩ := mT z1
      rw [← ep, nT p hp] at e; cases e
    · rw [z1, z2] at e; cases e)
  have hM : L2.Mod K mg (hidT s₁.heap H) := ⟨hKb, nsK hns, ⟨mb, nsK hb, hbb⟩, let ⟨mc, h1, h2⟩ := hlim; ⟨mc, nsK h1, h2⟩⟩
  have TB : ∀ p ∈ cs, LamX.TabB (hidT s₁.heap H) mg p.1 p.2 := fun p hp => by
    have hTp := hT p hp
    refine ⟨?_, ?_, fun z => ?_⟩
    · obtain ⟨o, us, file, tf, flags, tg, inF, text, tt, e1, r1, r2, r3, rr⟩ := C p hp
      exact ⟨o, us, file, tf, flags, tg, inF, text, tt, base_of e1 (fun xs n z => by rw [r2] at z; cases z) (fun z => by rw [r2] at z; cases z; simp at r3), r1, r2, r3, rr⟩
    · obtain ⟨bm, om, b1, b2, b3, b4, b5, b6⟩ := hbm
      have nG : bm ≠ mainGlobals := fun q => by
        obtain ⟨o, es, ep, e, hd, _⟩ := hns
        rw [q, e] at b3
        cases b3
        rw [hd] at b6; cases b6
      have nP : bm ≠ p.2 := fun q => by
        rw [q, hTp] at b3
        cases b3; cases b6
      exact ⟨bm, om, b1, b2, nG, nP, base_of b3 (fun xs n z => by rw [b6] at z; cases z) (fun z => by rw [b6] at z; cases z), b4, b5, b6⟩
    · obtain ⟨o, es, ep, e, hd, _⟩ := hns
      rw [z, hTp] at e
      cases e; cases hd
  have e0 : Env0 P w K mg (hidT s₁.heap H) callerA [] s₁ H := ⟨rfl, hM, fun b o e => of_hidT e, Nat.le_of_eq (hidT_size _ _), trivial, fun b hb => absurd (show b ∈ ([] : List Addr) from hb) (by simp), hok, .of_eq hg⟩
  refine codeAny_mono ((F _ hKb (nsK hns) TB).run callerA [] s₁ H ⟨[.ref a], []⟩ [.ref a] [.ref a] _ _ hr e0 (hbind s₁ (.ref a)) (.cons rfl .nil) (hsp H H1 hS)) fun r s' h => ?_
  cases r with
  | error e => exact (hCX H e s' h).elim
  | ok fl =>
    cases fl with
    | next => exact False.elim h
    | brk => exact False.elim h
    | cont => exact False.elim h
    | ret u =>
      obtain ⟨v, H', os, bare, un, hok', r', q⟩ := h
      have q' : v = .bl true := q
      subst q'
      obtain rfl : u = Value.bool true := r'
      -- what becomes of each object
      have each : ∀ b o, s₁.heap.get? b = some o → s'.heap.get? b = some o ∨ ∃ p ∈ cs, p.2 = b ∧ ∃ more : Array Value, s'.heap.get? b = some { cls := .none, data := .fields more } := fun b o e => by
        rcases kind b with z | ⟨z1, z2⟩ | ⟨z1, _, z2⟩
        · exact .inl (un.keep b o e z (by intro z; exact absurd (show b ∈ ([] : List Addr) from z) (by simp)) (by simp))
        · obtain ⟨p, hp, ep⟩ := mT z1
          obtain ⟨more, zz⟩ := un.tbls b #[] z2
          exact .inr ⟨p, hp, ep, _, hok' b _ zz⟩
        · have z3 := un.frzs b ob _ z2
          obtain ⟨e1, _⟩ := hok b _ z2
          obtain ⟨e2, _⟩ := hok' b _ z3
          rw [e] at e1; cases e1
          exact .inl e2
      refine ⟨rfl, ⟨fun b o e => ?_, fun b o e => ?_⟩, os, bare⟩
      · rcases each b o e with z | ⟨p, hp, ep, more, z⟩
        · exact .inl z
        · subst ep
          rw [hT p hp] at e
          cases e
          exact .inr (.inl ⟨((C p hp).tab (hT p hp)).isCodeTable, rfl, #[], more, rfl, by rw [Array.empty_append]; exact z⟩)
      · rcases each b o e with z | ⟨_, _, _, more, z⟩
        · exact ⟨o, z⟩
        · exact ⟨_, z⟩
end
theorem tabsB_lt {LN : List (Str × Str)} {K : PySem.W.Frag} (h : tabsB LN K = true) : ∀ x ∈ LN, ∃ c P, PySem.W.tabIn K x.1 = some (c, P) ∧ K.lookup P = none ∧ (P, x.2) ∈ tabsL LN K ∧ ∀ p ∈ tabsL LN K, p.1 = P → p.2 = x.2 := fun x hx => by
  unfold tabsB at h
  rw [Bool.and_eq_true] at h
  obtain ⟨h1, h2⟩ := h
  have q := List.all_eq_true.mp h1 x hx
  split at q
  · rename_i p e
    obtain ⟨c, P⟩ := p
    have m : (P, x.2) ∈ tabsL LN K := List.mem_filterMap.mpr ⟨x, hx, by rw [e]; rfl⟩
    refine ⟨c, P, e, by simpa using q, m, fun p hp ep => ?_⟩
    have := List.all_eq_true.mp (List.all_eq_true.mp h2 p hp) _ m
    simp only [Bool.or_eq_true, Bool.not_eq_true', decide_eq_false_iff_not, decide_eq_true_eq] at this
    rcases this with z | z
    · exact absurd ep z
    · exact z
  · cases q
theorem walk_ofTN {l : PySem.W.OpenLaw} {k : Nat} {q : Program} {loose : List Str} {XP : (Str → Option Value) → Heap → Prop} {YP : World → Heap → Prop} {d : DefRec} {x : Str} {sp : NSp} (LN : List (Str × Str))
    (hn : l.most = some 63) (hdf : d.params.defaults = []) (hr : Room k callerA) (hrec : (LN.all fun x => ((recsOf q).find? fun e => e.name == x.1).isSome) = true)
    (plain : ∀ ns : List Int, ns.length ≤ 63 → sp [.rol (ns.map D.int)] (fun _ => none) (fun d _ => d = .bl true) (fun _ _ _ => False))
    (F : ∀ (w : World) (mg : Str → Option Value) (fa : Addr) (h : Heap), YP w h → h.Ns mainGlobals mg → mg d.name = some (.ref fa) →
      ∃ (K : PySem.W.Frag) (fd : FuncData), K.In h ∧ tabsB LN K = true ∧ (∀ (s : Shared) (u : Value), BindsTo s fd ⟨[u], []⟩ [(x, u)]) ∧
        ∀ base : Heap, K.In base → base.Ns mainGlobals mg → (∀ x ∈ LN, ∃ c P, PySem.W.tabIn K x.1 = some (c, P) ∧ LamX.TabB base mg c P ∧ (P, x.2) ∈ tabsL LN K ∧ ∀ p ∈ tabsL LN K, p.1 = P → p.2 = x.2) →
          FnOk l.prog w K mg base (L2.CX l.prog w) k fa fd [x] (@lSp ⟨tabsL LN K⟩ K 1 sp)) :
    PySem.W.WalkO q loose XP YP l.row.toRowW d [] (fun f vs => PySem.call f vs) := by
  refine Att.attach_call hn hdf fun w s₀ s₁ mg mb fa o pm cd doc a vs ns G Y ho hd hcd hmg hobj hints hlen hg => ?_
  obtain ⟨K, fd, KX, tb, hb, hF⟩ := F w mg fa _ Y G.T.g hmg
  have lt := tabsB_lt tb
  letI : TabList := ⟨tabsL LN K⟩
  have look : ∀ x ∈ LN, ∀ c P, PySem.W.tabIn K x.1 = some (c, P) → PySem.W.CodeHd s₁.heap c P ∧ s₁.heap.get? P = some (PySem.W.tabObj #[]) := fun x hx c P e => by
    have := List.all_eq_true.mp hrec x hx
    obtain ⟨dd, e2⟩ := Option.isSome_iff_exists.mp this
    exact PySem.W.tab_of G.T KX e2 e
  have cm : ∀ p ∈ LN.filterMap fun x => PySem.W.tabIn K x.1, ∃ x ∈ LN, PySem.W.tabIn K x.1 = some p := fun p hp => by
    obtain ⟨x, hx, e⟩ := List.mem_filterMap.mp hp
    exact ⟨x, hx, e⟩
  refine law_callN (cs := LN.filterMap fun x => PySem.W.tabIn K x.1) (sp := lSp K 1 sp) KX G.T.g G.T.b G.T.builtins G.T.nolimit hg (fun p hp => ?_) (fun p hp => ?_) (fun p hp => ?_) G.T.bmain hobj hints (Nat.le_trans hlen (by decide)) hr (fun base b1 b2 b3 => hF base b1 b2 fun x hx => ?_) hb (fun H hH hS => ?_) fun H e s' => cx_none
  · obtain ⟨x, hx, e⟩ := cm p hp
    exact (look x hx p.1 p.2 e).2
  · obtain ⟨x, hx, e⟩ := cm p hp
    obtain ⟨c, P, e2, e3, _⟩ := lt x hx
    rw [e] at e2; cases e2
    exact e3
  · obtain ⟨x, hx, e⟩ := cm p hp
    exact (look x hx p.1 p.2 e).1
  · obtain ⟨c, P, e2, e3, e4⟩ := lt x hx
    exact ⟨c, P, e2, b3 _ (List.mem_filterMap.mpr ⟨x, hx, e2⟩), e4⟩
  · refine ⟨[.rol (ns.map D.int)], fun _ => none, _, _, rfl, .cons (.rol (vs := ns.map V.int) hS VRs.ints) .nil, fun a o e => (by cases e), fun p hp => ?_, plain ns hlen, fun d S' v H' _ _ r e => ?_, fun _ _ _ _ _ _ z => z⟩
    · obtain ⟨x, hx, e⟩ := List.mem_filterMap.mp (show p ∈ tabsL LN K from hp)
      simp only [Option.map_eq_some_iff] at e
      obtain ⟨cp, e1, rfl⟩ := e
      exact LamX.TabS.nil (hH cp (List.mem_filterMap.mpr ⟨x, hx, e1⟩))
    · subst e
      cases r; rfl
end N

set_option linter.all false
set_option maxRecDepth 100000
set_option maxHeartbeats 4000000
namespace N
open PySem L2
/-! ### for the plain law: words about stores -/
theorem ofString_inj {a b : String} : (Str.ofString a = Str.ofString b) = (a = b) := by
  refine propext ⟨fun h => ?_, fun h => by rw [h]⟩
  rw [Str.ofString_eq_toList, Str.ofString_eq_toList] at h
  have h1 : (a.toList.map Char.toNat).toArray = (b.toList.map Char.toNat).toArray := by injection h
  have h2 : a.toList.map Char.toNat = b.toList.map Char.toNat := by injection h1
  have inj : ∀ x y : Char, x.toNat = y.toNat → x = y := fun x y e => Char.toNat_inj.mp e
  have h3 : a.toList = b.toList := by
    have : ∀ (l m : List Char), l.map Char.toNat = m.map Char.toNat → l = m := by
      intro l
      induction l with
      | nil => intro m e; cases m with | nil => rfl | cons _ _ => cases e
      | cons x l ih =>
        intro m e
        cases m with
        | nil => cases e
        | cons y m =>
          simp only [List.map_cons, List.cons.injEq] at e
          rw [inj _ _ e.1, ih m e.2]
    exact this _ _ h2
  exact String.toList_inj.mp h3
theorem ofString_beq {a b : String} : (Str.ofString a == Str.ofString b) = (a == b) := by
  by_cases h : a = b
  · subst h; simp
  · have : ¬ Str.ofString a = Str.ofString b := by rw [ofString_inj]; exact h
    rw [beq_eq_false_iff_ne.mpr h, beq_eq_false_iff_ne.mpr this]
theorem put_if {S : Sto} {a b : Addr} {o : Ob} : put S a o b = if b = a then some o else S b := rfl
/-- all but what stands at A is as it was -/
def Upd (A : List Addr) (S S' : Sto) : Prop := ∀ a o, a ∉ A → S a = some o → S' a = some o
theorem Upd.refl {A : List Addr} {S : Sto} : Upd A S S := fun _ _ _ h => h
theorem Upd.trans {A : List Addr} {S S1 S2 : Sto} (h : Upd A S S1) (k : Upd A S1 S2) : Upd A S S2 := fun a o n e => k a o n (h a o n e)
theorem Upd.mono {A B : List Addr} {S S' : Sto} (h : Upd A S S') (k : ∀ a ∈ A, a ∈ B) : Upd B S S' := fun a o n e => h a o (fun z => n (k a z)) e
theorem Upd.new {A : List Addr} {S : Sto} {p : Addr} {o : Ob} (h : S p = none) : Upd A S (put S p o) := fun a u _ e => by
  rw [put_ne fun z => by rw [z, h] at e; cases e]; exact e
theorem Upd.at {A : List Addr} {S : Sto} {p : Addr} {o : Ob} (h : p ∈ A) : Upd A S (put S p o) := fun a u n e => by
  rw [put_ne fun z => n (by rw [z]; exact h)]; exact e
/-- nothing but new things -/
abbrev Keeps (S S' : Sto) : Prop := Upd [] S S'
theorem Keeps.up {A : List Addr} {S S' : Sto} (h : Keeps S S') : Upd A S S' := h.mono fun _ z => by cases z
theorem Upd.get {A : List Addr} {S S' : Sto} {a : Addr} {o : Ob} (h : Upd A S S') (e : S a = some o) (n : a ∉ A) : S' a = some o := h a o n e
theorem Upd.none {S S' : Sto} {a : Addr} (h : Keeps S S') (e : S' a = none) : S a = none := by
  cases q : S a with
  | none => rfl
  | some o => rw [h a o (fun z => by cases z) q] at e; cases e

theorem isi_of {CL : List Str} {d c : D} {t u : Tg} {S : Sto} {Q : NQ} {r : Bool} (h1 : tgOf S d = some t) (h2 : clOf c = some u) (h3 : (T1 CL).contains t = true) (h4 : (T2 CL).contains u = true) (h5 : isT t u = r) : nIsi CL [d, c] S Q = Q (.bl r) S := by
  unfold nIsi
  simp only [h1, h2, h3, h4, h5, true_and]
theorem isi_non_int {CL : List Str}  (S : Sto) (Q : NQ) : nIsi CL [.non, .ty "int"] S Q = Q (.bl false) S := isi_of (t := .ty "NoneType") rfl rfl (by simp [T1]) (by simp [T2]) rfl
theorem isi_non_bool {CL : List Str}  (S : Sto) (Q : NQ) : nIsi CL [.non, .ty "bool"] S Q = Q (.bl false) S := isi_of (t := .ty "NoneType") rfl rfl (by simp [T1]) (by simp [T2]) rfl
theorem isi_non_str {CL : List Str}  (S : Sto) (Q : NQ) : nIsi CL [.non, .ty "str"] S Q = Q (.bl false) S := isi_of (t := .ty "NoneType") rfl rfl (by simp [T1]) (by simp [T2]) rfl
theorem isi_non_tuple {CL : List Str}  (S : Sto) (Q : NQ) : nIsi CL [.non, .ty "tuple"] S Q = Q (.bl false) S := isi_of (t := .ty "NoneType") rfl rfl (by simp [T1]) (by simp [T2]) rfl
theorem isi_bl_int {CL : List Str} (b : Bool) (S : Sto) (Q : NQ) : nIsi CL [.bl b, .ty "int"] S Q = Q (.bl true) S := isi_of (t := .ty "bool") rfl rfl (by simp [T1]) (by simp [T2]) rfl
theorem isi_bl_bool {CL : List Str} (b : Bool) (S : Sto) (Q : NQ) : nIsi CL [.bl b, .ty "bool"] S Q = Q (.bl true) S := isi_of (t := .ty "bool") rfl rfl (by simp [T1]) (by simp [T2]) rfl
theorem isi_bl_str {CL : List Str} (b : Bool) (S : Sto) (Q : NQ) : nIsi CL [.bl b, .ty "str"] S Q = Q (.bl false) S := isi_of (t := .ty "bool") rfl rfl (by simp [T1]) (by simp [T2]) rfl
theorem isi_bl_tuple {CL : List Str} (b : Bool) (S : Sto) (Q : NQ) : nIsi CL [.bl b, .ty "tuple"] S Q = Q (.bl false) S := isi_of (t := .ty "bool") rfl rfl (by simp [T1]) (by simp [T2]) rfl
theorem isi_int_int {CL : List Str} (i : Int) (S : Sto) (Q : NQ) : nIsi CL [.int i, .ty "int"] S Q = Q (.bl true) S := isi_of (t := .ty "int") rfl rfl (by simp [T1]) (by simp [T2]) rfl
theorem isi_int_bool {CL : List Str} (i : Int) (S : Sto) (Q : NQ) : nIsi CL [.int i, .ty "bool"] S Q = Q (.bl false) S := isi_of (t := .ty "int") rfl rfl (by simp [T1]) (by simp [T2]) rfl
theorem isi_int_str {CL : List Str} (i : Int) (S : Sto) (Q : NQ) : nIsi CL [.int i, .ty "str"] S Q = Q (.bl false) S := isi_of (t := .ty "int") rfl rfl (by simp [T1]) (by simp [T2]) rfl
theorem isi_int_tuple {CL : List Str} (i : Int) (S : Sto) (Q : NQ) : nIsi CL [.int i, .ty "tuple"] S Q = Q (.bl false) S := isi_of (t := .ty "int") rfl rfl (by simp [T1]) (by simp [T2]) rfl
theorem isi_str_int {CL : List Str} (x : Str) (S : Sto) (Q : NQ) : nIsi CL [.str x, .ty "int"] S Q = Q (.bl false) S := isi_of (t := .ty "str") rfl rfl (by simp [T1]) (by simp [T2]) rfl
theorem isi_str_bool {CL : List Str} (x : Str) (S : Sto) (Q : NQ) : nIsi CL [.str x, .ty "bool"] S Q = Q (.bl false) S := isi_of (t := .ty "str") rfl rfl (by simp [T1]) (by simp [T2]) rfl
theorem isi_str_str {CL : List Str} (x : Str) (S : Sto) (Q : NQ) : nIsi CL [.str x, .ty "str"] S Q = Q (.bl true) S := isi_of (t := .ty "str") rfl rfl (by simp [T1]) (by simp [T2]) rfl
theorem isi_str_tuple {CL : List Str} (x : Str) (S : Sto) (Q : NQ) : nIsi CL [.str x, .ty "tuple"] S Q = Q (.bl false) S := isi_of (t := .ty "str") rfl rfl (by simp [T1]) (by simp [T2]) rfl
theorem isi_tup_int {CL : List Str} (ds : List D) (S : Sto) (Q : NQ) : nIsi CL [.tup ds, .ty "int"] S Q = Q (.bl false) S := isi_of (t := .ty "tuple") rfl rfl (by simp [T1]) (by simp [T2]) rfl
theorem isi_tup_bool {CL : List Str} (ds : List D) (S : Sto) (Q : NQ) : nIsi CL [.tup ds, .ty "bool"] S Q = Q (.bl false) S := isi_of (t := .ty "tuple") rfl rfl (by simp [T1]) (by simp [T2]) rfl
theorem isi_tup_str {CL : List Str} (ds : List D) (S : Sto) (Q : NQ) : nIsi CL [.tup ds, .ty "str"] S Q = Q (.bl false) S := isi_of (t := .ty "tuple") rfl rfl (by simp [T1]) (by simp [T2]) rfl
theorem isi_tup_tuple {CL : List Str} (ds : List D) (S : Sto) (Q : NQ) : nIsi CL [.tup ds, .ty "tuple"] S Q = Q (.bl true) S := isi_of (t := .ty "tuple") rfl rfl (by simp [T1]) (by simp [T2]) rfl
theorem isi_rol_int {CL : List Str} (ds : List D) (S : Sto) (Q : NQ) : nIsi CL [.rol ds, .ty "int"] S Q = Q (.bl false) S := isi_of (t := .ty "list") rfl rfl (by simp [T1]) (by simp [T2]) rfl
theorem isi_rol_bool {CL : List Str} (ds : List D) (S : Sto) (Q : NQ) : nIsi CL [.rol ds, .ty "bool"] S Q = Q (.bl false) S := isi_of (t := .ty "list") rfl rfl (by simp [T1]) (by simp [T2]) rfl
theorem isi_rol_str {CL : List Str} (ds : List D) (S : Sto) (Q : NQ) : nIsi CL [.rol ds, .ty "str"] S Q = Q (.bl false) S := isi_of (t := .ty "list") rfl rfl (by simp [T1]) (by simp [T2]) rfl
theorem isi_rol_tuple {CL : List Str} (ds : List D) (S : Sto) (Q : NQ) : nIsi CL [.rol ds, .ty "tuple"] S Q = Q (.bl false) S := isi_of (t := .ty "list") rfl rfl (by simp [T1]) (by simp [T2]) rfl
theorem isi_lst_int {CL : List Str} {a : Addr} (ds : List D) {S : Sto} (Q : NQ) (h : S a = some (.lst ds)) : nIsi CL [.ref a, .ty "int"] S Q = Q (.bl false) S := isi_of (t := .ty "list") (by simp only [tgOf, h]) rfl (by simp [T1]) (by simp [T2]) rfl
theorem isi_lst_bool {CL : List Str} {a : Addr} (ds : List D) {S : Sto} (Q : NQ) (h : S a = some (.lst ds)) : nIsi CL [.ref a, .ty "bool"] S Q = Q (.bl false) S := isi_of (t := .ty "list") (by simp only [tgOf, h]) rfl (by simp [T1]) (by simp [T2]) rfl
theorem isi_lst_str {CL : List Str} {a : Addr} (ds : List D) {S : Sto} (Q : NQ) (h : S a = some (.lst ds)) : nIsi CL [.ref a, .ty "str"] S Q = Q (.bl false) S := isi_of (t := .ty "list") (by simp only [tgOf, h]) rfl (by simp [T1]) (by simp [T2]) rfl
theorem isi_lst_tuple {CL : List Str} {a : Addr} (ds : List D) {S : Sto} (Q : NQ) (h : S a = some (.lst ds)) : nIsi CL [.ref a, .ty "tuple"] S Q = Q (.bl false) S := isi_of (t := .ty "list") (by simp only [tgOf, h]) rfl (by simp [T1]) (by simp [T2]) rfl
theorem isi_dic_int {CL : List Str} {a : Addr} (ds : List (Key × D)) {S : Sto} (Q : NQ) (h : S a = some (.dic ds)) : nIsi CL [.ref a, .ty "int"] S Q = Q (.bl false) S := isi_of (t := .ty "dict") (by simp only [tgOf, h]) rfl (by simp [T1]) (by simp [T2]) rfl
theorem isi_dic_bool {CL : List Str} {a : Addr} (ds : List (Key × D)) {S : Sto} (Q : NQ) (h : S a = some (.dic ds)) : nIsi CL [.ref a, .ty "bool"] S Q = Q (.bl false) S := isi_of (t := .ty "dict") (by simp only [tgOf, h]) rfl (by simp [T1]) (by simp [T2]) rfl
theorem isi_dic_str {CL : List Str} {a : Addr} (ds : List (Key × D)) {S : Sto} (Q : NQ) (h : S a = some (.dic ds)) : nIsi CL [.ref a, .ty "str"] S Q = Q (.bl false) S := isi_of (t := .ty "dict") (by simp only [tgOf, h]) rfl (by simp [T1]) (by simp [T2]) rfl
theorem isi_dic_tuple {CL : List Str} {a : Addr} (ds : List (Key × D)) {S : Sto} (Q : NQ) (h : S a = some (.dic ds)) : nIsi CL [.ref a, .ty "tuple"] S Q = Q (.bl false) S := isi_of (t := .ty "dict") (by simp only [tgOf, h]) rfl (by simp [T1]) (by simp [T2]) rfl
theorem isi_exc {CL : List Str} {a : Addr} {c x : Str} {S : Sto} (Q : NQ) (h : S a = some (.exc c none)) (h3 : (T1 CL).contains (.cls c) = true) (h4 : (T2 CL).contains (.cls x) = true) : nIsi CL [.ref a, .cls x] S Q = Q (.bl (isT (.cls c) (.cls x))) S := isi_of (t := .cls c) (by simp only [tgOf, h]) rfl h3 h4 rfl
theorem isi_excV {CL : List Str} {a : Addr} {c : Str} {S : Sto} (Q : NQ) (h : S a = some (.exc c none)) (h3 : (T1 CL).contains (.cls c) = true) : nIsi CL [.ref a, .ty "ValueError"] S Q = Q (.bl true) S := isi_of (t := .cls c) (by simp only [tgOf, h]) rfl h3 (by simp [T2]) rfl
theorem isi_nonC {CL : List Str} {x : Str} {S : Sto} (Q : NQ) (h4 : (T2 CL).contains (.cls x) = true) : nIsi CL [.non, .cls x] S Q = Q (.bl false) S := isi_of (t := .ty "NoneType") rfl rfl (by simp [T1]) h4 rfl
theorem isi_nonV {CL : List Str} {S : Sto} (Q : NQ) : nIsi CL [.non, .ty "ValueError"] S Q = Q (.bl false) S := isi_of (t := .ty "NoneType") rfl rfl (by simp [T1]) (by simp [T2]) rfl
theorem atI_nat' {α : Type} {xs : List α} {i : Int} (h : 0 ≤ i) : atI xs i = xs[i.toNat]? := by
  unfold atI ixN
  rw [if_pos h]
  by_cases h2 : i < xs.length
  · rw [if_pos h2]; rfl
  · rw [if_neg h2, List.getElem?_eq_none (by omega)]; rfl
theorem atI_0 {α : Type} (a : α) (r : List α) : atI (a :: r) 0 = some a := by rw [atI_nat' (by decide)]; rfl
theorem atI_1 {α : Type} (a b : α) (r : List α) : atI (a :: b :: r) 1 = some b := by rw [atI_nat' (by decide)]; rfl
theorem atI_2 {α : Type} (a b c : α) (r : List α) : atI (a :: b :: c :: r) 2 = some c := by rw [atI_nat' (by decide)]; rfl
theorem atI_3 {α : Type} (a b c d : α) (r : List α) : atI (a :: b :: c :: d :: r) 3 = some d := by rw [atI_nat' (by decide)]; rfl
theorem atI_4 {α : Type} (a b c d e : α) (r : List α) : atI (a :: b :: c :: d :: e :: r) 4 = some e := by rw [atI_nat' (by decide)]; rfl
theorem cut_13 (a b c : D) (r : List D) : cutD (a :: b :: c :: r) (some 1) (some 3) = [b, c] := by
  unfold cutD
  have h1 : HT.sIx (a :: b :: c :: r).length 0 (some 1) = 1 := (HT.sIx_nat _ _ 1).trans (Nat.min_eq_left (by simp only [List.length_cons]; omega))
  have h2 : HT.sIx (a :: b :: c :: r).length (a :: b :: c :: r).length (some 3) = 3 := (HT.sIx_nat _ _ 3).trans (Nat.min_eq_left (by simp only [List.length_cons]; omega))
  rw [h1, h2]; rfl
theorem cut_4 (a b c d : D) (r : List D) : cutD (a :: b :: c :: d :: r) (some 4) none = r := by
  unfold cutD
  have h1 : HT.sIx (a :: b :: c :: d :: r).length 0 (some 4) = 4 := (HT.sIx_nat _ _ 4).trans (Nat.min_eq_left (by simp only [List.length_cons]; omega))
  rw [h1, HT.sIx_none]
  simp
theorem cut_3 (a b c : D) (r : List D) : cutD (a :: b :: c :: r) (some 3) none = r := by
  unfold cutD
  have h1 : HT.sIx (a :: b :: c :: r).length 0 (some 3) = 3 := (HT.sIx_nat _ _ 3).trans (Nat.min_eq_left (by simp only [List.length_cons]; omega))
  rw [h1, HT.sIx_none]
  simp
theorem len_lit (n : Nat) : ((OfNat.ofNat n : Nat) : Int) = (OfNat.ofNat n : Int) := rfl
end N

set_option linter.all false
set_option maxRecDepth 100000
namespace N
open PySem L2
/-! simp must not look into what comes after a call: the tag makes it fixed -/
structure TgQ (Q : NQ) (E : Str → Option Addr → Sto → Prop) : Type where
def runF (sp : NSp) (ds : List D) (S : Sto) (Q : NQ) (E : Str → Option Addr → Sto → Prop) (_ : TgQ Q E) : Prop := sp ds S Q E
structure TgZ (g : NG) (b : NS) (Z : NEnds) : Type where
def runL (g : NG) (b : NS) (Z : NEnds) (kp : Keep) (ds : List D) (e : Env) (S : Sto) (_ : TgZ g b Z) : Prop := loopL g b Z kp ds e S
structure TgW (c : NT) (b : NS) (Z : NEnds) : Type where
def runW (c : NT) (b : NS) (Z : NEnds) (e : Env) (S : Sto) (_ : TgW c b Z) : Prop := ∃ n, whileN c b Z n e S
theorem u_mOp (n : N2) (ma mb : NE) (e : Env) (S : Sto) (Q : NQ) : mOp n ma mb e S Q = (ma e S fun x S1 => mb e S1 fun y S2 => n x y S2 Q) := id rfl
theorem u_mTst (m : NE) (e : Env) (S : Sto) (Q : Bool → Sto → Prop) : mTst m e S Q = (m e S fun d S' => match d with
  | .bl k => Q k S'
  | _ => False) := id rfl
theorem u_mVar (i : Nat) (e : Env) (S : Sto) (Q : NQ) : mVar i e S Q = (match nth e i with
  | some d => Q d S
  | none => False) := id rfl
theorem u_mC (d : D) (u0_ : Env) (S : Sto) (Q : NQ) : mC d u0_ S Q = (Q d S) := id rfl
theorem u_mAnd (t u : NT) (e : Env) (S : Sto) (Q : Bool → Sto → Prop) : mAnd t u e S Q = (t e S fun c S1 => match c with
  | true => u e S1 Q
  | false => Q false S1) := id rfl
theorem u_mOr (t u : NT) (e : Env) (S : Sto) (Q : Bool → Sto → Prop) : mOr t u e S Q = (t e S fun c S1 => match c with
  | true => Q true S1
  | false => u e S1 Q) := id rfl
theorem u_mNot (t : NT) (e : Env) (S : Sto) (Q : Bool → Sto → Prop) : mNot t e S Q = (t e S fun c S1 => Q (!c) S1) := id rfl
theorem u_mAndV (m n : NE) (e : Env) (S : Sto) (Q : NQ) : mAndV m n e S Q = (m e S fun d S1 => match d with
  | .bl true => n e S1 Q
  | .bl false => Q (.bl false) S1
  | _ => False) := id rfl
theorem u_mOrV (m n : NE) (e : Env) (S : Sto) (Q : NQ) : mOrV m n e S Q = (m e S fun d S1 => match d with
  | .bl true => Q (.bl true) S1
  | .bl false => n e S1 Q
  | _ => False) := id rfl
theorem u_mNotV (m : NE) (e : Env) (S : Sto) (Q : NQ) : mNotV m e S Q = (m e S fun d S1 => match d with
  | .bl k => Q (.bl (!k)) S1
  | _ => False) := id rfl
theorem u_mIf (t : NT) (m n : NE) (e : Env) (S : Sto) (Q : NQ) : mIf t m n e S Q = (t e S fun c S1 => match c with
  | true => m e S1 Q
  | false => n e S1 Q) := id rfl
theorem u_mChain (n n' : N2) (ma mb mc : NE) (e : Env) (S : Sto) (Q : NQ) : mChain n n' ma mb mc e S Q = (ma e S fun x S1 => mb e S1 fun y S2 => n x y S2 fun z S3 => match z with
  | .bl true => mc e S3 fun u S4 => n' y u S4 Q
  | .bl false => Q (.bl false) S3
  | _ => False) := id rfl
theorem u_mNil (u0_ : Env) (S : Sto) (Q : List D → Sto → Prop) : mNil  u0_ S Q = (Q [] S) := id rfl
theorem u_mCons (m : NE) (r : NA) (e : Env) (S : Sto) (Q : List D → Sto → Prop) : mCons m r e S Q = (m e S fun x S1 => r e S1 fun xs S2 => Q (x :: xs) S2) := id rfl
theorem u_mTup (r : NA) (e : Env) (S : Sto) (Q : NQ) : mTup r e S Q = (r e S fun ds S1 => ds.length ≤ sizeLine ∧ Q (.tup ds) S1) := id rfl
theorem u_mLst (r : NA) (e : Env) (S : Sto) (Q : NQ) : mLst r e S Q = (r e S fun ds S1 => ds.length ≤ sizeLine ∧ ∀ p, S1 p = none → Q (.ref p) (put S1 p (.lst ds))) := id rfl
theorem u_mDic0 (u0_ : Env) (S : Sto) (Q : NQ) : mDic0  u0_ S Q = (∀ p, S p = none → Q (.ref p) (put S p (.dic []))) := id rfl
theorem u_nAdd (x : D) (y : D) (S : Sto) (Q : NQ) : nAdd  x y S Q = (match x, y with
  | .int i, .int j => Q (.int (i + j)) S
  | .str a, .str b => a.length + b.length ≤ sizeLine ∧ Q (.str (a ++ b)) S
  | .tup a, .tup b => a.length + b.length ≤ sizeLine ∧ Q (.tup (a ++ b)) S
  | .ref a, .ref b => (match S a, S b with
    | some (.lst xs), some (.lst ys) => xs.length + ys.length ≤ sizeLine ∧ ∀ p, S p = none → Q (.ref p) (put S p (.lst (xs ++ ys)))
    | _, _ => False)
  | _, _ => False) := id rfl
theorem u_nInt (C : Int → Int → Prop) (g : Int → Int → D) (x : D) (y : D) (S : Sto) (Q : NQ) : nInt C g x y S Q = (match x, y with
  | .int i, .int j => C i j ∧ Q (g i j) S
  | _, _ => False) := id rfl
theorem u_nInt0 (g : Int → Int → D) (x : D) (y : D) (S : Sto) (Q : NQ) : nInt0 g x y S Q = (match x, y with
  | .int i, .int j => Q (g i j) S
  | _, _ => False) := id rfl
theorem u_nIsN (x : D) (y : D) (S : Sto) (Q : NQ) : nIsN  x y S Q = (match y with
  | .non => Q (.bl (isNonD x)) S
  | _ => False) := id rfl
theorem u_nNotN (x : D) (y : D) (S : Sto) (Q : NQ) : nNotN  x y S Q = (match y with
  | .non => Q (.bl (!isNonD x)) S
  | _ => False) := id rfl
theorem u_nEq (x : D) (y : D) (S : Sto) (Q : NQ) : nEq  x y S Q = (match eqT S x y with
  | some b => Q (.bl b) S
  | none => False) := id rfl
theorem u_nNe (x : D) (y : D) (S : Sto) (Q : NQ) : nNe  x y S Q = (match eqT S x y with
  | some b => Q (.bl (!b)) S
  | none => False) := id rfl
theorem u_nIn (x : D) (y : D) (S : Sto) (Q : NQ) : nIn  x y S Q = (match seqOf S y with
  | some ds => flatD x = true ∧ ds.all flatD = true ∧ Q (.bl (ds.any fun d => eqF d x)) S
  | none => match dicOf S y with
    | some kvs => (match keyD x with
      | some k => Q (.bl (dget kvs k).isSome) S
      | none => False)
    | none => match x, y with
      | .str c, .str z => c.cps.size = 1 ∧ Q (.bl (decide (c.cps.getD 0 0 ∈ z.cps.toList))) S
      | _, _ => False) := id rfl
theorem u_nNin (x : D) (y : D) (S : Sto) (Q : NQ) : nNin  x y S Q = (nIn x y S fun d S' => match d with
  | .bl b => Q (.bl (!b)) S'
  | _ => False) := id rfl
theorem u_nIx (x : D) (y : D) (S : Sto) (Q : NQ) : nIx  x y S Q = (match seqOf S x, y with
  | some ds, .int i => (match L2.atI ds i with
    | some d => Q d S
    | none => False)
  | _, _ => match dicOf S x, keyD y with
    | some kvs, some k => (match dget kvs k with
      | some d => Q d S
      | none => False)
    | _, _ => match x, y with
      | .str z, .int i => z.length ≤ sizeLine ∧ (match L2.atI z.cps.toList i with
        | some c => Q (.str ⟨#[c]⟩) S
        | none => False)
      | _, _ => False) := id rfl
theorem u_mNoPart (u0_ : Env) (S : Sto) (Q : Option Int → Sto → Prop) : mNoPart  u0_ S Q = (Q none S) := id rfl
theorem u_mPart (m : NE) (e : Env) (S : Sto) (Q : Option Int → Sto → Prop) : mPart m e S Q = (m e S fun d S1 => match d with
  | .int i => Q (some i) S1
  | _ => False) := id rfl
theorem u_nSl (x : D) (lo : Option Int) (hi : Option Int) (S : Sto) (Q : NQ) : nSl  x lo hi S Q = (match x with
  | .tup ds => Q (.tup (cutD ds lo hi)) S
  | .str z => z.length ≤ sizeLine ∧ Q (.str (cutS z lo hi)) S
  | .rol ds => ∀ p, S p = none → Q (.ref p) (put S p (.lst (cutD ds lo hi)))
  | .ref a => (match S a with
    | some (.lst ds) => ∀ p, S p = none → Q (.ref p) (put S p (.lst (cutD ds lo hi)))
    | _ => False)
  | _ => False) := id rfl
theorem u_mSl (m : NE) (l h : NO) (e : Env) (S : Sto) (Q : NQ) : mSl m l h e S Q = (m e S fun x S1 => l e S1 fun lo S2 => h e S2 fun hi S3 => nSl x lo hi S3 Q) := id rfl
theorem u_nRev (x : D) (S : Sto) (Q : NQ) : nRev  x S Q = (match x with
  | .ref a => (match S a with
    | some (.lst ds) => ∀ p, S p = none → Q (.ref p) (put S p (.lst ds.reverse))
    | _ => False)
  | _ => False) := id rfl
theorem u_mUn (n : D → Sto → NQ → Prop) (m : NE) (e : Env) (S : Sto) (Q : NQ) : mUn n m e S Q = (m e S fun x S1 => n x S1 Q) := id rfl
theorem u_nNeg (x : D) (S : Sto) (Q : NQ) : nNeg  x S Q = (match x with
  | .int i => Q (.int (-i)) S
  | _ => False) := id rfl
theorem u_nFld (f : Str) (x : D) (S : Sto) (Q : NQ) : nFld f x S Q = (match x with
  | .ref a => (match S a with
    | some (.ins _ fs) => (match fs.lookup f with
      | some v => Q v S
      | none => False)
    | _ => False)
  | _ => False) := id rfl
theorem u_sFldN (f : Str) (mv mo : NE) (Z0 : NEnds) (e : Env) (S : Sto) : sFldN f mv mo Z0 e S = (mv e S fun y S1 => mo e S1 fun x S2 => match x with
  | .ref a => (match S2 a with
    | some (.ins c fs) => fs.length < 1000 ∧ Z0.nx e (put S2 a (.ins c (putD f y fs)))
    | _ => False)
  | _ => False) := id rfl
theorem u_mCallB (n : NL) (mr : NA) (e : Env) (S : Sto) (Q : NQ) : mCallB n mr e S Q = (mr e S fun ds S1 => n ds S1 Q) := id rfl
theorem u_nLen (xs : List D) (S : Sto) (Q : NQ) : nLen  xs S Q = (match xs with
  | [d] => (match lenD S d with
    | some n => Q (.int n) S
    | none => False)
  | _ => False) := id rfl
theorem u_nMax2 (xs : List D) (S : Sto) (Q : NQ) : nMax2  xs S Q = (match xs with
  | [.int i, .int j] => Q (.int (if j > i then j else i)) S
  | _ => False) := id rfl
theorem u_nMin2 (xs : List D) (S : Sto) (Q : NQ) : nMin2  xs S Q = (match xs with
  | [.int i, .int j] => Q (.int (if j < i then j else i)) S
  | _ => False) := id rfl
theorem u_nAbs (xs : List D) (S : Sto) (Q : NQ) : nAbs  xs S Q = (match xs with
  | [.int i] => Q (.int (if i < 0 then -i else i)) S
  | _ => False) := id rfl
theorem u_nInt1 (xs : List D) (S : Sto) (Q : NQ) : nInt1  xs S Q = (match xs with
  | [.int i] => Q (.int i) S
  | [.bl b] => Q (.int (if b then 1 else 0)) S
  | [.str z] => ∃ n, PySem.intText? z = some n ∧ z.length ≤ 640 ∧ Q (.int n) S
  | _ => False) := id rfl
theorem u_nStr1 (xs : List D) (S : Sto) (Q : NQ) : nStr1  xs S Q = (match xs with
  | [.int i] => i.natAbs < 2 ^ 1900 ∧ Q (.str (toString i)) S
  | _ => False) := id rfl
theorem u_nList1 (xs : List D) (S : Sto) (Q : NQ) : nList1  xs S Q = (match xs with
  | [d] => (match seqOf S d with
    | some ds => ∀ p, S p = none → Q (.ref p) (put S p (.lst ds))
    | none => False)
  | _ => False) := id rfl
theorem u_nTuple1 (xs : List D) (S : Sto) (Q : NQ) : nTuple1  xs S Q = (match xs with
  | [d] => (match seqOf S d with
    | some ds => Q (.tup ds) S
    | none => False)
  | _ => False) := id rfl
theorem u_nIsi (CL : List Str) (xs : List D) (S : Sto) (Q : NQ) : nIsi CL xs S Q = (match xs with
  | [x, c] => (match tgOf S x with
    | some t => (match clOf c with
      | some u => (T1 CL).contains t = true ∧ (T2 CL).contains u = true ∧ Q (.bl (isT t u)) S
      | none => match c with
        | .tup cs => (match clsOf cs with
          | some us => (T1 CL).contains t = true ∧ us.all ((T2 CL).contains ·) = true ∧ Q (.bl (us.any (isT t))) S
          | none => False)
        | _ => False)
    | none => False)
  | _ => False) := id rfl
theorem u_mCall (n : Nat) (sp : NSp) (w : NW) (mr : NA) (e : Env) (S : Sto) (Q : NQ) : mCall n sp w mr e S Q = (mr e S fun ds S1 => ds.length = n ∧ runF sp ds S1 Q (fun c d S2 => w c d e S2) .mk) := id rfl
theorem u_mMeth (m : Str) (mt : MT) (w : NW) (mo : NE) (mr : NA) (e : Env) (S : Sto) (Q : NQ) : mMeth m mt w mo mr e S Q = (mo e S fun x S1 => match x with
  | .ref p => (match S1 p with
    | some (.ins c fs) => fs.lookup m = none ∧ (match mt c with
      | some (n, sp) => mr e S1 fun ds S2 => ds.length + 1 = n ∧ runF sp (.ref p :: ds) S2 Q (fun c d S3 => w c d e S3) .mk
      | none => False)
    | _ => False)
  | _ => False) := id rfl
theorem u_mMake (c : Str) (n : Nat) (sp : NSp) (w : NW) (mr : NA) (e : Env) (S : Sto) (Q : NQ) : mMake c n sp w mr e S Q = (mr e S fun ds S1 => ds.length + 1 = n ∧ ∀ x, S1 x = none → runF sp (.ref x :: ds) (put S1 x (.ins c [])) (fun v S2 => isNonD v = true ∧ Q (.ref x) S2) (fun c d S2 => w c d e S2) .mk) := id rfl
theorem u_spOf (N : Nat) (body : NW → NS) (ds : List D) (S : Sto) (Q : NQ) (E : Str → Option Addr → Sto → Prop) : spOf N body ds S Q E = (body (fun c d _ S' => E c d S') { nx := fun _ S' => Q .non S', rt := Q } (startN N ds) S) := id rfl
theorem u_sNext (Z0 : NEnds) (e : Env) (S : Sto) : sNext  Z0 e S = (Z0.nx e S) := id rfl
theorem u_sSeq (t u : NS) (Z0 : NEnds) (e : Env) (S : Sto) : sSeq t u Z0 e S = (t { Z0 with nx := u Z0 } e S) := id rfl
theorem u_sBreak (Z0 : NEnds) (e : Env) (S : Sto) : sBreak  Z0 e S = (Z0.bk e S) := id rfl
theorem u_sCont (Z0 : NEnds) (e : Env) (S : Sto) : sCont  Z0 e S = (Z0.ct e S) := id rfl
theorem u_sDrop (m : NE) (Z0 : NEnds) (e : Env) (S : Sto) : sDrop m Z0 e S = (m e S fun _ S1 => Z0.nx e S1) := id rfl
theorem u_sRet (m : NE) (Z0 : NEnds) (e : Env) (S : Sto) : sRet m Z0 e S = (m e S Z0.rt) := id rfl
theorem u_sIf (c : NT) (t u : NS) (Z0 : NEnds) (e : Env) (S : Sto) : sIf c t u Z0 e S = (c e S fun b S1 => match b with
  | true => t Z0 e S1
  | false => u Z0 e S1) := id rfl
theorem u_gNm (i : Nat) (d : D) (e : Env) (S : Sto) (Q : Env → Sto → Prop) : gNm i d e S Q = (Q (e.set i (some d)) S) := id rfl
theorem u_gsNil (ds : List D) (e : Env) (S : Sto) (Q : Env → Sto → Prop) : gsNil  ds e S Q = (match ds with
  | [] => Q e S
  | _ => False) := id rfl
theorem u_gsCons (t : NG) (u : NGs) (ds : List D) (e : Env) (S : Sto) (Q : Env → Sto → Prop) : gsCons t u ds e S Q = (match ds with
  | d :: r => t d e S fun e1 S1 => u r e1 S1 Q
  | [] => False) := id rfl
theorem u_gTp (n : Nat) (t : NGs) (d : D) (e : Env) (S : Sto) (Q : Env → Sto → Prop) : gTp n t d e S Q = (match d with
  | .tup ds => ds.length = n ∧ t ds e S Q
  | _ => False) := id rfl
theorem u_sAsg (m : NE) (g : NG) (Z0 : NEnds) (e : Env) (S : Sto) : sAsg m g Z0 e S = (m e S fun d S1 => g d e S1 Z0.nx) := id rfl
theorem u_sSet (i : Nat) (m : NE) (Z0 : NEnds) (e : Env) (S : Sto) : sSet i m Z0 e S = (m e S fun d S1 => Z0.nx (e.set i (some d)) S1) := id rfl
theorem u_nSet (o : D) (i : D) (v : D) (S : Sto) (Q : (Sto → Prop)) : nSet  o i v S Q = (match o with
  | .ref p => (match S p with
    | some (.lst ds) => (match i with
      | .int j => (match ixN ds.length j with
        | some k => Q (put S p (.lst (ds.set k v)))
        | none => False)
      | _ => False)
    | some (.dic kvs) => (match keyD i with
      | some k => kvs.length < sizeLine ∧ Q (put S p (.dic (dput kvs k v)))
      | none => False)
    | _ => False)
  | _ => False) := id rfl
theorem u_gIx (mo mi : NE) (d : D) (e : Env) (S : Sto) (Q : Env → Sto → Prop) : gIx mo mi d e S Q = (mo e S fun x S1 => mi e S1 fun i S2 => nSet x i d S2 fun S3 => Q e S3) := id rfl
theorem u_sAug (i : Nat) (m : NE) (n : N2) (Z0 : NEnds) (e : Env) (S : Sto) : sAug i m n Z0 e S = (match nth e i with
  | some x => m e S fun y S1 => n x y S1 fun z S2 => Z0.nx (e.set i (some z)) S2
  | none => False) := id rfl
theorem u_nAdd' (x : D) (y : D) (S : Sto) (Q : NQ) : nAdd'  x y S Q = (match x, y with
  | .int i, .int j => Q (.int (i + j)) S
  | .str a, .str b => a.length + b.length ≤ sizeLine ∧ Q (.str (a ++ b)) S
  | .ref a, .ref b => (match S a, S b with
    | some (.lst xs), some (.lst ys) => xs.length + ys.length ≤ sizeLine ∧ Q (.ref a) (put S a (.lst (xs ++ ys)))
    | _, _ => False)
  | _, _ => False) := id rfl
theorem u_nGet (x : D) (y : D) (S : Sto) (Q : NQ) : nGet  x y S Q = (match x with
  | .ref p => (match S p with
    | some (.lst ds) => (match y with
      | .int i => 0 ≤ i ∧ (match ds[i.toNat]? with
        | some d => Q d S
        | none => False)
      | _ => False)
    | some (.dic kvs) => (match keyD y with
      | some k => (match dget kvs k with
        | some d => Q d S
        | none => False)
      | none => False)
    | _ => False)
  | _ => False) := id rfl
theorem u_sAugS (mo mi : NE) (m : NE) (n : N2) (Z0 : NEnds) (e : Env) (S : Sto) : sAugS mo mi m n Z0 e S = (mo e S fun x S1 => mi e S1 fun i S2 => nGet x i S2 fun y S3 => m e S3 fun z S4 => n y z S4 fun r S5 => nSet x i r S5 fun S6 => Z0.nx e S6) := id rfl
theorem u_nWalk (x : D) (S : Sto) (Q : (List D → Keep → Prop)) : nWalk  x S Q = (match x with
  | .tup ds => Q ds fun _ => True
  | .rol ds => Q ds fun _ => True
  | .ref p => (match S p with
    | some (.lst ds) => Q ds fun S' => S' p = some (.lst ds)
    | _ => False)
  | _ => False) := id rfl
theorem u_sFor (m : NE) (g : NG) (b : NS) (Z0 : NEnds) (e : Env) (S : Sto) : sFor m g b Z0 e S = (m e S fun x S1 => nWalk x S1 fun ds kp => runL g b Z0 kp ds e S1 .mk) := id rfl
theorem u_sForR1 (m : NE) (g : NG) (b : NS) (Z : NEnds) (e : Env) (S : Sto) : sForR1 m g b Z e S = (m e S fun x S1 => match x with
  | .int j => RngOk j ∧ runL g b Z (fun _ => True) (rangeD 0 j.toNat) e S1 .mk
  | _ => False) := id rfl
theorem u_sForR2 (m m' : NE) (g : NG) (b : NS) (Z : NEnds) (e : Env) (S : Sto) : sForR2 m m' g b Z e S = (m e S fun x S1 => m' e S1 fun y S2 => match x, y with
  | .int i, .int j => (RngOk i ∧ RngOk j) ∧ runL g b Z (fun _ => True) (rangeD i (j - i).toNat) e S2 .mk
  | _, _ => False) := id rfl
theorem u_sWhile (c : NT) (b : NS) (Z0 : NEnds) (e : Env) (S : Sto) : sWhile c b Z0 e S = (runW c b Z0 e S .mk) := id rfl
theorem u_sRaise (c : Str) (w : NW) (u0_ : NEnds) (e : Env) (S : Sto) : sRaise c w u0_ e S = (w c none e S) := id rfl
theorem u_sTryO (CL : List Str) (x : Str) (mb : NW → NS) (ms : NS) (w : NW) (Z0 : NEnds) (e : Env) (S : Sto) : sTryO CL x mb ms w Z0 e S = (mb (fun c d e1 S1 => match catchOf CL c x with
  | some true => ms Z0 e1 S1
  | some false => w c d e1 S1
  | none => False) Z0 e S) := id rfl
theorem u_sTryK (CL : List Str) (x : Str) (i j : Nat) (mb : NW → NS) (w : NW) (Z0 : NEnds) (e : Env) (S : Sto) : sTryK CL x i j mb w Z0 e S = (mb (fun c d e1 S1 => match catchOf CL c x with
  | some true => i < e1.length ∧ ∀ a, S1 a = none → Z0.nx ((e1.set j (some (.ref a))).set i none) (put S1 a (.exc c d))
  | some false => w c d e1 S1
  | none => False) Z0 e S) := id rfl
theorem u_nTupIndex (ys : List Str) (y : D) (S : Sto) (Q : NQ) : nTupIndex ys y S Q = (match y with
  | .str z => (match ys.findIdx? (fun x => decide (x = z)) with
    | some j => Q (.int (j : Nat)) S
    | none => False)
  | _ => False) := id rfl
theorem u_mTupIndex (ys : List Str) (m : NE) (e : Env) (S : Sto) (Q : NQ) : mTupIndex ys m e S Q = (m e S fun d S1 => nTupIndex ys d S1 Q) := id rfl
theorem u_nIndex (x : D) (y : D) (S : Sto) (Q : NQ) : nIndex  x y S Q = (match x with
  | .ref p => (match S p with
    | some (.lst ds) => flatD y = true ∧ ds.all flatD = true ∧ (match ds.findIdx? (fun d => eqF d y) with
      | some j => Q (.int (j : Nat)) S
      | none => False)
    | _ => False)
  | _ => False) := id rfl
theorem u_mLm (n : D → List D → Sto → NQ → Prop) (mo : NE) (mr : NA) (e : Env) (S : Sto) (Q : NQ) : mLm n mo mr e S Q = (mo e S fun x S1 => (∃ p ds, x = .ref p ∧ S1 p = some (.lst ds)) ∧ mr e S1 fun ds S2 => n x ds S2 Q) := id rfl
theorem u_nAppend (x : D) (ys : List D) (S : Sto) (Q : NQ) : nAppend  x ys S Q = (match x, ys with
  | .ref p, [y] => (match S p with
    | some (.lst ds) => ds.length < sizeLine ∧ Q .non (put S p (.lst (ds ++ [y])))
    | _ => False)
  | _, _ => False) := id rfl
theorem u_nIndexL (x : D) (ys : List D) (S : Sto) (Q : NQ) : nIndexL  x ys S Q = (match ys with
  | [y] => nIndex x y S Q
  | _ => False) := id rfl
theorem u_mDisp (ps : List (Key × NE)) (e : Env) (S : Sto) (Q : NQ) : mDisp ps e S Q = (∀ p, S p = none → mPairs ps e (put S p (.dic [])) fun kvs S2 => S2 p = some (.dic []) ∧ kvs.length ≤ 15 ∧ Q (.ref p) (put S2 p (.dic (mergeD [] kvs)))) := id rfl
theorem u_sFldAugN (f : Str) (mo mv : NE) (n : N2) (Z : NEnds) (e : Env) (S : Sto) : sFldAugN f mo mv n Z e S = (mo e S fun x S1 => match x with
  | .ref p => (match S1 p with
    | some (.ins c fs) => (match fs.lookup f with
      | some v => mv e S1 fun y S2 => n v y S2 fun z S3 => (match S3 p with
        | some (.ins c' fs') => c' = c ∧ fs'.length < 1000 ∧ Z.nx e (put S3 p (.ins c (putD f z fs')))
        | _ => False)
      | none => False)
    | _ => False)
  | _ => False) := id rfl
theorem u_nSub (x y : D) (S : Sto) (Q : NQ) : nSub x y S Q = nInt0 (fun i j => .int (i - j)) x y S Q := id rfl
theorem u_nMul (x y : D) (S : Sto) (Q : NQ) : nMul x y S Q = nInt MulOk (fun i j => .int (i * j)) x y S Q := id rfl
theorem u_nDiv (x y : D) (S : Sto) (Q : NQ) : nDiv x y S Q = nInt DivOk (fun i j => .int (i / j)) x y S Q := id rfl
theorem u_nMod (x y : D) (S : Sto) (Q : NQ) : nMod x y S Q = nInt (fun _ j => 0 < j) (fun i j => .int (i % j)) x y S Q := id rfl
theorem u_nPow (x y : D) (S : Sto) (Q : NQ) : nPow x y S Q = nInt PowOk (fun i j => .int (i ^ j.toNat)) x y S Q := id rfl
theorem u_nLt (x y : D) (S : Sto) (Q : NQ) : nLt x y S Q = nInt0 (fun i j => .bl (decide (i < j))) x y S Q := id rfl
theorem u_nLe (x y : D) (S : Sto) (Q : NQ) : nLe x y S Q = nInt0 (fun i j => .bl (decide (i ≤ j))) x y S Q := id rfl
theorem u_nGt (x y : D) (S : Sto) (Q : NQ) : nGt x y S Q = nInt0 (fun i j => .bl (decide (j < i))) x y S Q := id rfl
theorem u_nGe (x y : D) (S : Sto) (Q : NQ) : nGe x y S Q = nInt0 (fun i j => .bl (decide (j ≤ i))) x y S Q := id rfl
end N

set_option linter.all false
set_option maxRecDepth 100000
set_option maxHeartbeats 4000000
namespace N
open PySem L2
/-! ### the state of a law that draws numbers -/
@[irreducible] def stD (cells : List D) (b : Addr) (n : Int) : List (Key × D) := [(.inr "cells", .rol cells), (.inr "left", .ref b), (.inr "at", .int n)]
theorem stD_cells {cells : List D} {b : Addr} {n : Int} : dget (stD cells b n) (.inr "cells") = some (.rol cells) := by unfold stD; rfl
theorem stD_left {cells : List D} {b : Addr} {n : Int} : dget (stD cells b n) (.inr "left") = some (.ref b) := by unfold stD; rfl
theorem stD_at {cells : List D} {b : Addr} {n : Int} : dget (stD cells b n) (.inr "at") = some (.int n) := by unfold stD; rfl
theorem stD_put {cells : List D} {b : Addr} {n m : Int} : dput (stD cells b n) (.inr "at") (.int m) = stD cells b m := by unfold stD; rfl
theorem stD_len {cells : List D} {b : Addr} {n : Int} : ((stD cells b n).length < sizeLine) = True := by unfold stD; simp; decide
theorem stD_mk {cells : List D} {b : Addr} {n : Int} : mergeD [] [(.inr "cells", .rol cells), (.inr "left", .ref b), (.inr "at", .int n)] = stD cells b n := by unfold stD; rfl
structure LSt (a b : Addr) (ns : List Int) (S : Sto) : Prop where
  ab : a ≠ b
  ex : ∃ (n : Int) (ls : List Int), S a = some (.dic (stD (ns.map D.int) b n)) ∧ S b = some (.lst (ls.map D.int)) ∧ ls.length = ns.length
theorem LSt.up {a b : Addr} {ns : List Int} {S S' : Sto} {A : List Addr} (h : LSt a b ns S) (u : Upd A S S') (na : a ∉ A) (nb : b ∉ A) : LSt a b ns S' := by
  obtain ⟨ab, n, ls, h1, h2, h3⟩ := h
  exact ⟨ab, n, ls, u a _ na h1, u b _ nb h2, h3⟩
theorem pyDs_ints (ns : List Int) : pyDs (ns.map D.int) = some (ns.map PyData.int) := by
  induction ns with
  | nil => rfl
  | cons n r ih => simp only [List.map_cons, pyDs, pyD, ih]
theorem shaped_ints (ns : List Int) : SeqAt.shaped (.list (ns.map PyData.int)) = true := by
  have h1 : ∀ ns : List Int, PyData.canLayAll0 (ns.map PyData.int) = true := by
    intro ns; induction ns with
    | nil => rfl
    | cons n r ih => simp [PyData.canLayAll0, PyData.canLay0, ih]
  have h2 : ∀ ns : List Int, PyData.depthAll (ns.map PyData.int) ≤ 1 := by
    intro ns; induction ns with
    | nil => decide
    | cons n r ih => simp only [List.map_cons, PyData.depthAll, PyData.depth]; omega
  have h3 := h2 ns
  unfold SeqAt.shaped
  simp [PyData.canLay0, h1, PyData.depth]; omega
theorem eqT_rol_nil {S : Sto} {ns : List Int} {p : Addr} (h : S p = some (.lst [])) : eqT S (.rol (ns.map D.int)) (.ref p) = some (decide (ns = [])) := by
  unfold eqT
  simp only [pyT, pyD, h, pyDs_ints, pyDs, Option.map_some]
  cases ns with
  | nil => rfl
  | cons n r => rw [shaped_ints]; rfl
theorem idx_some {ns : List Int} {i : Int} (h0 : 0 ≤ i) (h1 : i < ns.length) : ∃ v, atI (ns.map D.int) i = some (.int v) ∧ ∀ w, ∃ ls, (ns.map D.int).set i.toNat (.int w) = List.map D.int ls ∧ ls.length = ns.length := by
  refine ⟨ns[i.toNat]'(by omega), ?_, fun w => ⟨ns.set i.toNat w, by rw [List.map_set], by simp⟩⟩
  rw [atI_nat' h0, List.getElem?_map, List.getElem?_eq_getElem (by omega)]
  rfl
theorem ixN_in {n : Nat} {i : Int} (h0 : 0 ≤ i) (h1 : i < n) : ixN n i = some i.toNat := by
  unfold ixN
  rw [if_pos h0, if_pos h1]
theorem mod_lt {i j : Int} (h : 0 < j) : 0 ≤ i % j ∧ i % j < j := ⟨Int.emod_nonneg _ (by omega), Int.emod_lt_of_pos _ h⟩
theorem mul_ok_l {i j : Int} (h0 : 0 ≤ i) (h1 : i < 2 ^ 64) : MulOk i j := .inl (by omega)
theorem mul_ok_r {i j : Int} (h0 : 0 ≤ j) (h1 : j < 2 ^ 64) : MulOk i j := .inr (.inl (by omega))
theorem eqT_ii {S : Sto} {i j : Int} : eqT S (.int i) (.int j) = some (decide (i = j)) := rfl
theorem eqT_ss {S : Sto} {i j : Str} : eqT S (.str i) (.str j) = some (decide (i = j)) := rfl
theorem eqT_bb {S : Sto} {i j : Bool} : eqT S (.bl i) (.bl j) = some (decide (i = j)) := rfl
theorem eqT_nn {S : Sto} : eqT S .non .non = some true := rfl
theorem eqT_ni {S : Sto} {i : Int} : eqT S .non (.int i) = some false := rfl
theorem eqT_in {S : Sto} {i : Int} : eqT S (.int i) .non = some false := rfl
theorem eqT_nb {S : Sto} {i : Bool} : eqT S .non (.bl i) = some false := rfl
theorem eqT_bn {S : Sto} {i : Bool} : eqT S (.bl i) .non = some false := rfl
theorem eqT_ns {S : Sto} {i : Str} : eqT S .non (.str i) = some false := rfl
theorem eqT_sn {S : Sto} {i : Str} : eqT S (.str i) .non = some false := rfl
theorem eqT_is {S : Sto} {i : Int} {s : Str} : eqT S (.int i) (.str s) = some false := rfl
theorem eqT_si {S : Sto} {i : Int} {s : Str} : eqT S (.str s) (.int i) = some false := rfl
theorem sl_0 : (0 ≤ sizeLine) = True := eq_true (by decide)
theorem sm_0 : (0 < sizeLine) = True := eq_true (by decide)
theorem sl_1 : (1 ≤ sizeLine) = True := eq_true (by decide)
theorem sm_1 : (1 < sizeLine) = True := eq_true (by decide)
theorem sl_2 : (2 ≤ sizeLine) = True := eq_true (by decide)
theorem sm_2 : (2 < sizeLine) = True := eq_true (by decide)
theorem sl_3 : (3 ≤ sizeLine) = True := eq_true (by decide)
theorem sm_3 : (3 < sizeLine) = True := eq_true (by decide)
theorem sl_4 : (4 ≤ sizeLine) = True := eq_true (by decide)
theorem sm_4 : (4 < sizeLine) = True := eq_true (by decide)
theorem sl_5 : (5 ≤ sizeLine) = True := eq_true (by decide)
theorem sm_5 : (5 < sizeLine) = True := eq_true (by decide)
theorem sl_6 : (6 ≤ sizeLine) = True := eq_true (by decide)
theorem sm_6 : (6 < sizeLine) = True := eq_true (by decide)
theorem sl_7 : (7 ≤ sizeLine) = True := eq_true (by decide)
theorem sm_7 : (7 < sizeLine) = True := eq_true (by decide)
theorem sl_8 : (8 ≤ sizeLine) = True := eq_true (by decide)
theorem sm_8 : (8 < sizeLine) = True := eq_true (by decide)
theorem sl_9 : (9 ≤ sizeLine) = True := eq_true (by decide)
theorem sm_9 : (9 < sizeLine) = True := eq_true (by decide)
theorem sl_10 : (10 ≤ sizeLine) = True := eq_true (by decide)
theorem sm_10 : (10 < sizeLine) = True := eq_true (by decide)
theorem sl_11 : (11 ≤ sizeLine) = True := eq_true (by decide)
theorem sm_11 : (11 < sizeLine) = True := eq_true (by decide)
theorem sl_12 : (12 ≤ sizeLine) = True := eq_true (by decide)
theorem sm_12 : (12 < sizeLine) = True := eq_true (by decide)
theorem div_ok {i j : Int} (h0 : 0 < j) (h1 : j < 2 ^ 64) : DivOk i j := ⟨h0, Nat.lt_of_lt_of_le (by omega : j.natAbs < 2 ^ 64) (Nat.pow_le_pow_right (by decide) (by decide))⟩
theorem u_whileN (c : NT) (b : NS) (D : NEnds) (n : Nat) (e : Env) (S : Sto) : whileN c b D (n + 1) e S = (c e S fun k S1 => match k with
  | true => b { nx := whileN c b D n, ct := whileN c b D n, bk := D.nx, rt := D.rt } e S1
  | false => D.nx e S1) := id rfl
theorem eqT_t2 {S : Sto} {i j : Int} : eqT S (.tup [.int i, .int j]) (.tup [.int i, .int j]) = some true := by
  unfold eqT
  simp only [pyT, pyD, pyDs, Option.map_some]
  have h : SeqAt.shaped (.tuple [.int i, .int j]) = true := rfl
  rw [h]
  simp [PyData.eqv, PyData.eqvAll]
theorem share_lt {g d k : Int} (h1 : 1 ≤ g) (h2 : 1 ≤ d) (h3 : 0 ≤ k) : g * k / (d + k) < g := by
  refine Int.ediv_lt_of_lt_mul (by omega) ?_
  rw [Int.mul_add]
  have := Int.mul_le_mul h1 h2 (by decide) (by omega)
  omega
theorem share_nn {g d k : Int} (h1 : 0 ≤ g) (h2 : 0 ≤ d) (h3 : 0 ≤ k) : 0 ≤ g * k / (d + k) := Int.ediv_nonneg (Int.mul_nonneg h1 h3) (by omega)
theorem runL_inv {g : NG} {b : NS} {Z : NEnds} {kp : Keep} {T : TgZ g b Z} (Inv : Env → Sto → Prop) (hk : ∀ e S, Inv e S → kp S) (hz : ∀ e S, Inv e S → Z.nx e S) : ∀ {ds : List D} {e : Env} {S : Sto}, Inv e S → (∀ x ∈ ds, ∀ e S (C : Env → Sto → Prop), Inv e S → (∀ e' S', Inv e' S' → C e' S') → g x e S fun e1 S1 => b { nx := C, ct := C, bk := Z.nx, rt := Z.rt } e1 S1) → runL g b Z kp ds e S T
  | [], e, S, h0, _ => hz e S h0
  | x :: ds, e, S, h0, hs => hs x (by simp) e S _ h0 fun e' S' h' => ⟨hk e' S' h', runL_inv (T := .mk) Inv hk hz h' fun y hy => hs y (by simp [hy])⟩
theorem LSt.fresh {a b p : Addr} {ns : List Int} {S : Sto} (h : LSt a b ns S) (hp : S p = none) : p ≠ a ∧ p ≠ b := by
  obtain ⟨_, n, ls, q1, q2, _⟩ := h
  exact ⟨(fun z => by rw [z, q1] at hp; cases hp), (fun z => by rw [z, q2] at hp; cases hp)⟩
theorem str_ok (s : String) : PyData.strOk (Str.ofString s) = true := by
  rw [Str.ofString_eq_toList]
  unfold PyData.strOk
  simp
  intro c _
  have := c.valid
  unfold UInt32.isValidChar Nat.isValidChar at this
  have e : c.toNat = c.val.toNat := rfl
  omega
theorem eqT_tup {S : Sto} {ds : List D} {ps : List PyData} (h : pyDs ds = some ps) (c : PyData.canLayAll0 ps = true) (d : PyData.depthAll ps ≤ 60) : eqT S (.tup ds) (.tup ds) = some true := by
  have c' : PyData.canLay0 (.tuple ps) = true := by simp only [PyData.canLay0]; exact c
  have h2 : SeqAt.shaped (.tuple ps) = true := by
    unfold SeqAt.shaped
    rw [c']
    simp [PyData.depth]
    omega
  unfold eqT
  simp only [pyT, pyD, h, Option.map_some, h2, SeqAt.eqv_refl _ c', Bool.and_self, if_true]
theorem u_runL0 (g : NG) (b : NS) (Z : NEnds) (kp : Keep) (e : Env) (S : Sto) (T : TgZ g b Z) : runL g b Z kp [] e S T = Z.nx e S := id rfl
theorem u_runL1 (g : NG) (b : NS) (Z : NEnds) (kp : Keep) (x : D) (xs : List D) (e : Env) (S : Sto) (T : TgZ g b Z) : runL g b Z kp (x :: xs) e S T = g x e S fun e1 S1 => b { nx := fun e2 S2 => kp S2 ∧ runL g b Z kp xs e2 S2 .mk, ct := fun e2 S2 => kp S2 ∧ runL g b Z kp xs e2 S2 .mk, bk := Z.nx, rt := Z.rt } e1 S1 := id rfl
/-- one turn: what comes behind it is told by I alone -/
theorem runL_cons {g : NG} {b : NS} {Z : NEnds} {kp : Keep} {x : D} {xs : List D} {e : Env} {S : Sto} {T : TgZ g b Z} (I : Env → Sto → Prop) (hI : ∀ e2 S2, I e2 S2 → kp S2 ∧ runL g b Z kp xs e2 S2 .mk) (hs : ∀ C : Env → Sto → Prop, (∀ e2 S2, I e2 S2 → C e2 S2) → g x e S fun e1 S1 => b { nx := C, ct := C, bk := Z.nx, rt := Z.rt } e1 S1) : runL g b Z kp (x :: xs) e S T := hs _ hI
theorem u_runF (sp : NSp) (ds : List D) (S : Sto) (Q : NQ) (E : Str → Option Addr → Sto → Prop) (T : TgQ Q E) : runF sp ds S Q E T = sp ds S Q E := id rfl
/-- a loop by what is left -/
theorem runL_invL {g : NG} {b : NS} {Z : NEnds} {kp : Keep} {T : TgZ g b Z} (Inv : List D → Env → Sto → Prop) (hk : ∀ xs e S, Inv xs e S → kp S) (hz : ∀ e S, Inv [] e S → Z.nx e S) (hs : ∀ x xs e S (C : Env → Sto → Prop), Inv (x :: xs) e S → (∀ e' S', Inv xs e' S' → C e' S') → g x e S fun e1 S1 => b { nx := C, ct := C, bk := Z.nx, rt := Z.rt } e1 S1) : ∀ {ds : List D} {e : Env} {S : Sto}, Inv ds e S → runL g b Z kp ds e S T
  | [], e, S, h0 => hz e S h0
  | x :: ds, e, S, h0 => hs x ds e S _ h0 fun e' S' h' => ⟨hk ds e' S' h', runL_invL (T := .mk) Inv hk hz hs h'⟩
/-! ### comprehensions, walks -/
structure TgC (g : NG) (tt : NT) (te : NE) (Q : Sto → Prop) : Type where
def runC (g : NG) (tt : NT) (te : NE) (kp : Keep) (p : Addr) (e : Env) (ds : List D) (S : Sto) (Q : Sto → Prop) (_ : TgC g tt te Q) : Prop := lcL g tt te kp p e ds S Q
theorem u_mLc (mi : NI) (g : NG) (tt : NT) (te : NE) (vs : List Nat) (e : Env) (S : Sto) (Q : NQ) : mLc mi g tt te vs e S Q = (mi e S fun ds kp S1 => ∀ p, S1 p = none → kp (put S1 p (.lst [])) ∧ runC g tt te kp p (nwipe e vs) ds (put S1 p (.lst [])) (fun S2 => Q (.ref p) S2) .mk) := id rfl
theorem u_nwipe0 (e : Env) : nwipe e [] = e := id rfl
theorem u_nwipe1 (e : Env) (v : Nat) (vs : List Nat) : nwipe e (v :: vs) = (nwipe e vs).set v none := id rfl
theorem u_mYes (e : Env) (S : Sto) (Q : Bool → Sto → Prop) : mYes e S Q = Q true S := id rfl
theorem u_iWalk (m : NE) (e : Env) (S : Sto) (Q : List D → Keep → Sto → Prop) : iWalk m e S Q = (m e S fun x S1 => nWalkA x S1 fun ds kp => Q ds kp S1) := id rfl
theorem u_nWalkA (x : D) (S : Sto) (Q : List D → Keep → Prop) : nWalkA x S Q = (match x with
  | .tup ds => Q ds fun _ => True
  | .rol ds => Q ds fun _ => True
  | .str z => Q (signsD z) fun _ => True
  | .ref p => (match S p with
    | some (.lst ds) => Q ds fun S' => S' p = some (.lst ds)
    | _ => False)
  | _ => False) := id rfl
theorem u_iRg1 (m : NE) (e : Env) (S : Sto) (Q : List D → Keep → Sto → Prop) : iRg1 m e S Q = (m e S fun x S1 => match x with
  | .int j => RngOk j ∧ Q (rangeD 0 j.toNat) (fun _ => True) S1
  | _ => False) := id rfl
theorem u_iRg2 (m m' : NE) (e : Env) (S : Sto) (Q : List D → Keep → Sto → Prop) : iRg2 m m' e S Q = (m e S fun x S1 => m' e S1 fun y S2 => match x, y with
  | .int i, .int j => (RngOk i ∧ RngOk j) ∧ Q (rangeD i (j - i).toNat) (fun _ => True) S2
  | _, _ => False) := id rfl
theorem u_nLstAt (x : D) (S : Sto) (Q : List D → Keep → Prop) : nLstAt x S Q = (match x with
  | .rol ds => Q ds fun _ => True
  | .ref p => (match S p with
    | some (.lst ds) => Q ds fun S' => S' p = some (.lst ds)
    | _ => False)
  | _ => False) := id rfl
theorem u_iEnumN (m : NE) (e : Env) (S : Sto) (Q : List D → Keep → Sto → Prop) : iEnumN m e S Q = (m e S fun x S1 => nLstAt x S1 fun ds kp => Q (enumD ds 0) kp S1) := id rfl
theorem u_iZipN (m m' : NE) (e : Env) (S : Sto) (Q : List D → Keep → Sto → Prop) : iZipN m m' e S Q = (m e S fun x S1 => m' e S1 fun y S2 => nLstAt x S2 fun ds kp => nLstAt y S2 fun es kp' => Q (zipD ds es) (fun S' => kp S' ∧ kp' S') S2) := id rfl
theorem u_sForI (mi : NI) (g : NG) (b : NS) (Z : NEnds) (e : Env) (S : Sto) : sForI mi g b Z e S = (mi e S fun ds kp S1 => runL g b Z kp ds e S1 .mk) := id rfl
theorem u_nSum (d : D) (S : Sto) (Q : NQ) : nSum [d] S Q = (match lstOf S d with
    | some ds => (match intsOf ds with
      | some ns => Q (.int ns.sum) S
      | none => False)
    | none => False) := id rfl
theorem u_nAll (d : D) (S : Sto) (Q : NQ) : nAll [d] S Q = (match lstOf S d with
    | some ds => (match blsOf ds with
      | some ns => Q (.bl (ns.all id)) S
      | none => False)
    | none => False) := id rfl
theorem u_nMaxL (d : D) (S : Sto) (Q : NQ) : nMaxL [d] S Q = (match lstOf S d with
    | some ds => (match intsOf ds with
      | some ns => 0 < ns.length ∧ ∀ m, m ∈ ns → (∀ y, y ∈ ns → y ≤ m) → Q (.int m) S
      | none => False)
    | none => False) := id rfl
theorem u_nIsC (IC : List Str) (a : Addr) (d : Str) (S : Sto) (Q : NQ) : nIsC IC [.ref a, .cls d] S Q = (match S a with
    | some (.ins c _) => IC.contains c = true ∧ IC.contains d = true ∧ Q (.bl (isC c d)) S
    | _ => False) := id rfl
theorem put_put {S : Sto} {p : Addr} {a b : Ob} : put (put S p a) p b = put S p b := by
  funext x
  unfold put
  by_cases h : x = p
  · rw [if_pos h, if_pos h]
  · rw [if_neg h, if_neg h, if_neg h]
/-- a comprehension whose items change nothing -/
theorem lc_pure (f : D → Option D) {g : NG} {tt : NT} {te : NE} {kp : Keep} {p : Addr} {e : Env} {S1 : Sto} {Q : Sto → Prop} (hk : ∀ l, kp (put S1 p (.lst l))) : ∀ {ds acc : List D}, acc.length + ds.length ≤ sizeLine →
    (∀ x ∈ ds, ∀ l (Y : D → Sto → Prop) (N : Sto → Prop), (match f x with | some y => Y y (put S1 p (.lst l)) | none => N (put S1 p (.lst l))) → g x e (put S1 p (.lst l)) fun e2 S2 => tt e2 S2 fun b S3 => match b with | true => te e2 S3 Y | false => N S3) →
    Q (put S1 p (.lst (acc ++ ds.filterMap f))) → lcL g tt te kp p e ds (put S1 p (.lst acc)) Q
  | [], acc, _, _, q => by
    rw [List.filterMap_nil, List.append_nil] at q
    exact q
  | x :: xs, acc, hl, h, q => by
    simp only [List.length_cons] at hl
    refine h x (by simp) acc _ _ ?_
    cases hf : f x with
    | none =>
      refine ⟨hk _, lc_pure f hk (by omega) (fun z hz => h z (by simp [hz])) ?_⟩
      rw [List.filterMap_cons_none hf] at q
      exact q
    | some y =>
      dsimp only
      rw [put_same]
      refine ⟨by omega, ?_, ?_⟩
      · rw [put_put]; exact hk _
      · rw [put_put]
        refine lc_pure f hk (by simp only [List.length_append, List.length_cons, List.length_nil]; omega) (fun z hz => h z (by simp [hz])) ?_
        rw [List.filterMap_cons_some hf] at q
        rw [List.append_assoc]
        exact q
theorem runC_pure (f : D → Option D) {g : NG} {tt : NT} {te : NE} {kp : Keep} {p : Addr} {e : Env} {S1 : Sto} {Q : Sto → Prop} {T : TgC g tt te Q} {ds : List D} (hk : ∀ l, kp (put S1 p (.lst l))) (hl : ds.length ≤ sizeLine)
    (h : ∀ x ∈ ds, ∀ l (Y : D → Sto → Prop) (N : Sto → Prop), (match f x with | some y => Y y (put S1 p (.lst l)) | none => N (put S1 p (.lst l))) → g x e (put S1 p (.lst l)) fun e2 S2 => tt e2 S2 fun b S3 => match b with | true => te e2 S3 Y | false => N S3)
    (q : Q (put S1 p (.lst (ds.filterMap f)))) : runC g tt te kp p e ds (put S1 p (.lst [])) Q T := lc_pure f hk (by simpa using hl) h (by simpa using q)
theorem u_nRevP (x y : D) (S : Sto) (Q : NQ) : nRevP (.tup [x, y]) S Q = Q (.tup [y, x]) S := id rfl
theorem u_nMax1L (a : Addr) (S : Sto) (Q : NQ) : nMax1 [.ref a] S Q = nMaxL [.ref a] S Q := id rfl
theorem u_nMax1T (i : Int) (r : List D) (S : Sto) (Q : NQ) : nMax1 [.tup (.int i :: r)] S Q = (match intsOf r with
    | some ns => ns.length ≤ 100 ∧ Q (.int (ns.foldl max i)) S
    | none => False) := id rfl
theorem u_sPar (i j : Nat) (ma mb : NE) (Z : NEnds) (e : Env) (S : Sto) : sPar i j ma mb Z e S = (ma e S fun x S1 => mb e S1 fun y S2 => Z.nx ((e.set i (some x)).set j (some y)) S2) := id rfl
theorem Upd.fresh' {A : List Addr} {S S' : Sto} {p : Addr} (u : Upd A S S') (hp : S' p = Option.none) (np : p ∉ A) : S p = Option.none := by
  cases e : S p with
  | none => rfl
  | some o => rw [u p o np e] at hp; cases hp
theorem Upd.putF {A : List Addr} {S S' : Sto} {p : Addr} {o : Ob} (u : Upd A S S') (hp : S p = Option.none) : Upd A S (put S' p o) := fun b ob hb e => by
  have : b ≠ p := fun z => by rw [z, hp] at e; cases e
  rw [put_ne this]; exact u b ob hb e
end N

set_option Elab.async false
set_option linter.all false
set_option maxRecDepth 100000
namespace N
open PySem PySem.Spec PyProof.Rows L2
/-! ### the lambdas and texts, unfolded -/
structure TgA (act : NSp) (Q : NQ) (E : Str → Option Addr → Sto → Prop) : Type where
def runA (spT : NSp → NSp) (act : NSp) (S : Sto) (Q : NQ) (E : Str → Option Addr → Sto → Prop) (_ : TgA act Q E) : Prop := spT act [] S Q E
theorem u_mLam (spT : NSp → NSp) (w : NW) (mb : NW → NE) (e : Env) (S : Sto) (Q : NQ) : mLam spT w mb e S Q = runA spT (fun _ S' Q' E' => mb (fun c d _ S2 => E' c d S2) e S' Q') S Q (fun c d S' => w c d e S') .mk := id rfl
theorem u_mAct (i : Nat) (f : Addr) (act : NSp) (w : NW) (e : Env) (S : Sto) (Q : NQ) : mAct i f act w e S Q = (e[i]? = some (some (.ref f)) ∧ runF act [] S Q (fun c d S' => w c d e S') .mk) := id rfl
theorem u_spAct (N : Nat) (mT : Addr → NSp → NW → NS) (act : NSp) (ds : List D) (S : Sto) (Q : NQ) (E : Str → Option Addr → Sto → Prop) : spAct N mT act ds S Q E = (∀ f, S f = none → mT f act (fun c d _ S' => E c d S') { nx := fun _ S' => Q .non S', rt := Q } (startN N [.ref f]) S) := id rfl
theorem u_runA (spT : NSp → NSp) (act : NSp) (S : Sto) (Q : NQ) (E : Str → Option Addr → Sto → Prop) (T : TgA act Q E) : runA spT act S Q E T = spT act [] S Q E := id rfl
theorem u_mM1 (n : D → D → Sto → NQ → Prop) (mo me : NE) (e : Env) (S : Sto) (Q : NQ) : mM1 n mo me e S Q = (mo e S fun x S1 => match x with
  | .str a => me e S1 fun y S2 => n (.str a) y S2 Q
  | _ => False) := id rfl
theorem u_nJoin (a : Str) (y : D) (S : Sto) (Q : NQ) : nJoin (.str a) y S Q = (match seqOf S y with
  | some ds => (match strsOf ds with
    | some ss => (ss.map (·.length)).sum + ss.length * a.length ≤ 16777216 ∧ Q (.str (Txt.join a ss)) S
    | none => False)
  | none => False) := id rfl
end N

set_option linter.all false
set_option maxRecDepth 100000
namespace K16
open PySem N
def CL : List Str := ["BadMaker", "BadWare", "BadCount", "TooMuch", "BadShares", "NoText", "NoName", "TooLittle", "BadRumour", "NoParting", "NoLine"]
def IC : List Str := []
def c_WARES : List Str := ["salt", "cloth"]
/-- Maker_called(self) : 0=self -/
def m_Maker_called (w : NW) : NS :=
    (sRet (mC (.str "product")))
@[irreducible] def sp_Maker_called : NSp := spOf 1 m_Maker_called
/-- Stretch_called(self) : 0=self -/
def m_Stretch_called (w : NW) : NS :=
    (sRet (mC (.str "stretch")))
@[irreducible] def sp_Stretch_called : NSp := spOf 1 m_Stretch_called
/-- Sum_called(self) : 0=self -/
def m_Sum_called (w : NW) : NS :=
    (sRet (mC (.str "sum")))
@[irreducible] def sp_Sum_called : NSp := spOf 1 m_Sum_called
def mt_Maker_called : MT := fun c => if c = "Product" then some (1, sp_Maker_called) else if c = "Stretch" then some (1, sp_Stretch_called) else if c = "Sum" then some (1, sp_Sum_called) else none
/-- Maker_plain(self) : 0=self -/
def m_Maker_plain (w : NW) : NS :=
    (sRet (mOp nAdd (mTup (mCons (mMeth "called" mt_Maker_called w (mVar 0) mNil) (mCons (mOp nIx (mUn (nFld "stock") (mVar 0)) (mC (.int 0))) (mCons (mOp nIx (mUn (nFld "stock") (mVar 0)) (mC (.int 1))) (mCons (mUn (nFld "due") (mVar 0)) mNil))))) (mUn (nFld "more") (mVar 0))))
@[irreducible] def sp_Maker_plain : NSp := spOf 1 m_Maker_plain
/-- _law_mixed(_law_cell, _law_k) : 0=_law_cell 1=_law_k -/
def m__law_mixed (w : NW) : NS :=
    (sRet (mOp nMod (mOp nMul (mOp nMod (mOp nAdd (mOp nAdd (mOp nMul (mVar 0) (mOp nAdd (mC (.int 48271)) (mOp nMul (mOp nMul (mC (.int 2)) (mVar 1)) (mVar 1)))) (mOp nMul (mC (.int 69621)) (mVar 1))) (mC (.int 11))) (mC (.int 2147483647))) (mC (.int 69621))) (mC (.int 2147483629))))
@[irreducible] def sp__law_mixed : NSp := spOf 2 m__law_mixed
/-- _law_draw(_law_state_here, _law_many) : 0=_law_state_here 1=_law_many 2=_law_found 3=_law_number -/
def m__law_draw (w : NW) : NS :=
    (sSeq (sAsg (mOp nAdd (mOp nIx (mVar 0) (mC (.str "at"))) (mC (.int 1))) (gIx (mVar 0) (mC (.str "at"))))
    (sSeq (sIf (mAnd (mTst (mOp nIx (mVar 0) (mC (.str "free")))) (mTst (mOp nGt (mOp nIx (mVar 0) (mC (.str "left"))) (mC (.int 0)))))
    (sSeq (sSet 2 (mOp nMod (mOp nIx (mVar 0) (mC (.str "left"))) (mVar 1)))
    (sSeq (sAsg (mOp nDiv (mOp nIx (mVar 0) (mC (.str "left"))) (mVar 1)) (gIx (mVar 0) (mC (.str "left"))))
    (sRet (mVar 2))))
    sNext)
    (sSeq (sSet 3 (mCall 2 sp__law_mixed w (mCons (mCall 2 sp__law_mixed w (mCons (mOp nIx (mVar 0) (mC (.str "seed"))) (mCons (mOp nIx (mVar 0) (mC (.str "at"))) mNil))) (mCons (mOp nAdd (mC (.int 40)) (mOp nIx (mVar 0) (mC (.str "at")))) mNil))))
    (sRet (mOp nMod (mOp nDiv (mOp nAdd (mOp nMul (mVar 3) (mC (.int 2147483647))) (mCall 2 sp__law_mixed w (mCons (mVar 3) (mCons (mOp nAdd (mC (.int 7)) (mOp nIx (mVar 0) (mC (.str "at")))) mNil)))) (mC (.int 64))) (mVar 1))))))
@[irreducible] def sp__law_draw : NSp := spOf 4 m__law_draw
/-- _law_odd_rumour(_law_state_here) : 0=_law_state_here 1=_law_some -/
def m__law_odd_rumour (w : NW) : NS :=
    (sSeq (sSet 1 (mLst (mCons (mC .non) (mCons (mC (.int 5)) (mCons (mC (.str "salt")) (mCons (mLst (mCons (mC (.int 1)) (mCons (mC (.int 2)) mNil))) (mCons mDic0 (mCons (mTup mNil) (mCons (mTup (mCons (mC (.int 1)) mNil)) (mCons (mTup (mCons (mC (.int 1)) (mCons (mC (.int 2)) (mCons (mC (.int 3)) mNil)))) (mCons (mTup (mCons (mC (.int 0)) (mCons (mC (.int 1)) mNil))) (mCons (mTup (mCons (mC (.int 1)) (mCons (mC (.int 0)) mNil))) (mCons (mTup (mCons (mUn nNeg (mC (.int 1))) (mCons (mC (.int 1)) mNil))) (mCons (mTup (mCons (mC (.int 1)) (mCons (mC .non) mNil))) mNil))))))))))))))
    (sSeq (sAug 1 (mLst (mCons (mTup (mCons (mC (.int 1)) (mCons (mOp nAdd (mC (.int 1000001)) (mCall 2 sp__law_draw w (mCons (mVar 0) (mCons (mOp nPow (mC (.int 10)) (mC (.int 6))) mNil)))) mNil))) (mCons (mTup (mCons (mC (.bl true)) (mCons (mC (.int 1)) mNil))) (mCons (mTup (mCons (mC (.str "1")) (mCons (mC (.int 1)) mNil))) (mCons (mTup (mCons (mLst (mCons (mC (.int 1)) mNil)) (mCons (mC (.int 1)) mNil))) (mCons (mTup (mCons (mC (.int 1000001)) (mCons (mC (.int 1)) mNil))) (mCons (mTup (mCons (mC (.int 1)) (mCons (mC (.bl false)) mNil))) mNil))))))) nAdd')
    (sRet (mOp nIx (mVar 1) (mCall 2 sp__law_draw w (mCons (mVar 0) (mCons (mCallB nLen (mCons (mVar 1) mNil)) mNil)))))))
@[irreducible] def sp__law_odd_rumour : NSp := spOf 2 m__law_odd_rumour
/-- _law_pays(_law_rumour_here, _law_ware, _law_count, _law_many) : 0=_law_rumour_here 1=_law_ware 2=_law_count 3=_law_many 4=_law_worths 5=_law_fellow -/
def m__law_pays (w : NW) : NS :=
    (sSeq (sSet 4 (mDisp [(.inr "salt", (mOp nIx (mVar 0) (mC (.int 1)))), (.inr "cloth", (mOp nIx (mVar 0) (mC (.int 0))))]))
    (sSeq (sSet 5 (mOp nIx (mLst (mCons (mC (.str "cloth")) (mCons (mC (.str "salt")) mNil))) (mLm nIndexL (mLst (mCons (mC (.str "salt")) (mCons (mC (.str "cloth")) mNil))) (mCons (mVar 1) mNil))))
    (sRet (mOp nSub (mOp nMul (mVar 3) (mOp nIx (mVar 4) (mVar 5))) (mOp nMul (mVar 2) (mOp nIx (mVar 4) (mVar 1)))))))
@[irreducible] def sp__law_pays : NSp := spOf 6 m__law_pays
/-- _law_due(_law_state_here) : 0=_law_state_here 1=_law_kind 2=_law_bottom -/
def m__law_due (w : NW) : NS :=
    (sSeq (sSet 1 (mCall 2 sp__law_draw w (mCons (mVar 0) (mCons (mC (.int 6)) mNil))))
    (sSeq (sIf (mTst (mOp nLt (mVar 1) (mC (.int 4))))
    (sRet (mOp nIx (mLst (mCons (mTup (mCons (mC (.int 0)) (mCons (mC (.int 1)) mNil))) (mCons (mTup (mCons (mC (.int 1)) (mCons (mC (.int 10)) mNil))) (mCons (mTup (mCons (mC (.int 3)) (mCons (mC (.int 1000)) mNil))) (mCons (mTup (mCons (mC (.int 0)) (mCons (mC (.int 10000)) mNil))) mNil))))) (mVar 1)))
    sNext)
    (sSeq (sSet 2 (mIf (mTst (mOp nEq (mVar 1) (mC (.int 4)))) (mC (.int 10000)) (mOp nAdd (mC (.int 1)) (mCall 2 sp__law_draw w (mCons (mVar 0) (mCons (mC (.int 10000)) mNil))))))
    (sRet (mTup (mCons (mCall 2 sp__law_draw w (mCons (mVar 0) (mCons (mOp nAdd (mOp nDiv (mVar 2) (mC (.int 10))) (mC (.int 1))) mNil))) (mCons (mVar 2) mNil)))))))
@[irreducible] def sp__law_due : NSp := spOf 3 m__law_due
/-- _law_plain(_law_state_here, _law_most) : 0=_law_state_here 1=_law_most 2=_law_kind 3=_law_salt 4=_law_cloth 5=_law_due_here 6=_law_size 7=_law_one 8=_law_other -/
def m__law_plain (w : NW) : NS :=
    (sSeq (sSet 2 (mCall 2 sp__law_draw w (mCons (mVar 0) (mCons (mC (.int 3)) mNil))))
    (sSeq (sSet 3 (mCall 2 sp__law_draw w (mCons (mVar 0) (mCons (mOp nAdd (mVar 1) (mC (.int 1))) mNil))))
    (sSeq (sSet 4 (mCall 2 sp__law_draw w (mCons (mVar 0) (mCons (mOp nAdd (mVar 1) (mC (.int 1))) mNil))))
    (sSeq (sSet 5 (mCall 1 sp__law_due w (mCons (mVar 0) mNil)))
    (sSeq (sIf (mTst (mOp nEq (mVar 2) (mC (.int 0))))
    (sRet (mTup (mCons (mC (.str "product")) (mCons (mCallB nMax2 (mCons (mC (.int 1)) (mCons (mVar 3) mNil))) (mCons (mCallB nMax2 (mCons (mC (.int 1)) (mCons (mVar 4) mNil))) (mCons (mVar 5) mNil))))))
    sNext)
    (sSeq (sIf (mTst (mOp nEq (mVar 2) (mC (.int 1))))
    (sSeq (sSet 6 (mOp nIx (mLst (mCons (mC (.int 2)) (mCons (mOp nAdd (mVar 1) (mC (.int 1))) (mCons (mC (.int 1000000)) (mCons (mOp nPow (mC (.int 10)) (mC (.int 12))) mNil))))) (mCall 2 sp__law_draw w (mCons (mVar 0) (mCons (mC (.int 4)) mNil)))))
    (sSeq (sSet 7 (mCall 2 sp__law_draw w (mCons (mVar 0) (mCons (mVar 6) mNil))))
    (sSeq (sSet 8 (mCall 2 sp__law_draw w (mCons (mVar 0) (mCons (mVar 6) mNil))))
    (sRet (mTup (mCons (mC (.str "stretch")) (mCons (mVar 3) (mCons (mVar 4) (mCons (mVar 5) (mCons (mTup (mCons (mCallB nMax2 (mCons (mVar 7) (mCons (mCallB nInt1 (mCons (mOp nEq (mVar 3) (mC (.int 0))) mNil)) mNil))) (mCons (mCallB nMax2 (mCons (mVar 8) (mCons (mCallB nInt1 (mCons (mOp nEq (mVar 4) (mC (.int 0))) mNil)) mNil))) mNil))) mNil))))))))))
    sNext)
    (sSeq (sSet 6 (mOp nIx (mLst (mCons (mC (.int 1)) (mCons (mC (.int 9)) (mCons (mC (.int 1000000)) mNil)))) (mCall 2 sp__law_draw w (mCons (mVar 0) (mCons (mC (.int 3)) mNil)))))
    (sSeq (sSet 7 (mOp nAdd (mC (.int 1)) (mCall 2 sp__law_draw w (mCons (mVar 0) (mCons (mVar 6) mNil)))))
    (sRet (mTup (mCons (mC (.str "sum")) (mCons (mVar 3) (mCons (mVar 4) (mCons (mVar 5) (mCons (mTup (mCons (mVar 7) (mCons (mOp nAdd (mC (.int 1)) (mCall 2 sp__law_draw w (mCons (mVar 0) (mCons (mVar 6) mNil)))) mNil))) mNil)))))))))))))))
@[irreducible] def sp__law_plain : NSp := spOf 9 m__law_plain
/-- _law_sides(_law_plain_here, _law_ware) : 0=_law_plain_here 1=_law_ware 2=_law_at 3=_law_haves 4=_law_props -/
def m__law_sides (w : NW) : NS :=
    (sSeq (sSet 2 (mLm nIndexL (mLst (mCons (mC (.str "salt")) (mCons (mC (.str "cloth")) mNil))) (mCons (mVar 1) mNil)))
    (sSeq (sSet 3 (mSl (mVar 0) (mPart (mC (.int 1))) (mPart (mC (.int 3)))))
    (sSeq (sSet 4 (mIf (mTst (mOp nEq (mOp nIx (mVar 0) (mC (.int 0))) (mC (.str "stretch")))) (mOp nIx (mVar 0) (mC (.int 4))) (mTup (mCons (mC (.int 0)) (mCons (mC (.int 0)) mNil)))))
    (sRet (mTup (mCons (mOp nAdd (mOp nIx (mVar 3) (mVar 2)) (mOp nIx (mVar 4) (mVar 2))) (mCons (mOp nAdd (mOp nIx (mVar 3) (mOp nSub (mC (.int 1)) (mVar 2))) (mOp nIx (mVar 4) (mOp nSub (mC (.int 1)) (mVar 2)))) (mCons (mOp nIx (mVar 3) (mOp nSub (mC (.int 1)) (mVar 2))) mNil))))))))
@[irreducible] def sp__law_sides : NSp := spOf 5 m__law_sides
/-- _law_rumour(_law_state_here, _law_plain_here) : 0=_law_state_here 1=_law_plain_here 2=_law_most 3=_law_one 4=_law_mine 5=_law_yours 6=_law_there 7=_law_least_here 8=_law_found 9=_law_at -/
def m__law_rumour (w : NW) : NS :=
    (sSeq (sIf (mTst (mOp nEq (mCall 2 sp__law_draw w (mCons (mVar 0) (mCons (mC (.int 2)) mNil))) (mC (.int 0))))
    (sSeq (sSet 2 (mOp nIx (mLst (mCons (mC (.int 9)) (mCons (mC (.int 1000)) (mCons (mC (.int 1000000)) mNil)))) (mCall 2 sp__law_draw w (mCons (mVar 0) (mCons (mC (.int 3)) mNil)))))
    (sSeq (sSet 3 (mOp nAdd (mC (.int 1)) (mCall 2 sp__law_draw w (mCons (mVar 0) (mCons (mVar 2) mNil)))))
    (sRet (mTup (mCons (mVar 3) (mCons (mOp nAdd (mC (.int 1)) (mCall 2 sp__law_draw w (mCons (mVar 0) (mCons (mVar 2) mNil)))) mNil))))))
    sNext)
    (sSeq (sAsg (mCall 2 sp__law_sides w (mCons (mVar 1) (mCons (mC (.str "salt")) mNil))) (gTp 3 (gsCons (gNm 4) (gsCons (gNm 5) (gsCons (gNm 6) gsNil)))))
    (sSeq (sIf (mTst (mOp nEq (mOp nIx (mVar 1) (mC (.int 0))) (mC (.str "sum"))))
    (sAsg (mOp nIx (mVar 1) (mC (.int 4))) (gTp 2 (gsCons (gNm 4) (gsCons (gNm 5) gsNil))))
    sNext)
    (sSeq (sSet 7 (mOp nAdd (mC (.int 1)) (mOp nDiv (mCallB nMax2 (mCons (mVar 4) (mCons (mVar 5) mNil))) (mC (.int 800000)))))
    (sSeq (sSet 8 (mLst (mCons (mCallB nMax2 (mCons (mC (.int 1)) (mCons (mOp nDiv (mVar 4) (mVar 7)) mNil))) (mCons (mCallB nMax2 (mCons (mC (.int 1)) (mCons (mOp nDiv (mVar 5) (mVar 7)) mNil))) mNil))))
    (sSeq (sSet 9 (mCall 2 sp__law_draw w (mCons (mVar 0) (mCons (mC (.int 2)) mNil))))
    (sSeq (sAsg (mOp nAdd (mC (.int 1)) (mOp nDiv (mOp nMul (mOp nIx (mVar 8) (mVar 9)) (mOp nAdd (mC (.int 900)) (mCall 2 sp__law_draw w (mCons (mVar 0) (mCons (mC (.int 300)) mNil))))) (mC (.int 1000)))) (gIx (mVar 8) (mVar 9)))
    (sRet (mCallB nTuple1 (mCons (mVar 8) mNil))))))))))
@[irreducible] def sp__law_rumour : NSp := spOf 10 m__law_rumour
/-- _law_cell_at(_law_script, _law_k) : 0=_law_script 1=_law_k -/
def m__law_cell_at (w : NW) : NS :=
    (sSeq (sIf (mTst (mOp nLt (mVar 1) (mCallB nLen (mCons (mVar 0) mNil))))
    (sRet (mOp nIx (mVar 0) (mVar 1)))
    sNext)
    (sRet (mC (.int 0))))
@[irreducible] def sp__law_cell_at : NSp := spOf 2 m__law_cell_at
/-- _law_state(_law_script, _law_k) : 0=_law_script 1=_law_k 2=_law_cell -/
def m__law_state (w : NW) : NS :=
    (sSeq (sSet 2 (mCall 2 sp__law_cell_at w (mCons (mVar 0) (mCons (mVar 1) mNil))))
    (sRet (mDisp [(.inr "free", (mOp nGe (mVar 2) (mOp nPow (mC (.int 10)) (mC (.int 18))))), (.inr "left", (mCallB nAbs (mCons (mVar 2) mNil))), (.inr "seed", (mCall 2 sp__law_mixed w (mCons (mVar 2) (mCons (mVar 1) mNil)))), (.inr "at", (mC (.int 0)))])))
@[irreducible] def sp__law_state : NSp := spOf 3 m__law_state
/-- _law_word(_law_e) : 0=_law_e 1=_law_some 2=_law_word_here 3=_law_fits -/
def m__law_word (w : NW) : NS :=
    (sSeq (sSet 1 (mLst (mCons (mTup (mCons (mC (.str "maker")) (mCons (mCallB (nIsi CL) (mCons (mVar 0) (mCons (mC (.cls "BadMaker")) mNil))) mNil))) (mCons (mTup (mCons (mC (.str "ware")) (mCons (mCallB (nIsi CL) (mCons (mVar 0) (mCons (mC (.cls "BadWare")) mNil))) mNil))) mNil))))
    (sSeq (sAug 1 (mLst (mCons (mTup (mCons (mC (.str "count")) (mCons (mCallB (nIsi CL) (mCons (mVar 0) (mCons (mC (.cls "BadCount")) mNil))) mNil))) (mCons (mTup (mCons (mC (.str "much")) (mCons (mCallB (nIsi CL) (mCons (mVar 0) (mCons (mC (.cls "TooMuch")) mNil))) mNil))) mNil))) nAdd')
    (sSeq (sAug 1 (mLst (mCons (mTup (mCons (mC (.str "shares")) (mCons (mCallB (nIsi CL) (mCons (mVar 0) (mCons (mC (.cls "BadShares")) mNil))) mNil))) (mCons (mTup (mCons (mC (.str "text")) (mCons (mCallB (nIsi CL) (mCons (mVar 0) (mCons (mC (.cls "NoText")) mNil))) mNil))) mNil))) nAdd')
    (sSeq (sAug 1 (mLst (mCons (mTup (mCons (mC (.str "name")) (mCons (mCallB (nIsi CL) (mCons (mVar 0) (mCons (mC (.cls "NoName")) mNil))) mNil))) (mCons (mTup (mCons (mC (.str "little")) (mCons (mCallB (nIsi CL) (mCons (mVar 0) (mCons (mC (.cls "TooLittle")) mNil))) mNil))) mNil))) nAdd')
    (sSeq (sAug 1 (mLst (mCons (mTup (mCons (mC (.str "rumour")) (mCons (mCallB (nIsi CL) (mCons (mVar 0) (mCons (mC (.cls "BadRumour")) mNil))) mNil))) (mCons (mTup (mCons (mC (.str "parting")) (mCons (mCallB (nIsi CL) (mCons (mVar 0) (mCons (mC (.cls "NoParting")) mNil))) mNil))) mNil))) nAdd')
    (sSeq (sAug 1 (mLst (mCons (mTup (mCons (mC (.str "line")) (mCons (mCallB (nIsi CL) (mCons (mVar 0) (mCons (mC (.cls "NoLine")) mNil))) mNil))) (mCons (mTup (mCons (mC (.str "bare")) (mCons (mNotV (mCallB (nIsi CL) (mCons (mVar 0) (mCons (mC (.ty "ValueError")) mNil)))) mNil))) mNil))) nAdd')
    (sRet (mM1 nJoin (mC (.str "/")) (mLc (iWalk (mVar 1)) (gTp 2 (gsCons (gNm 2) (gsCons (gNm 3) gsNil))) (mTst (mVar 3)) (mVar 2) [2, 3])))))))))
@[irreducible] def sp__law_word : NSp := spOf 4 m__law_word
/-- _law_told(_law_deed) : 0=_law_deed 1=_law_found 2=_law_caught 3=_law_e -/
def m__law_told (f : Addr) (act : NSp) (w : NW) : NS :=
    (sSeq (sSet 1 (mC .non))
    (sSeq (sSet 2 (mC .non))
    (sSeq (sTryK CL "MartError" 3 2 (fun w => (sSet 1 (mAct 0 f act w))) w)
    (sRet (mIf (mTst (mOp nIsN (mVar 2) (mC .non))) (mVar 1) (mCall 1 sp__law_word w (mCons (mVar 2) mNil)))))))
@[irreducible] def sp__law_told : NSp → NSp := spAct 4 m__law_told
/-- Maker_is_dealt(self, side, count) : 0=self 1=side 2=count -/
def m_Maker_is_dealt (w : NW) : NS :=
    (sRet (mOp nLe (mOp nAdd (mOp nIx (mUn (nFld "stock") (mVar 0)) (mVar 1)) (mVar 2)) (mC (.int 1000000000000))))
@[irreducible] def sp_Maker_is_dealt : NSp := spOf 3 m_Maker_is_dealt
/-- Maker_haves(self) : 0=self -/
def m_Maker_haves (w : NW) : NS :=
    (sRet (mTup (mCons (mOp nIx (mUn (nFld "stock") (mVar 0)) (mC (.int 0))) (mCons (mOp nIx (mUn (nFld "stock") (mVar 0)) (mC (.int 1))) mNil))))
@[irreducible] def sp_Maker_haves : NSp := spOf 1 m_Maker_haves
/-- rounded_up(top, bottom) : 0=top 1=bottom -/
def m_rounded_up (w : NW) : NS :=
    (sRet (mOp nDiv (mOp nSub (mOp nAdd (mVar 0) (mVar 1)) (mC (.int 1))) (mVar 1)))
@[irreducible] def sp_rounded_up : NSp := spOf 2 m_rounded_up
/-- product_wanted(maker, grains, side, many) : 0=maker 1=grains 2=side 3=many -/
def m_product_wanted (w : NW) : NS :=
    (sSeq (sIf (mTst (mOp nGe (mVar 3) (mOp nIx (mVar 1) (mOp nSub (mC (.int 1)) (mVar 2)))))
    (sRet (mC .non))
    sNext)
    (sRet (mCallB nMax2 (mCons (mC (.int 1)) (mCons (mCall 2 sp_rounded_up w (mCons (mOp nMul (mOp nMul (mVar 3) (mOp nIx (mVar 1) (mVar 2))) (mUn (nFld "parts") (mVar 0))) (mCons (mOp nMul (mUn (nFld "rest") (mVar 0)) (mOp nSub (mOp nIx (mVar 1) (mOp nSub (mC (.int 1)) (mVar 2))) (mVar 3))) mNil))) mNil)))))
@[irreducible] def sp_product_wanted : NSp := spOf 4 m_product_wanted
def mt_Maker_haves : MT := fun c => if c = "Product" then some (1, sp_Maker_haves) else if c = "Stretch" then some (1, sp_Maker_haves) else if c = "Sum" then some (1, sp_Maker_haves) else none
/-- Product_wanted(self, side, many) : 0=self 1=side 2=many -/
def m_Product_wanted (w : NW) : NS :=
    (sRet (mCall 4 sp_product_wanted w (mCons (mVar 0) (mCons (mMeth "haves" mt_Maker_haves w (mVar 0) mNil) (mCons (mVar 1) (mCons (mVar 2) mNil))))))
@[irreducible] def sp_Product_wanted : NSp := spOf 3 m_Product_wanted
/-- Stretch_propped(self) : 0=self 1=props -/
def m_Stretch_propped (w : NW) : NS :=
    (sSeq (sSet 1 (mOp nIx (mUn (nFld "more") (mVar 0)) (mC (.int 0))))
    (sRet (mTup (mCons (mOp nAdd (mOp nIx (mUn (nFld "stock") (mVar 0)) (mC (.int 0))) (mOp nIx (mVar 1) (mC (.int 0)))) (mCons (mOp nAdd (mOp nIx (mUn (nFld "stock") (mVar 0)) (mC (.int 1))) (mOp nIx (mVar 1) (mC (.int 1)))) mNil)))))
@[irreducible] def sp_Stretch_propped : NSp := spOf 2 m_Stretch_propped
def mt_Maker_propped : MT := fun c => if c = "Stretch" then some (1, sp_Stretch_propped) else none
/-- Stretch_wanted(self, side, many) : 0=self 1=side 2=many -/
def m_Stretch_wanted (w : NW) : NS :=
    (sRet (mCall 4 sp_product_wanted w (mCons (mVar 0) (mCons (mMeth "propped" mt_Maker_propped w (mVar 0) mNil) (mCons (mVar 1) (mCons (mVar 2) mNil))))))
@[irreducible] def sp_Stretch_wanted : NSp := spOf 3 m_Stretch_wanted
/-- Sum_wanted(self, side, many) : 0=self 1=side 2=many 3=rate -/
def m_Sum_wanted (w : NW) : NS :=
    (sSeq (sSet 3 (mOp nIx (mUn (nFld "more") (mVar 0)) (mC (.int 0))))
    (sRet (mCall 2 sp_rounded_up w (mCons (mOp nMul (mOp nMul (mVar 2) (mUn (nFld "parts") (mVar 0))) (mOp nIx (mVar 3) (mVar 1))) (mCons (mOp nMul (mUn (nFld "rest") (mVar 0)) (mOp nIx (mVar 3) (mOp nSub (mC (.int 1)) (mVar 1)))) mNil)))))
@[irreducible] def sp_Sum_wanted : NSp := spOf 4 m_Sum_wanted
/-- is_whole(thing) : 0=thing -/
def m_is_whole (w : NW) : NS :=
    (sRet (mAndV (mCallB (nIsi CL) (mCons (mVar 0) (mCons (mC (.ty "int")) mNil))) (mNotV (mCallB (nIsi CL) (mCons (mVar 0) (mCons (mC (.ty "bool")) mNil))))))
@[irreducible] def sp_is_whole : NSp := spOf 1 m_is_whole
/-- need_count(count) : 0=count -/
def m_need_count (w : NW) : NS :=
    (sIf (mOr (mNot (mTst (mCall 1 sp_is_whole w (mCons (mVar 0) mNil)))) (mTst (mOp nLt (mVar 0) (mC (.int 1)))))
    (sRaise "BadCount" w)
    sNext)
@[irreducible] def sp_need_count : NSp := spOf 1 m_need_count
/-- need_ware(ware) : 0=ware -/
def m_need_ware (w : NW) : NS :=
    (sSeq (sIf (mOr (mNot (mTst (mCallB (nIsi CL) (mCons (mVar 0) (mCons (mC (.ty "str")) mNil))))) (mTst (mOp nNin (mVar 0) (mC (.tup (c_WARES.map D.str))))))
    (sRaise "BadWare" w)
    sNext)
    (sRet (mTupIndex c_WARES (mVar 0))))
@[irreducible] def sp_need_ware : NSp := spOf 1 m_need_ware
def mt_Maker_is_dealt : MT := fun c => if c = "Product" then some (3, sp_Maker_is_dealt) else if c = "Stretch" then some (3, sp_Maker_is_dealt) else if c = "Sum" then some (3, sp_Maker_is_dealt) else none
def mt_Maker_wanted : MT := fun c => if c = "Product" then some (3, sp_Product_wanted) else if c = "Stretch" then some (3, sp_Stretch_wanted) else if c = "Sum" then some (3, sp_Sum_wanted) else none
/-- Maker_least_for(self, ware, many) : 0=self 1=ware 2=many 3=side 4=found -/
def m_Maker_least_for (w : NW) : NS :=
    (sSeq (sSet 3 (mCall 1 sp_need_ware w (mCons (mVar 1) mNil)))
    (sSeq (sDrop (mCall 1 sp_need_count w (mCons (mVar 2) mNil)))
    (sSeq (sIf (mTst (mOp nGt (mVar 2) (mOp nIx (mUn (nFld "stock") (mVar 0)) (mOp nSub (mC (.int 1)) (mVar 3)))))
    (sRet (mC .non))
    sNext)
    (sSeq (sSet 4 (mMeth "wanted" mt_Maker_wanted w (mVar 0) (mCons (mVar 3) (mCons (mVar 2) mNil))))
    (sSeq (sIf (mOr (mTst (mOp nIsN (mVar 4) (mC .non))) (mNot (mTst (mMeth "is_dealt" mt_Maker_is_dealt w (mVar 0) (mCons (mVar 3) (mCons (mVar 4) mNil))))))
    (sRet (mC .non))
    sNext)
    (sRet (mVar 4)))))))
@[irreducible] def sp_Maker_least_for : NSp := spOf 5 m_Maker_least_for
/-- product_coming(maker, grains, side, count) : 0=maker 1=grains 2=side 3=count 4=counted -/
def m_product_coming (w : NW) : NS :=
    (sSeq (sSet 4 (mOp nMul (mVar 3) (mUn (nFld "rest") (mVar 0))))
    (sRet (mOp nDiv (mOp nMul (mOp nIx (mVar 1) (mOp nSub (mC (.int 1)) (mVar 2))) (mVar 4)) (mOp nAdd (mOp nMul (mOp nIx (mVar 1) (mVar 2)) (mUn (nFld "parts") (mVar 0))) (mVar 4)))))
@[irreducible] def sp_product_coming : NSp := spOf 5 m_product_coming
/-- Product_coming(self, side, count) : 0=self 1=side 2=count -/
def m_Product_coming (w : NW) : NS :=
    (sRet (mCall 4 sp_product_coming w (mCons (mVar 0) (mCons (mMeth "haves" mt_Maker_haves w (mVar 0) mNil) (mCons (mVar 1) (mCons (mVar 2) mNil))))))
@[irreducible] def sp_Product_coming : NSp := spOf 3 m_Product_coming
/-- Stretch_coming(self, side, count) : 0=self 1=side 2=count -/
def m_Stretch_coming (w : NW) : NS :=
    (sRet (mCall 4 sp_product_coming w (mCons (mVar 0) (mCons (mMeth "propped" mt_Maker_propped w (mVar 0) mNil) (mCons (mVar 1) (mCons (mVar 2) mNil))))))
@[irreducible] def sp_Stretch_coming : NSp := spOf 3 m_Stretch_coming
/-- Sum_coming(self, side, count) : 0=self 1=side 2=count 3=rate -/
def m_Sum_coming (w : NW) : NS :=
    (sSeq (sSet 3 (mOp nIx (mUn (nFld "more") (mVar 0)) (mC (.int 0))))
    (sRet (mOp nDiv (mOp nMul (mOp nMul (mVar 2) (mUn (nFld "rest") (mVar 0))) (mOp nIx (mVar 3) (mOp nSub (mC (.int 1)) (mVar 1)))) (mOp nMul (mUn (nFld "parts") (mVar 0)) (mOp nIx (mVar 3) (mVar 1))))))
@[irreducible] def sp_Sum_coming : NSp := spOf 4 m_Sum_coming
def mt_Maker_coming : MT := fun c => if c = "Product" then some (3, sp_Product_coming) else if c = "Stretch" then some (3, sp_Stretch_coming) else if c = "Sum" then some (3, sp_Sum_coming) else none
/-- Maker_told(self, ware, count) : 0=self 1=ware 2=count 3=side -/
def m_Maker_told (w : NW) : NS :=
    (sSeq (sSet 3 (mCall 1 sp_need_ware w (mCons (mVar 1) mNil)))
    (sSeq (sDrop (mCall 1 sp_need_count w (mCons (mVar 2) mNil)))
    (sSeq (sIf (mNot (mTst (mMeth "is_dealt" mt_Maker_is_dealt w (mVar 0) (mCons (mVar 3) (mCons (mVar 2) mNil)))))
    (sRaise "TooMuch" w)
    sNext)
    (sRet (mCallB nMin2 (mCons (mMeth "coming" mt_Maker_coming w (mVar 0) (mCons (mVar 3) (mCons (mVar 2) mNil))) (mCons (mOp nIx (mUn (nFld "stock") (mVar 0)) (mOp nSub (mC (.int 1)) (mVar 3))) mNil)))))))
@[irreducible] def sp_Maker_told : NSp := spOf 4 m_Maker_told
def mt_Maker_least_for : MT := fun c => if c = "Product" then some (3, sp_Maker_least_for) else if c = "Stretch" then some (3, sp_Maker_least_for) else if c = "Sum" then some (3, sp_Maker_least_for) else none
def mt_Maker_told : MT := fun c => if c = "Product" then some (3, sp_Maker_told) else if c = "Stretch" then some (3, sp_Maker_told) else if c = "Sum" then some (3, sp_Maker_told) else none
/-- deals_of(maker, ware) : 0=maker 1=ware 2=found 3=count 4=many -/
def m_deals_of (w : NW) : NS :=
    (sSeq (sSet 2 (mLst mNil))
    (sSeq (sSet 3 (mMeth "least_for" mt_Maker_least_for w (mVar 0) (mCons (mVar 1) (mCons (mC (.int 1)) mNil))))
    (sSeq (sWhile (mTst (mOp nNotN (mVar 3) (mC .non)))
    (sSeq (sSet 4 (mMeth "told" mt_Maker_told w (mVar 0) (mCons (mVar 1) (mCons (mVar 3) mNil))))
    (sSeq (sDrop (mLm nAppend (mVar 2) (mCons (mTup (mCons (mVar 3) (mCons (mVar 4) mNil))) mNil)))
    (sSet 3 (mMeth "least_for" mt_Maker_least_for w (mVar 0) (mCons (mVar 1) (mCons (mOp nAdd (mVar 4) (mC (.int 1))) mNil)))))))
    (sRet (mVar 2)))))
@[irreducible] def sp_deals_of : NSp := spOf 5 m_deals_of
/-- need_rumour(rumour) : 0=rumour 1=one -/
def m_need_rumour (w : NW) : NS :=
    (sSeq (sIf (mOr (mNot (mTst (mCallB (nIsi CL) (mCons (mVar 0) (mCons (mC (.ty "tuple")) mNil))))) (mTst (mOp nNe (mCallB nLen (mCons (mVar 0) mNil)) (mC (.int 2)))))
    (sRaise "BadRumour" w)
    sNext)
    (sIf (mNot (mTst (mCallB nAll (mCons (mLc (iWalk (mVar 0)) (gNm 1) mYes (mAndV (mCall 1 sp_is_whole nw0 (mCons (mVar 1) mNil)) (mChain nLe nLe (mC (.int 1)) (mVar 1) (mC (.int 1000000)))) [1]) mNil))))
    (sRaise "BadRumour" w)
    sNext))
@[irreducible] def sp_need_rumour : NSp := spOf 2 m_need_rumour
/-- gain(rumour, ware, count, many) : 0=rumour 1=ware 2=count 3=many 4=salt 5=cloth -/
def m_gain (w : NW) : NS :=
    (sSeq (sDrop (mCall 1 sp_need_rumour w (mCons (mVar 0) mNil)))
    (sSeq (sDrop (mCall 1 sp_need_ware w (mCons (mVar 1) mNil)))
    (sSeq (sPar 4 5 (mOp nIx (mVar 0) (mC (.int 1))) (mOp nIx (mVar 0) (mC (.int 0))))
    (sSeq (sIf (mTst (mOp nEq (mVar 1) (mC (.str "salt"))))
    (sRet (mOp nSub (mOp nMul (mVar 3) (mVar 5)) (mOp nMul (mVar 2) (mVar 4))))
    sNext)
    (sRet (mOp nSub (mOp nMul (mVar 3) (mVar 4)) (mOp nMul (mVar 2) (mVar 5))))))))
@[irreducible] def sp_gain : NSp := spOf 6 m_gain
/-- best_deal(maker, rumour) : 0=maker 1=rumour 2=most_paid 3=found 4=ware 5=count 6=many 7=pays -/
def m_best_deal (w : NW) : NS :=
    (sSeq (sDrop (mCall 1 sp_need_rumour w (mCons (mVar 1) mNil)))
    (sSeq (sSet 2 (mC (.int 0)))
    (sSeq (sSet 3 (mC .non))
    (sSeq (sFor (mC (.tup (c_WARES.map D.str))) (gNm 4)
    (sFor (mCall 2 sp_deals_of w (mCons (mVar 0) (mCons (mVar 4) mNil))) (gTp 2 (gsCons (gNm 5) (gsCons (gNm 6) gsNil)))
    (sSeq (sSet 7 (mCall 4 sp_gain w (mCons (mVar 1) (mCons (mVar 4) (mCons (mVar 5) (mCons (mVar 6) mNil))))))
    (sIf (mTst (mOp nGt (mVar 7) (mVar 2)))
    (sSeq (sSet 2 (mVar 7))
    (sSet 3 (mTup (mCons (mVar 4) (mCons (mVar 5) (mCons (mVar 6) mNil))))))
    sNext))))
    (sRet (mVar 3))))))
@[irreducible] def sp_best_deal : NSp := spOf 8 m_best_deal
/-- Maker___init__(self, plain) : 0=self 1=plain -/
def m_Maker___init__ (w : NW) : NS :=
    (sSeq (sFldN "stock" (mLst (mCons (mOp nIx (mVar 1) (mC (.int 1))) (mCons (mOp nIx (mVar 1) (mC (.int 2))) mNil))) (mVar 0))
    (sSeq (sFldN "due" (mOp nIx (mVar 1) (mC (.int 3))) (mVar 0))
    (sSeq (sFldN "more" (mSl (mVar 1) (mPart (mC (.int 4))) mNoPart) (mVar 0))
    (sSeq (sFldN "rest" (mOp nSub (mOp nIx (mOp nIx (mVar 1) (mC (.int 3))) (mC (.int 1))) (mOp nIx (mOp nIx (mVar 1) (mC (.int 3))) (mC (.int 0)))) (mVar 0))
    (sFldN "parts" (mOp nIx (mOp nIx (mVar 1) (mC (.int 3))) (mC (.int 1))) (mVar 0))))))
@[irreducible] def sp_Maker___init__ : NSp := spOf 2 m_Maker___init__
/-- is_among(thing, least, most) : 0=thing 1=least 2=most -/
def m_is_among (w : NW) : NS :=
    (sRet (mAndV (mCall 1 sp_is_whole w (mCons (mVar 0) mNil)) (mChain nLe nLe (mVar 1) (mVar 0) (mVar 2))))
@[irreducible] def sp_is_among : NSp := spOf 3 m_is_among
/-- is_pair(thing, least, most) : 0=thing 1=least 2=most -/
def m_is_pair (w : NW) : NS :=
    (sSeq (sIf (mOr (mNot (mTst (mCallB (nIsi CL) (mCons (mVar 0) (mCons (mC (.ty "tuple")) mNil))))) (mTst (mOp nNe (mCallB nLen (mCons (mVar 0) mNil)) (mC (.int 2)))))
    (sRet (mC (.bl false)))
    sNext)
    (sRet (mAndV (mCall 3 sp_is_among w (mCons (mOp nIx (mVar 0) (mC (.int 0))) (mCons (mVar 1) (mCons (mVar 2) mNil)))) (mCall 3 sp_is_among w (mCons (mOp nIx (mVar 0) (mC (.int 1))) (mCons (mVar 1) (mCons (mVar 2) mNil)))))))
@[irreducible] def sp_is_pair : NSp := spOf 3 m_is_pair
/-- is_due(thing) : 0=thing -/
def m_is_due (w : NW) : NS :=
    (sRet (mAndV (mCall 3 sp_is_pair w (mCons (mVar 0) (mCons (mC (.int 0)) (mCons (mC (.int 10000)) mNil)))) (mAndV (mOp nGe (mOp nIx (mVar 0) (mC (.int 1))) (mC (.int 1))) (mOp nLe (mOp nMul (mC (.int 10)) (mOp nIx (mVar 0) (mC (.int 0)))) (mOp nIx (mVar 0) (mC (.int 1)))))))
@[irreducible] def sp_is_due : NSp := spOf 1 m_is_due
/-- is_plain(thing) : 0=thing -/
def m_is_plain (w : NW) : NS :=
    (sSeq (sIf (mOr (mNot (mTst (mCallB (nIsi CL) (mCons (mVar 0) (mCons (mC (.ty "tuple")) mNil))))) (mOr (mNot (mTst (mChain nLe nLe (mC (.int 4)) (mCallB nLen (mCons (mVar 0) mNil)) (mC (.int 5))))) (mNot (mTst (mCallB (nIsi CL) (mCons (mOp nIx (mVar 0) (mC (.int 0))) (mCons (mC (.ty "str")) mNil)))))))
    (sRet (mC (.bl false)))
    sNext)
    (sSeq (sIf (mOr (mNot (mTst (mCall 3 sp_is_pair w (mCons (mSl (mVar 0) (mPart (mC (.int 1))) (mPart (mC (.int 3)))) (mCons (mC (.int 0)) (mCons (mC (.int 1000000000000)) mNil)))))) (mNot (mTst (mCall 1 sp_is_due w (mCons (mOp nIx (mVar 0) (mC (.int 3))) mNil)))))
    (sRet (mC (.bl false)))
    sNext)
    (sSeq (sIf (mTst (mOp nEq (mOp nIx (mVar 0) (mC (.int 0))) (mC (.str "product"))))
    (sRet (mAndV (mOp nEq (mCallB nLen (mCons (mVar 0) mNil)) (mC (.int 4))) (mAndV (mOp nGe (mOp nIx (mVar 0) (mC (.int 1))) (mC (.int 1))) (mOp nGe (mOp nIx (mVar 0) (mC (.int 2))) (mC (.int 1))))))
    sNext)
    (sSeq (sIf (mTst (mOp nNe (mCallB nLen (mCons (mVar 0) mNil)) (mC (.int 5))))
    (sRet (mC (.bl false)))
    sNext)
    (sSeq (sIf (mTst (mOp nEq (mOp nIx (mVar 0) (mC (.int 0))) (mC (.str "sum"))))
    (sRet (mCall 3 sp_is_pair w (mCons (mOp nIx (mVar 0) (mC (.int 4))) (mCons (mC (.int 1)) (mCons (mC (.int 1000000)) mNil)))))
    sNext)
    (sSeq (sIf (mOr (mTst (mOp nNe (mOp nIx (mVar 0) (mC (.int 0))) (mC (.str "stretch")))) (mNot (mTst (mCall 3 sp_is_pair w (mCons (mOp nIx (mVar 0) (mC (.int 4))) (mCons (mC (.int 0)) (mCons (mC (.int 1000000000000)) mNil)))))))
    (sRet (mC (.bl false)))
    sNext)
    (sRet (mAndV (mOp nGe (mOp nAdd (mOp nIx (mVar 0) (mC (.int 1))) (mOp nIx (mOp nIx (mVar 0) (mC (.int 4))) (mC (.int 0)))) (mC (.int 1))) (mOp nGe (mOp nAdd (mOp nIx (mVar 0) (mC (.int 2))) (mOp nIx (mOp nIx (mVar 0) (mC (.int 4))) (mC (.int 1)))) (mC (.int 1)))))))))))
@[irreducible] def sp_is_plain : NSp := spOf 1 m_is_plain
/-- maker_of(plain) : 0=plain -/
def m_maker_of (w : NW) : NS :=
    (sSeq (sIf (mNot (mTst (mCall 1 sp_is_plain w (mCons (mVar 0) mNil))))
    (sRaise "BadMaker" w)
    sNext)
    (sSeq (sIf (mTst (mOp nEq (mOp nIx (mVar 0) (mC (.int 0))) (mC (.str "product"))))
    (sRet (mMake "Product" 2 sp_Maker___init__ w (mCons (mVar 0) mNil)))
    sNext)
    (sSeq (sIf (mTst (mOp nEq (mOp nIx (mVar 0) (mC (.int 0))) (mC (.str "stretch"))))
    (sRet (mMake "Stretch" 2 sp_Maker___init__ w (mCons (mVar 0) mNil)))
    sNext)
    (sRet (mMake "Sum" 2 sp_Maker___init__ w (mCons (mVar 0) mNil))))))
@[irreducible] def sp_maker_of : NSp := spOf 1 m_maker_of
def mt_Maker_plain : MT := fun c => if c = "Product" then some (1, sp_Maker_plain) else if c = "Stretch" then some (1, sp_Maker_plain) else if c = "Sum" then some (1, sp_Maker_plain) else none
/-- law(_law_script) : 0=_law_script 1=_law_k 2=_law_state_here 3=_law_plain_here 4=_law_rumour_here 5=_law_ware 6=_law_count 7=_law_many 8=_law_found 9=_law_odd 10=_law_some 11=_law_no_ware 12=_law_other 13=_law_maker 14=_law_told_here -/
def m_law (w : NW) : NS :=
    (sSeq (sForR2 (mC (.int 1)) (mCallB nMax2 (mCons (mC (.int 2)) (mCons (mCallB nMin2 (mCons (mC (.int 63)) (mCons (mCallB nLen (mCons (mVar 0) mNil)) mNil))) mNil))) (gNm 1)
    (sSeq (sSet 2 (mCall 2 sp__law_state w (mCons (mVar 0) (mCons (mVar 1) mNil))))
    (sSeq (sSet 3 (mCall 2 sp__law_plain w (mCons (mVar 2) (mCons (mC (.int 30)) mNil))))
    (sSeq (sSet 4 (mCall 2 sp__law_rumour w (mCons (mVar 2) (mCons (mVar 3) mNil))))
    (sSeq (sSet 5 (mOp nIx (mLst (mCons (mC (.str "salt")) (mCons (mC (.str "cloth")) mNil))) (mCall 2 sp__law_draw w (mCons (mVar 2) (mCons (mC (.int 2)) mNil)))))
    (sSeq (sSet 6 (mOp nAdd (mC (.int 1)) (mCall 2 sp__law_draw w (mCons (mVar 2) (mCons (mOp nIx (mLst (mCons (mC (.int 50)) (mCons (mOp nPow (mC (.int 10)) (mC (.int 12))) mNil))) (mCall 2 sp__law_draw w (mCons (mVar 2) (mCons (mC (.int 2)) mNil)))) mNil)))))
    (sSeq (sSet 7 (mCall 2 sp__law_draw w (mCons (mVar 2) (mCons (mOp nIx (mLst (mCons (mC (.int 50)) (mCons (mOp nAdd (mOp nPow (mC (.int 10)) (mC (.int 12))) (mC (.int 1))) mNil))) (mCall 2 sp__law_draw w (mCons (mVar 2) (mCons (mC (.int 2)) mNil)))) mNil))))
    (sSeq (sSet 8 (mCall 4 sp_gain w (mCons (mVar 4) (mCons (mVar 5) (mCons (mVar 6) (mCons (mVar 7) mNil))))))
    (sSeq (sIf (mOr (mNot (mTst (mCallB (nIsi CL) (mCons (mVar 8) (mCons (mC (.ty "int")) mNil))))) (mTst (mCallB (nIsi CL) (mCons (mVar 8) (mCons (mC (.ty "bool")) mNil)))))
    (sRet (mC (.bl false)))
    sNext)
    (sSeq (sIf (mTst (mOp nNe (mVar 8) (mCall 4 sp__law_pays w (mCons (mVar 4) (mCons (mVar 5) (mCons (mVar 6) (mCons (mVar 7) mNil)))))))
    (sRet (mC (.bl false)))
    sNext)
    (sSeq (sSet 9 (mCall 1 sp__law_odd_rumour w (mCons (mVar 2) mNil)))
    (sSeq (sSet 10 (mLst (mCons (mC .non) (mCons (mC (.int 5)) (mCons (mC (.str "Salt")) (mCons (mC (.str "")) (mCons (mC (.str "silk")) (mCons (mLst (mCons (mC (.str "salt")) mNil)) (mCons (mTup (mCons (mC (.str "salt")) mNil)) (mCons mDic0 (mCons (mC (.bl true)) (mCons (mC (.str "salt ")) mNil))))))))))))
    (sSeq (sSet 11 (mOp nIx (mVar 10) (mCall 2 sp__law_draw w (mCons (mVar 2) (mCons (mCallB nLen (mCons (mVar 10) mNil)) mNil)))))
    (sSeq (sSet 12 (mOp nIx (mLst (mCons (mVar 5) (mCons (mVar 11) mNil))) (mCall 2 sp__law_draw w (mCons (mVar 2) (mCons (mC (.int 2)) mNil)))))
    (sSeq (sSet 13 (mCall 1 sp_maker_of w (mCons (mVar 3) mNil)))
    (sSeq (sSet 14 (mLst (mCons (mLam sp__law_told w (fun w => (mCall 4 sp_gain w (mCons (mVar 9) (mCons (mVar 12) (mCons (mVar 6) (mCons (mVar 7) mNil))))))) mNil)))
    (sSeq (sDrop (mLm nAppend (mVar 14) (mCons (mLam sp__law_told w (fun w => (mCall 4 sp_gain w (mCons (mVar 4) (mCons (mVar 11) (mCons (mVar 6) (mCons (mVar 7) mNil))))))) mNil)))
    (sSeq (sDrop (mLm nAppend (mVar 14) (mCons (mLam sp__law_told w (fun w => (mCall 2 sp_best_deal w (mCons (mVar 13) (mCons (mVar 9) mNil))))) mNil)))
    (sIf (mOr (mTst (mOp nNe (mVar 14) (mLst (mCons (mC (.str "rumour")) (mCons (mC (.str "ware")) (mCons (mC (.str "rumour")) mNil)))))) (mTst (mOp nNe (mMeth "plain" mt_Maker_plain w (mVar 13) mNil) (mVar 3))))
    (sRet (mC (.bl false)))
    sNext)))))))))))))))))))
    (sRet (mC (.bl true))))
@[irreducible] def sp_law : NSp := spOf 15 m_law
end K16

set_option Elab.async false
set_option linter.all false
set_option maxRecDepth 100000
set_option maxHeartbeats 4000000
namespace K16
open PySem PySem.Spec PyProof.Rows L2 N
variable [TabList]
def top (i : Nat) : Stmt := PySem.Challenge.pw_rumourmart_k16_gains.main.body.getD i (.Pass ⟨0, 0, 0, 0⟩)
abbrev s_Maker_called : Stmt := inClass (top 29) 1
abbrev s_Stretch_called : Stmt := inClass (top 31) 0
abbrev s_Sum_called : Stmt := inClass (top 32) 0
abbrev s_Maker_plain : Stmt := inClass (top 29) 2
abbrev s__law_mixed : Stmt := top 43
abbrev s__law_draw : Stmt := top 45
abbrev s__law_odd_rumour : Stmt := top 57
abbrev s__law_pays : Stmt := top 54
abbrev s__law_due : Stmt := top 48
abbrev s__law_plain : Stmt := top 49
abbrev s__law_sides : Stmt := top 50
abbrev s__law_rumour : Stmt := top 53
abbrev s__law_cell_at : Stmt := top 42
abbrev s__law_state : Stmt := top 44
abbrev s__law_word : Stmt := top 46
abbrev s__law_told : Stmt := top 47
abbrev s_Maker_is_dealt : Stmt := inClass (top 29) 5
abbrev s_Maker_haves : Stmt := inClass (top 29) 3
abbrev s_rounded_up : Stmt := top 25
abbrev s_product_wanted : Stmt := top 28
abbrev s_Product_wanted : Stmt := inClass (top 30) 1
abbrev s_Stretch_propped : Stmt := inClass (top 31) 1
abbrev s_Stretch_wanted : Stmt := inClass (top 31) 3
abbrev s_Sum_wanted : Stmt := inClass (top 32) 2
abbrev s_is_whole : Stmt := top 19
abbrev s_need_count : Stmt := top 24
abbrev s_need_ware : Stmt := top 23
abbrev s_Maker_least_for : Stmt := inClass (top 29) 8
abbrev s_product_coming : Stmt := top 27
abbrev s_Product_coming : Stmt := inClass (top 30) 0
abbrev s_Stretch_coming : Stmt := inClass (top 31) 2
abbrev s_Sum_coming : Stmt := inClass (top 32) 1
abbrev s_Maker_told : Stmt := inClass (top 29) 6
abbrev s_deals_of : Stmt := top 39
abbrev s_need_rumour : Stmt := top 37
abbrev s_gain : Stmt := top 38
abbrev s_best_deal : Stmt := top 40
abbrev s_Maker___init__ : Stmt := inClass (top 29) 0
abbrev s_is_among : Stmt := top 20
abbrev s_is_pair : Stmt := top 21
abbrev s_is_due : Stmt := top 22
abbrev s_is_plain : Stmt := top 33
abbrev s_maker_of : Stmt := top 34
abbrev s_law : Stmt := top 58
end K16
namespace K16
open PySem PySem.Spec PyProof.Rows L2 N
def LN : List (Str × Str) := [("law", lamQ "law")]
/-! ### the head -/
def fa : List He.Fa := ([.free "ValueError", .free "abs", .free "all", .free "bool", .free "int", .free "isinstance", .free "len", .free "max", .free "min", .free "range"] : List He.Fa) ++ ([.free "str", .free "tuple", .glo "BadCount", .exc "BadCount", .glo "BadMaker", .exc "BadMaker", .glo "BadRumour", .exc "BadRumour", .glo "BadShares", .glo "BadWare"] : List He.Fa) ++ ([.exc "BadWare", .int "MOST" 1000000000000, .int "MOST_BOTTOM" 10000, .int "MOST_RATE" 1000000, .int "MOST_WORTH" 1000000, .glo "MartError", .glo "NoLine", .glo "NoName", .glo "NoParting", .glo "NoText"] : List He.Fa) ++ ([.glo "Product", .glo "Stretch", .glo "Sum", .glo "TooLittle", .glo "TooMuch", .exc "TooMuch", .glo "WARES", .glo "_law_cell_at", .glo "_law_draw", .glo "_law_due"] : List He.Fa) ++ ([.glo "_law_least", .glo "_law_mixed", .glo "_law_odd_rumour", .glo "_law_out", .glo "_law_pays", .glo "_law_plain", .glo "_law_rumour", .glo "_law_sides", .glo "_law_state", .glo "_law_told"] : List He.Fa) ++ ([.glo "_law_word", .glo "best_deal", .glo "deals_of", .glo "gain", .glo "is_among", .glo "is_due", .glo "is_pair", .glo "is_plain", .glo "is_whole", .glo "law"] : List He.Fa) ++ ([.glo "least_terms", .glo "maker_of", .glo "need_count", .glo "need_rumour", .glo "need_ware", .glo "product_coming", .glo "product_wanted", .glo "rounded_up", .mkr "Product", .mkr "Stretch"] : List He.Fa) ++ ([.mkr "Sum", .meth "Product" "called", .meth "Stretch" "called", .meth "Sum" "called", .meth "Product" "coming", .meth "Stretch" "coming", .meth "Sum" "coming", .meth "Product" "haves", .meth "Stretch" "haves", .meth "Sum" "haves"] : List He.Fa) ++ ([.meth "Product" "is_dealt", .meth "Stretch" "is_dealt", .meth "Sum" "is_dealt", .meth "Product" "least_for", .meth "Stretch" "least_for", .meth "Sum" "least_for", .meth "Product" "plain", .meth "Stretch" "plain", .meth "Sum" "plain", .meth "Stretch" "propped"] : List He.Fa) ++ ([.meth "Product" "told", .meth "Stretch" "told", .meth "Sum" "told", .meth "Product" "wanted", .meth "Stretch" "wanted", .meth "Sum" "wanted"] : List He.Fa)
def fnl : List He.DefD := ([⟨("_law_mixed", none), "_law_mixed", "_law_mixed", defArgs s__law_mixed, defBody s__law_mixed, defScope s__law_mixed, [], []⟩, ⟨("_law_draw", none), "_law_draw", "_law_draw", defArgs s__law_draw, defBody s__law_draw, defScope s__law_draw, [], []⟩, ⟨("_law_odd_rumour", none), "_law_odd_rumour", "_law_odd_rumour", defArgs s__law_odd_rumour, defBody s__law_odd_rumour, defScope s__law_odd_rumour, [], []⟩, ⟨("_law_pays", none), "_law_pays", "_law_pays", defArgs s__law_pays, defBody s__law_pays, defScope s__law_pays, [], []⟩, ⟨("_law_due", none), "_law_due", "_law_due", defArgs s__law_due, defBody s__law_due, defScope s__law_due, [], []⟩, ⟨("_law_plain", none), "_law_plain", "_law_plain", defArgs s__law_plain, defBody s__law_plain, defScope s__law_plain, [], []⟩] : List He.DefD) ++ ([⟨("_law_sides", none), "_law_sides", "_law_sides", defArgs s__law_sides, defBody s__law_sides, defScope s__law_sides, [], []⟩, ⟨("_law_rumour", none), "_law_rumour", "_law_rumour", defArgs s__law_rumour, defBody s__law_rumour, defScope s__law_rumour, [], []⟩, ⟨("_law_cell_at", none), "_law_cell_at", "_law_cell_at", defArgs s__law_cell_at, defBody s__law_cell_at, defScope s__law_cell_at, [], []⟩, ⟨("_law_state", none), "_law_state", "_law_state", defArgs s__law_state, defBody s__law_state, defScope s__law_state, [], []⟩, ⟨("_law_word", none), "_law_word", "_law_word", defArgs s__law_word, defBody s__law_word, defScope s__law_word, [], []⟩, ⟨("_law_told", none), "_law_told", "_law_told", defArgs s__law_told, defBody s__law_told, defScope s__law_told, [], []⟩] : List He.DefD) ++ ([⟨("rounded_up", none), "rounded_up", "rounded_up", defArgs s_rounded_up, defBody s_rounded_up, defScope s_rounded_up, [], []⟩, ⟨("product_wanted", none), "product_wanted", "product_wanted", defArgs s_product_wanted, defBody s_product_wanted, defScope s_product_wanted, [], []⟩, ⟨("is_whole", none), "is_whole", "is_whole", defArgs s_is_whole, defBody s_is_whole, defScope s_is_whole, [], []⟩, ⟨("need_count", none), "need_count", "need_count", defArgs s_need_count, defBody s_need_count, defScope s_need_count, [], []⟩, ⟨("need_ware", none), "need_ware", "need_ware", defArgs s_need_ware, defBody s_need_ware, defScope s_need_ware, [], []⟩, ⟨("product_coming", none), "product_coming", "product_coming", defArgs s_product_coming, defBody s_product_coming, defScope s_product_coming, [], []⟩] : List He.DefD) ++ ([⟨("deals_of", none), "deals_of", "deals_of", defArgs s_deals_of, defBody s_deals_of, defScope s_deals_of, [], []⟩, ⟨("need_rumour", none), "need_rumour", "need_rumour", defArgs s_need_rumour, defBody s_need_rumour, defScope s_need_rumour, [], []⟩, ⟨("gain", none), "gain", "gain", defArgs s_gain, defBody s_gain, defScope s_gain, [], []⟩, ⟨("best_deal", none), "best_deal", "best_deal", defArgs s_best_deal, defBody s_best_deal, defScope s_best_deal, [], []⟩, ⟨("is_among", none), "is_among", "is_among", defArgs s_is_among, defBody s_is_among, defScope s_is_among, [], []⟩, ⟨("is_pair", none), "is_pair", "is_pair", defArgs s_is_pair, defBody s_is_pair, defScope s_is_pair, [], []⟩] : List He.DefD) ++ ([⟨("is_due", none), "is_due", "is_due", defArgs s_is_due, defBody s_is_due, defScope s_is_due, [], []⟩, ⟨("is_plain", none), "is_plain", "is_plain", defArgs s_is_plain, defBody s_is_plain, defScope s_is_plain, [], []⟩, ⟨("maker_of", none), "maker_of", "maker_of", defArgs s_maker_of, defBody s_maker_of, defScope s_maker_of, [], []⟩, ⟨("law", none), "law", "law", defArgs s_law, defBody s_law, defScope s_law, [], []⟩, ⟨("Product", some "__init__"), "__init__", "Maker.__init__", defArgs s_Maker___init__, defBody s_Maker___init__, defScope s_Maker___init__, [], []⟩, ⟨("Stretch", some "__init__"), "__init__", "Maker.__init__", defArgs s_Maker___init__, defBody s_Maker___init__, defScope s_Maker___init__, [], []⟩] : List He.DefD) ++ ([⟨("Sum", some "__init__"), "__init__", "Maker.__init__", defArgs s_Maker___init__, defBody s_Maker___init__, defScope s_Maker___init__, [], []⟩, ⟨("Product", some "called"), "called", "Maker.called", defArgs s_Maker_called, defBody s_Maker_called, defScope s_Maker_called, [], []⟩, ⟨("Stretch", some "called"), "called", "Stretch.called", defArgs s_Stretch_called, defBody s_Stretch_called, defScope s_Stretch_called, [], []⟩, ⟨("Sum", some "called"), "called", "Sum.called", defArgs s_Sum_called, defBody s_Sum_called, defScope s_Sum_called, [], []⟩, ⟨("Product", some "coming"), "coming", "Product.coming", defArgs s_Product_coming, defBody s_Product_coming, defScope s_Product_coming, [], []⟩, ⟨("Stretch", some "coming"), "coming", "Stretch.coming", defArgs s_Stretch_coming, defBody s_Stretch_coming, defScope s_Stretch_coming, [], []⟩] : List He.DefD) ++ ([⟨("Sum", some "coming"), "coming", "Sum.coming", defArgs s_Sum_coming, defBody s_Sum_coming, defScope s_Sum_coming, [], []⟩, ⟨("Product", some "haves"), "haves", "Maker.haves", defArgs s_Maker_haves, defBody s_Maker_haves, defScope s_Maker_haves, [], []⟩, ⟨("Stretch", some "haves"), "haves", "Maker.haves", defArgs s_Maker_haves, defBody s_Maker_haves, defScope s_Maker_haves, [], []⟩, ⟨("Sum", some "haves"), "haves", "Maker.haves", defArgs s_Maker_haves, defBody s_Maker_haves, defScope s_Maker_haves, [], []⟩, ⟨("Product", some "is_dealt"), "is_dealt", "Maker.is_dealt", defArgs s_Maker_is_dealt, defBody s_Maker_is_dealt, defScope s_Maker_is_dealt, [], []⟩, ⟨("Stretch", some "is_dealt"), "is_dealt", "Maker.is_dealt", defArgs s_Maker_is_dealt, defBody s_Maker_is_dealt, defScope s_Maker_is_dealt, [], []⟩] : List He.DefD) ++ ([⟨("Sum", some "is_dealt"), "is_dealt", "Maker.is_dealt", defArgs s_Maker_is_dealt, defBody s_Maker_is_dealt, defScope s_Maker_is_dealt, [], []⟩, ⟨("Product", some "least_for"), "least_for", "Maker.least_for", defArgs s_Maker_least_for, defBody s_Maker_least_for, defScope s_Maker_least_for, [], []⟩, ⟨("Stretch", some "least_for"), "least_for", "Maker.least_for", defArgs s_Maker_least_for, defBody s_Maker_least_for, defScope s_Maker_least_for, [], []⟩, ⟨("Sum", some "least_for"), "least_for", "Maker.least_for", defArgs s_Maker_least_for, defBody s_Maker_least_for, defScope s_Maker_least_for, [], []⟩, ⟨("Product", some "plain"), "plain", "Maker.plain", defArgs s_Maker_plain, defBody s_Maker_plain, defScope s_Maker_plain, [], []⟩, ⟨("Stretch", some "plain"), "plain", "Maker.plain", defArgs s_Maker_plain, defBody s_Maker_plain, defScope s_Maker_plain, [], []⟩] : List He.DefD) ++ ([⟨("Sum", some "plain"), "plain", "Maker.plain", defArgs s_Maker_plain, defBody s_Maker_plain, defScope s_Maker_plain, [], []⟩, ⟨("Stretch", some "propped"), "propped", "Stretch.propped", defArgs s_Stretch_propped, defBody s_Stretch_propped, defScope s_Stretch_propped, [], []⟩, ⟨("Product", some "told"), "told", "Maker.told", defArgs s_Maker_told, defBody s_Maker_told, defScope s_Maker_told, [], []⟩, ⟨("Stretch", some "told"), "told", "Maker.told", defArgs s_Maker_told, defBody s_Maker_told, defScope s_Maker_told, [], []⟩, ⟨("Sum", some "told"), "told", "Maker.told", defArgs s_Maker_told, defBody s_Maker_told, defScope s_Maker_told, [], []⟩, ⟨("Product", some "wanted"), "wanted", "Product.wanted", defArgs s_Product_wanted, defBody s_Product_wanted, defScope s_Product_wanted, [], []⟩] : List He.DefD) ++ ([⟨("Stretch", some "wanted"), "wanted", "Stretch.wanted", defArgs s_Stretch_wanted, defBody s_Stretch_wanted, defScope s_Stretch_wanted, [], []⟩, ⟨("Sum", some "wanted"), "wanted", "Sum.wanted", defArgs s_Sum_wanted, defBody s_Sum_wanted, defScope s_Sum_wanted, [], []⟩] : List He.DefD)
def ex (K : PySem.W.Frag) : Bool := (kfW CL K && kiW IC K) && (tupW K "WARES" c_WARES && (clsW K "Product" && (clsW K "Stretch" && (clsW K "Sum" && (tabsB LN K && true)))))
def names : List Str := (["_wall", "MartError", "BadMaker", "BadWare", "BadCount", "TooMuch", "BadShares", "NoText", "NoName", "TooLittle", "BadRumour", "NoParting"] : List Str) ++ (["NoLine", "WARES", "MOST", "MOST_BOTTOM", "MOST_RATE", "is_whole", "is_among", "is_pair", "is_due", "need_ware", "need_count", "rounded_up"] : List Str) ++ (["least_terms", "product_coming", "product_wanted", "Maker", "Product", "Stretch", "Sum", "is_plain", "maker_of", "MOST_WORTH", "need_rumour", "gain"] : List Str) ++ (["deals_of", "best_deal", "_law_cell_at", "_law_mixed", "_law_state", "_law_draw", "_law_word", "_law_told", "_law_due", "_law_plain", "_law_sides", "_law_out"] : List Str) ++ (["_law_dealt", "_law_rumour", "_law_pays", "_law_least", "_law_best", "_law_odd_rumour"] : List Str)
abbrev R : PySem.W.OpenRow := PySem.W.OpenLaw.row PySem.Challenge.rw_rumourmart_k16_gains
abbrev hk : PySem.W.Hook := hookN 6 fa fnl ex
def ob (s : PySem.W.SharedT) : AlN := obsN 6 fa fnl ex (HandSHeadRun.getT s)
theorem ob_eq (s : PySem.W.SharedT) : ob s = hk.obs s.abs := obsN_eq (HandSHeadRun.getT_eq s)
theorem run (w : World) : HandSHeadRun.RunEq R (PySem.W.view R.prog [58]) hk ob 20000 names w := by
  intro os
  kernel_rfl
end K16
namespace K16
open PySem PySem.Spec PyProof.Rows L2 N
variable [TabList]
structure Txt (K : PySem.W.Frag) (mg : Str → Option Value) : Prop where
  kf : KF CL K
  kx : KX CL K
  ki : KI IC K
  f_ValueError : mg "ValueError" = none
  f_abs : mg "abs" = none
  f_all : mg "all" = none
  f_bool : mg "bool" = none
  f_int : mg "int" = none
  f_isinstance : mg "isinstance" = none
  f_len : mg "len" = none
  f_max : mg "max" = none
  f_min : mg "min" = none
  f_range : mg "range" = none
  f_str : mg "str" = none
  f_tuple : mg "tuple" = none
  g_BadCount : mg "BadCount" = some (.ref (He.ga K "BadCount"))
  x_BadCount : (He.Fa.exc "BadCount").ok K = true
  g_BadMaker : mg "BadMaker" = some (.ref (He.ga K "BadMaker"))
  x_BadMaker : (He.Fa.exc "BadMaker").ok K = true
  g_BadRumour : mg "BadRumour" = some (.ref (He.ga K "BadRumour"))
  x_BadRumour : (He.Fa.exc "BadRumour").ok K = true
  g_BadShares : mg "BadShares" = some (.ref (He.ga K "BadShares"))
  g_BadWare : mg "BadWare" = some (.ref (He.ga K "BadWare"))
  x_BadWare : (He.Fa.exc "BadWare").ok K = true
  c_MOST : ∃ t, mg "MOST" = some (.int 1000000000000 t)
  c_MOST_BOTTOM : ∃ t, mg "MOST_BOTTOM" = some (.int 10000 t)
  c_MOST_RATE : ∃ t, mg "MOST_RATE" = some (.int 1000000 t)
  c_MOST_WORTH : ∃ t, mg "MOST_WORTH" = some (.int 1000000 t)
  g_MartError : mg "MartError" = some (.ref (He.ga K "MartError"))
  g_NoLine : mg "NoLine" = some (.ref (He.ga K "NoLine"))
  g_NoName : mg "NoName" = some (.ref (He.ga K "NoName"))
  g_NoParting : mg "NoParting" = some (.ref (He.ga K "NoParting"))
  g_NoText : mg "NoText" = some (.ref (He.ga K "NoText"))
  g_Product : mg "Product" = some (.ref (He.ga K "Product"))
  g_Stretch : mg "Stretch" = some (.ref (He.ga K "Stretch"))
  g_Sum : mg "Sum" = some (.ref (He.ga K "Sum"))
  g_TooLittle : mg "TooLittle" = some (.ref (He.ga K "TooLittle"))
  g_TooMuch : mg "TooMuch" = some (.ref (He.ga K "TooMuch"))
  x_TooMuch : (He.Fa.exc "TooMuch").ok K = true
  t_WARES : TupS K "WARES" c_WARES
  g_WARES : mg "WARES" = some (.ref (He.ga K "WARES"))
  g__law_cell_at : mg "_law_cell_at" = some (.ref (He.ga K "_law_cell_at"))
  g__law_draw : mg "_law_draw" = some (.ref (He.ga K "_law_draw"))
  g__law_due : mg "_law_due" = some (.ref (He.ga K "_law_due"))
  g__law_least : mg "_law_least" = some (.ref (He.ga K "_law_least"))
  g__law_mixed : mg "_law_mixed" = some (.ref (He.ga K "_law_mixed"))
  g__law_odd_rumour : mg "_law_odd_rumour" = some (.ref (He.ga K "_law_odd_rumour"))
  g__law_out : mg "_law_out" = some (.ref (He.ga K "_law_out"))
  g__law_pays : mg "_law_pays" = some (.ref (He.ga K "_law_pays"))
  g__law_plain : mg "_law_plain" = some (.ref (He.ga K "_law_plain"))
  g__law_rumour : mg "_law_rumour" = some (.ref (He.ga K "_law_rumour"))
  g__law_sides : mg "_law_sides" = some (.ref (He.ga K "_law_sides"))
  g__law_state : mg "_law_state" = some (.ref (He.ga K "_law_state"))
  g__law_told : mg "_law_told" = some (.ref (He.ga K "_law_told"))
  g__law_word : mg "_law_word" = some (.ref (He.ga K "_law_word"))
  g_best_deal : mg "best_deal" = some (.ref (He.ga K "best_deal"))
  g_deals_of : mg "deals_of" = some (.ref (He.ga K "deals_of"))
  g_gain : mg "gain" = some (.ref (He.ga K "gain"))
  g_is_among : mg "is_among" = some (.ref (He.ga K "is_among"))
  g_is_due : mg "is_due" = some (.ref (He.ga K "is_due"))
  g_is_pair : mg "is_pair" = some (.ref (He.ga K "is_pair"))
  g_is_plain : mg "is_plain" = some (.ref (He.ga K "is_plain"))
  g_is_whole : mg "is_whole" = some (.ref (He.ga K "is_whole"))
  g_law : mg "law" = some (.ref (He.ga K "law"))
  g_least_terms : mg "least_terms" = some (.ref (He.ga K "least_terms"))
  g_maker_of : mg "maker_of" = some (.ref (He.ga K "maker_of"))
  g_need_count : mg "need_count" = some (.ref (He.ga K "need_count"))
  g_need_rumour : mg "need_rumour" = some (.ref (He.ga K "need_rumour"))
  g_need_ware : mg "need_ware" = some (.ref (He.ga K "need_ware"))
  g_product_coming : mg "product_coming" = some (.ref (He.ga K "product_coming"))
  g_product_wanted : mg "product_wanted" = some (.ref (He.ga K "product_wanted"))
  g_rounded_up : mg "rounded_up" = some (.ref (He.ga K "rounded_up"))
  d__law_mixed : ∃ fd, FunD K "_law_mixed" "_law_mixed" (defArgs s__law_mixed) (defBody s__law_mixed) (defScope s__law_mixed) [] [] (He.ga K "_law_mixed") fd
  d__law_draw : ∃ fd, FunD K "_law_draw" "_law_draw" (defArgs s__law_draw) (defBody s__law_draw) (defScope s__law_draw) [] [] (He.ga K "_law_draw") fd
  d__law_odd_rumour : ∃ fd, FunD K "_law_odd_rumour" "_law_odd_rumour" (defArgs s__law_odd_rumour) (defBody s__law_odd_rumour) (defScope s__law_odd_rumour) [] [] (He.ga K "_law_odd_rumour") fd
  d__law_pays : ∃ fd, FunD K "_law_pays" "_law_pays" (defArgs s__law_pays) (defBody s__law_pays) (defScope s__law_pays) [] [] (He.ga K "_law_pays") fd
  d__law_due : ∃ fd, FunD K "_law_due" "_law_due" (defArgs s__law_due) (defBody s__law_due) (defScope s__law_due) [] [] (He.ga K "_law_due") fd
  d__law_plain : ∃ fd, FunD K "_law_plain" "_law_plain" (defArgs s__law_plain) (defBody s__law_plain) (defScope s__law_plain) [] [] (He.ga K "_law_plain") fd
  d__law_sides : ∃ fd, FunD K "_law_sides" "_law_sides" (defArgs s__law_sides) (defBody s__law_sides) (defScope s__law_sides) [] [] (He.ga K "_law_sides") fd
  d__law_rumour : ∃ fd, FunD K "_law_rumour" "_law_rumour" (defArgs s__law_rumour) (defBody s__law_rumour) (defScope s__law_rumour) [] [] (He.ga K "_law_rumour") fd
  d__law_cell_at : ∃ fd, FunD K "_law_cell_at" "_law_cell_at" (defArgs s__law_cell_at) (defBody s__law_cell_at) (defScope s__law_cell_at) [] [] (He.ga K "_law_cell_at") fd
  d__law_state : ∃ fd, FunD K "_law_state" "_law_state" (defArgs s__law_state) (defBody s__law_state) (defScope s__law_state) [] [] (He.ga K "_law_state") fd
  d__law_word : ∃ fd, FunD K "_law_word" "_law_word" (defArgs s__law_word) (defBody s__law_word) (defScope s__law_word) [] [] (He.ga K "_law_word") fd
  d__law_told : ∃ fd, FunD K "_law_told" "_law_told" (defArgs s__law_told) (defBody s__law_told) (defScope s__law_told) [] [] (He.ga K "_law_told") fd
  d_rounded_up : ∃ fd, FunD K "rounded_up" "rounded_up" (defArgs s_rounded_up) (defBody s_rounded_up) (defScope s_rounded_up) [] [] (He.ga K "rounded_up") fd
  d_product_wanted : ∃ fd, FunD K "product_wanted" "product_wanted" (defArgs s_product_wanted) (defBody s_product_wanted) (defScope s_product_wanted) [] [] (He.ga K "product_wanted") fd
  d_is_whole : ∃ fd, FunD K "is_whole" "is_whole" (defArgs s_is_whole) (defBody s_is_whole) (defScope s_is_whole) [] [] (He.ga K "is_whole") fd
  d_need_count : ∃ fd, FunD K "need_count" "need_count" (defArgs s_need_count) (defBody s_need_count) (defScope s_need_count) [] [] (He.ga K "need_count") fd
  d_need_ware : ∃ fd, FunD K "need_ware" "need_ware" (defArgs s_need_ware) (defBody s_need_ware) (defScope s_need_ware) [] [] (He.ga K "need_ware") fd
  d_product_coming : ∃ fd, FunD K "product_coming" "product_coming" (defArgs s_product_coming) (defBody s_product_coming) (defScope s_product_coming) [] [] (He.ga K "product_coming") fd
  d_deals_of : ∃ fd, FunD K "deals_of" "deals_of" (defArgs s_deals_of) (defBody s_deals_of) (defScope s_deals_of) [] [] (He.ga K "deals_of") fd
  d_need_rumour : ∃ fd, FunD K "need_rumour" "need_rumour" (defArgs s_need_rumour) (defBody s_need_rumour) (defScope s_need_rumour) [] [] (He.ga K "need_rumour") fd
  d_gain : ∃ fd, FunD K "gain" "gain" (defArgs s_gain) (defBody s_gain) (defScope s_gain) [] [] (He.ga K "gain") fd
  d_best_deal : ∃ fd, FunD K "best_deal" "best_deal" (defArgs s_best_deal) (defBody s_best_deal) (defScope s_best_deal) [] [] (He.ga K "best_deal") fd
  d_is_among : ∃ fd, FunD K "is_among" "is_among" (defArgs s_is_among) (defBody s_is_among) (defScope s_is_among) [] [] (He.ga K "is_among") fd
  d_is_pair : ∃ fd, FunD K "is_pair" "is_pair" (defArgs s_is_pair) (defBody s_is_pair) (defScope s_is_pair) [] [] (He.ga K "is_pair") fd
  d_is_due : ∃ fd, FunD K "is_due" "is_due" (defArgs s_is_due) (defBody s_is_due) (defScope s_is_due) [] [] (He.ga K "is_due") fd
  d_is_plain : ∃ fd, FunD K "is_plain" "is_plain" (defArgs s_is_plain) (defBody s_is_plain) (defScope s_is_plain) [] [] (He.ga K "is_plain") fd
  d_maker_of : ∃ fd, FunD K "maker_of" "maker_of" (defArgs s_maker_of) (defBody s_maker_of) (defScope s_maker_of) [] [] (He.ga K "maker_of") fd
  d_law : ∃ fd, FunD K "law" "law" (defArgs s_law) (defBody s_law) (defScope s_law) [] [] (He.ga K "law") fd
  co_Product : ClsOk K "Product"
  k_Product : Mk K (He.ga K "Product") (He.ma K (He.ga K "Product") "__init__")
  d_Product_init : ∃ fd, FunD K "__init__" "Maker.__init__" (defArgs s_Maker___init__) (defBody s_Maker___init__) (defScope s_Maker___init__) [] [] (He.ma K (He.ga K "Product") "__init__") fd
  co_Stretch : ClsOk K "Stretch"
  k_Stretch : Mk K (He.ga K "Stretch") (He.ma K (He.ga K "Stretch") "__init__")
  d_Stretch_init : ∃ fd, FunD K "__init__" "Maker.__init__" (defArgs s_Maker___init__) (defBody s_Maker___init__) (defScope s_Maker___init__) [] [] (He.ma K (He.ga K "Stretch") "__init__") fd
  co_Sum : ClsOk K "Sum"
  k_Sum : Mk K (He.ga K "Sum") (He.ma K (He.ga K "Sum") "__init__")
  d_Sum_init : ∃ fd, FunD K "__init__" "Maker.__init__" (defArgs s_Maker___init__) (defBody s_Maker___init__) (defScope s_Maker___init__) [] [] (He.ma K (He.ga K "Sum") "__init__") fd
  m_Product_called : Meth K (He.ga K "Product") "called" (He.ma K (He.ga K "Product") "called")
  d_Product_called : ∃ fd, FunD K "called" "Maker.called" (defArgs s_Maker_called) (defBody s_Maker_called) (defScope s_Maker_called) [] [] (He.ma K (He.ga K "Product") "called") fd
  m_Stretch_called : Meth K (He.ga K "Stretch") "called" (He.ma K (He.ga K "Stretch") "called")
  d_Stretch_called : ∃ fd, FunD K "called" "Stretch.called" (defArgs s_Stretch_called) (defBody s_Stretch_called) (defScope s_Stretch_called) [] [] (He.ma K (He.ga K "Stretch") "called") fd
  m_Sum_called : Meth K (He.ga K "Sum") "called" (He.ma K (He.ga K "Sum") "called")
  d_Sum_called : ∃ fd, FunD K "called" "Sum.called" (defArgs s_Sum_called) (defBody s_Sum_called) (defScope s_Sum_called) [] [] (He.ma K (He.ga K "Sum") "called") fd
  m_Product_coming : Meth K (He.ga K "Product") "coming" (He.ma K (He.ga K "Product") "coming")
  d_Product_coming : ∃ fd, FunD K "coming" "Product.coming" (defArgs s_Product_coming) (defBody s_Product_coming) (defScope s_Product_coming) [] [] (He.ma K (He.ga K "Product") "coming") fd
  m_Stretch_coming : Meth K (He.ga K "Stretch") "coming" (He.ma K (He.ga K "Stretch") "coming")
  d_Stretch_coming : ∃ fd, FunD K "coming" "Stretch.coming" (defArgs s_Stretch_coming) (defBody s_Stretch_coming) (defScope s_Stretch_coming) [] [] (He.ma K (He.ga K "Stretch") "coming") fd
  m_Sum_coming : Meth K (He.ga K "Sum") "coming" (He.ma K (He.ga K "Sum") "coming")
  d_Sum_coming : ∃ fd, FunD K "coming" "Sum.coming" (defArgs s_Sum_coming) (defBody s_Sum_coming) (defScope s_Sum_coming) [] [] (He.ma K (He.ga K "Sum") "coming") fd
  m_Product_haves : Meth K (He.ga K "Product") "haves" (He.ma K (He.ga K "Product") "haves")
  d_Product_haves : ∃ fd, FunD K "haves" "Maker.haves" (defArgs s_Maker_haves) (defBody s_Maker_haves) (defScope s_Maker_haves) [] [] (He.ma K (He.ga K "Product") "haves") fd
  m_Stretch_haves : Meth K (He.ga K "Stretch") "haves" (He.ma K (He.ga K "Stretch") "haves")
  d_Stretch_haves : ∃ fd, FunD K "haves" "Maker.haves" (defArgs s_Maker_haves) (defBody s_Maker_haves) (defScope s_Maker_haves) [] [] (He.ma K (He.ga K "Stretch") "haves") fd
  m_Sum_haves : Meth K (He.ga K "Sum") "haves" (He.ma K (He.ga K "Sum") "haves")
  d_Sum_haves : ∃ fd, FunD K "haves" "Maker.haves" (defArgs s_Maker_haves) (defBody s_Maker_haves) (defScope s_Maker_haves) [] [] (He.ma K (He.ga K "Sum") "haves") fd
  m_Product_is_dealt : Meth K (He.ga K "Product") "is_dealt" (He.ma K (He.ga K "Product") "is_dealt")
  d_Product_is_dealt : ∃ fd, FunD K "is_dealt" "Maker.is_dealt" (defArgs s_Maker_is_dealt) (defBody s_Maker_is_dealt) (defScope s_Maker_is_dealt) [] [] (He.ma K (He.ga K "Product") "is_dealt") fd
  m_Stretch_is_dealt : Meth K (He.ga K "Stretch") "is_dealt" (He.ma K (He.ga K "Stretch") "is_dealt")
  d_Stretch_is_dealt : ∃ fd, FunD K "is_dealt" "Maker.is_dealt" (defArgs s_Maker_is_dealt) (defBody s_Maker_is_dealt) (defScope s_Maker_is_dealt) [] [] (He.ma K (He.ga K "Stretch") "is_dealt") fd
  m_Sum_is_dealt : Meth K (He.ga K "Sum") "is_dealt" (He.ma K (He.ga K "Sum") "is_dealt")
  d_Sum_is_dealt : ∃ fd, FunD K "is_dealt" "Maker.is_dealt" (defArgs s_Maker_is_dealt) (defBody s_Maker_is_dealt) (defScope s_Maker_is_dealt) [] [] (He.ma K (He.ga K "Sum") "is_dealt") fd
  m_Product_least_for : Meth K (He.ga K "Product") "least_for" (He.ma K (He.ga K "Product") "least_for")
  d_Product_least_for : ∃ fd, FunD K "least_for" "Maker.least_for" (defArgs s_Maker_least_for) (defBody s_Maker_least_for) (defScope s_Maker_least_for) [] [] (He.ma K (He.ga K "Product") "least_for") fd
  m_Stretch_least_for : Meth K (He.ga K "Stretch") "least_for" (He.ma K (He.ga K "Stretch") "least_for")
  d_Stretch_least_for : ∃ fd, FunD K "least_for" "Maker.least_for" (defArgs s_Maker_least_for) (defBody s_Maker_least_for) (defScope s_Maker_least_for) [] [] (He.ma K (He.ga K "Stretch") "least_for") fd
  m_Sum_least_for : Meth K (He.ga K "Sum") "least_for" (He.ma K (He.ga K "Sum") "least_for")
  d_Sum_least_for : ∃ fd, FunD K "least_for" "Maker.least_for" (defArgs s_Maker_least_for) (defBody s_Maker_least_for) (defScope s_Maker_least_for) [] [] (He.ma K (He.ga K "Sum") "least_for") fd
  m_Product_plain : Meth K (He.ga K "Product") "plain" (He.ma K (He.ga K "Product") "plain")
  d_Product_plain : ∃ fd, FunD K "plain" "Maker.plain" (defArgs s_Maker_plain) (defBody s_Maker_plain) (defScope s_Maker_plain) [] [] (He.ma K (He.ga K "Product") "plain") fd
  m_Stretch_plain : Meth K (He.ga K "Stretch") "plain" (He.ma K (He.ga K "Stretch") "plain")
  d_Stretch_plain : ∃ fd, FunD K "plain" "Maker.plain" (defArgs s_Maker_plain) (defBody s_Maker_plain) (defScope s_Maker_plain) [] [] (He.ma K (He.ga K "Stretch") "plain") fd
  m_Sum_plain : Meth K (He.ga K "Sum") "plain" (He.ma K (He.ga K "Sum") "plain")
  d_Sum_plain : ∃ fd, FunD K "plain" "Maker.plain" (defArgs s_Maker_plain) (defBody s_Maker_plain) (defScope s_Maker_plain) [] [] (He.ma K (He.ga K "Sum") "plain") fd
  m_Stretch_propped : Meth K (He.ga K "Stretch") "propped" (He.ma K (He.ga K "Stretch") "propped")
  d_Stretch_propped : ∃ fd, FunD K "propped" "Stretch.propped" (defArgs s_Stretch_propped) (defBody s_Stretch_propped) (defScope s_Stretch_propped) [] [] (He.ma K (He.ga K "Stretch") "propped") fd
  m_Product_told : Meth K (He.ga K "Product") "told" (He.ma K (He.ga K "Product") "told")
  d_Product_told : ∃ fd, FunD K "told" "Maker.told" (defArgs s_Maker_told) (defBody s_Maker_told) (defScope s_Maker_told) [] [] (He.ma K (He.ga K "Product") "told") fd
  m_Stretch_told : Meth K (He.ga K "Stretch") "told" (He.ma K (He.ga K "Stretch") "told")
  d_Stretch_told : ∃ fd, FunD K "told" "Maker.told" (defArgs s_Maker_told) (defBody s_Maker_told) (defScope s_Maker_told) [] [] (He.ma K (He.ga K "Stretch") "told") fd
  m_Sum_told : Meth K (He.ga K "Sum") "told" (He.ma K (He.ga K "Sum") "told")
  d_Sum_told : ∃ fd, FunD K "told" "Maker.told" (defArgs s_Maker_told) (defBody s_Maker_told) (defScope s_Maker_told) [] [] (He.ma K (He.ga K "Sum") "told") fd
  m_Product_wanted : Meth K (He.ga K "Product") "wanted" (He.ma K (He.ga K "Product") "wanted")
  d_Product_wanted : ∃ fd, FunD K "wanted" "Product.wanted" (defArgs s_Product_wanted) (defBody s_Product_wanted) (defScope s_Product_wanted) [] [] (He.ma K (He.ga K "Product") "wanted") fd
  m_Stretch_wanted : Meth K (He.ga K "Stretch") "wanted" (He.ma K (He.ga K "Stretch") "wanted")
  d_Stretch_wanted : ∃ fd, FunD K "wanted" "Stretch.wanted" (defArgs s_Stretch_wanted) (defBody s_Stretch_wanted) (defScope s_Stretch_wanted) [] [] (He.ma K (He.ga K "Stretch") "wanted") fd
  m_Sum_wanted : Meth K (He.ga K "Sum") "wanted" (He.ma K (He.ga K "Sum") "wanted")
  d_Sum_wanted : ∃ fd, FunD K "wanted" "Sum.wanted" (defArgs s_Sum_wanted) (defBody s_Sum_wanted) (defScope s_Sum_wanted) [] [] (He.ma K (He.ga K "Sum") "wanted") fd
structure Txb (K : PySem.W.Frag) (mg : Str → Option Value) (base : Heap) : Prop extends Txt K mg where
  lt : ∀ x ∈ LN, ∃ c P, PySem.W.tabIn K x.1 = some (c, P) ∧ LamX.TabB base mg c P ∧ (P, x.2) ∈ TabList.T ∧ ∀ p ∈ TabList.T, p.1 = P → p.2 = x.2
section
variable {P : Program} {WW : World} {K : PySem.W.Frag} {mg : Str → Option Value} {base : Heap}
theorem sc_Maker_called : FnScope ["self"] ["self"] (defScope s_Maker_called) := ⟨rfl, rfl, rfl, by decide +kernel, rfl, by decide +kernel, by decide +kernel⟩
theorem ok_Maker_called {f : Addr} {fd : FuncData} (F : FunD K "called" "Maker.called" (defArgs s_Maker_called) (defBody s_Maker_called) (defScope s_Maker_called) [] [] f fd) (T : Txb K mg base) : FnOk P WW K mg base (L2.CX P WW) 1 f fd ["self"] (lSp K 1 sp_Maker_called) := by
  unfold sp_Maker_called
  refine fn_body (k := 0) (m := m_Maker_called) F sc_Maker_called (fun cdv A outer s H E w hr cx => ?_)
  have S := sc_Maker_called
  have hu64 := hr.units
  have hu1 := hu_of hr
  unfold m_Maker_called
  exact (jss_one (js_ret je_str))
theorem fn_Maker_called {f : Addr} {fd : FuncData} (F : FunD K "called" "Maker.called" (defArgs s_Maker_called) (defBody s_Maker_called) (defScope s_Maker_called) [] [] f fd) (T : Txb K mg base) : Fn P WW K mg base 1 f 1 sp_Maker_called :=
  ⟨⟨fd, ["self"], rfl, ok_Maker_called F T, F.bindsN fun _ _ _ _ _ _ us hl => match us, hl with | [_], _ => rfl⟩, F.kp⟩
theorem sc_Stretch_called : FnScope ["self"] ["self"] (defScope s_Stretch_called) := ⟨rfl, rfl, rfl, by decide +kernel, rfl, by decide +kernel, by decide +kernel⟩
theorem ok_Stretch_called {f : Addr} {fd : FuncData} (F : FunD K "called" "Stretch.called" (defArgs s_Stretch_called) (defBody s_Stretch_called) (defScope s_Stretch_called) [] [] f fd) (T : Txb K mg base) : FnOk P WW K mg base (L2.CX P WW) 1 f fd ["self"] (lSp K 1 sp_Stretch_called) := by
  unfold sp_Stretch_called
  refine fn_body (k := 0) (m := m_Stretch_called) F sc_Stretch_called (fun cdv A outer s H E w hr cx => ?_)
  have S := sc_Stretch_called
  have hu64 := hr.units
  have hu1 := hu_of hr
  unfold m_Stretch_called
  exact (jss_one (js_ret je_str))
theorem fn_Stretch_called {f : Addr} {fd : FuncData} (F : FunD K "called" "Stretch.called" (defArgs s_Stretch_called) (defBody s_Stretch_called) (defScope s_Stretch_called) [] [] f fd) (T : Txb K mg base) : Fn P WW K mg base 1 f 1 sp_Stretch_called :=
  ⟨⟨fd, ["self"], rfl, ok_Stretch_called F T, F.bindsN fun _ _ _ _ _ _ us hl => match us, hl with | [_], _ => rfl⟩, F.kp⟩
theorem sc_Sum_called : FnScope ["self"] ["self"] (defScope s_Sum_called) := ⟨rfl, rfl, rfl, by decide +kernel, rfl, by decide +kernel, by decide +kernel⟩
theorem ok_Sum_called {f : Addr} {fd : FuncData} (F : FunD K "called" "Sum.called" (defArgs s_Sum_called) (defBody s_Sum_called) (defScope s_Sum_called) [] [] f fd) (T : Txb K mg base) : FnOk P WW K mg base (L2.CX P WW) 1 f fd ["self"] (lSp K 1 sp_Sum_called) := by
  unfold sp_Sum_called
  refine fn_body (k := 0) (m := m_Sum_called) F sc_Sum_called (fun cdv A outer s H E w hr cx => ?_)
  have S := sc_Sum_called
  have hu64 := hr.units
  have hu1 := hu_of hr
  unfold m_Sum_called
  exact (jss_one (js_ret je_str))
theorem fn_Sum_called {f : Addr} {fd : FuncData} (F : FunD K "called" "Sum.called" (defArgs s_Sum_called) (defBody s_Sum_called) (defScope s_Sum_called) [] [] f fd) (T : Txb K mg base) : Fn P WW K mg base 1 f 1 sp_Sum_called :=
  ⟨⟨fd, ["self"], rfl, ok_Sum_called F T, F.bindsN fun _ _ _ _ _ _ us hl => match us, hl with | [_], _ => rfl⟩, F.kp⟩
theorem mk_Maker_called (T : Txb K mg base) : MtK P WW K mg base "called" mt_Maker_called 1 := by
  refine ⟨fun c n sp h => ?_⟩
  unfold mt_Maker_called at h
  split at h
  · rename_i e; subst e; cases h
    obtain ⟨fd, F⟩ := T.d_Product_called
    exact ⟨_, T.m_Product_called, (fn_Maker_called F T).mono (by decide)⟩
  split at h
  · rename_i e; subst e; cases h
    obtain ⟨fd, F⟩ := T.d_Stretch_called
    exact ⟨_, T.m_Stretch_called, (fn_Stretch_called F T).mono (by decide)⟩
  split at h
  · rename_i e; subst e; cases h
    obtain ⟨fd, F⟩ := T.d_Sum_called
    exact ⟨_, T.m_Sum_called, (fn_Sum_called F T).mono (by decide)⟩
  cases h
theorem sc_Maker_plain : FnScope ["self"] ["self"] (defScope s_Maker_plain) := ⟨rfl, rfl, rfl, by decide +kernel, rfl, by decide +kernel, by decide +kernel⟩
theorem ok_Maker_plain {f : Addr} {fd : FuncData} (F : FunD K "plain" "Maker.plain" (defArgs s_Maker_plain) (defBody s_Maker_plain) (defScope s_Maker_plain) [] [] f fd) (T : Txb K mg base) : FnOk P WW K mg base (L2.CX P WW) 2 f fd ["self"] (lSp K 1 sp_Maker_plain) := by
  unfold sp_Maker_plain
  refine fn_body (k := 1) (m := m_Maker_plain) F sc_Maker_plain (fun cdv A outer s H E w hr cx => ?_)
  have S := sc_Maker_plain
  have hu64 := hr.units
  have hu1 := hu_of hr
  unfold m_Maker_plain
  exact (jss_one (js_ret (je_op opN_add (je_tup (ja_cons (je_methK0 cx (mk_Maker_called T) (hr.mono (by decide)) (je_var (i := 0)) ) (ja_cons (je_ix (ixN_seqv hu1) (je_fld (je_var (i := 0))) je_int) (ja_cons (je_ix (ixN_seqv hu1) (je_fld (je_var (i := 0))) je_int) (ja_cons (je_fld (je_var (i := 0))) ja_nil))))) (je_fld (je_var (i := 0))))))
theorem fn_Maker_plain {f : Addr} {fd : FuncData} (F : FunD K "plain" "Maker.plain" (defArgs s_Maker_plain) (defBody s_Maker_plain) (defScope s_Maker_plain) [] [] f fd) (T : Txb K mg base) : Fn P WW K mg base 2 f 1 sp_Maker_plain :=
  ⟨⟨fd, ["self"], rfl, ok_Maker_plain F T, F.bindsN fun _ _ _ _ _ _ us hl => match us, hl with | [_], _ => rfl⟩, F.kp⟩
theorem sc__law_mixed : FnScope ["_law_cell", "_law_k"] ["_law_cell", "_law_k"] (defScope s__law_mixed) := ⟨rfl, rfl, rfl, by decide +kernel, rfl, by decide +kernel, by decide +kernel⟩
theorem ok__law_mixed {f : Addr} {fd : FuncData} (F : FunD K "_law_mixed" "_law_mixed" (defArgs s__law_mixed) (defBody s__law_mixed) (defScope s__law_mixed) [] [] f fd) (T : Txb K mg base) : FnOk P WW K mg base (L2.CX P WW) 1 f fd ["_law_cell", "_law_k"] (lSp K 2 sp__law_mixed) := by
  unfold sp__law_mixed
  refine fn_body (k := 0) (m := m__law_mixed) F sc__law_mixed (fun cdv A outer s H E w hr cx => ?_)
  have S := sc__law_mixed
  have hu64 := hr.units
  have hu1 := hu_of hr
  unfold m__law_mixed
  exact (jss_one (js_ret (je_op opN_mod (je_op opN_mul (je_op opN_mod (je_op opN_add (je_op opN_add (je_op opN_mul (je_var (i := 0)) (je_op opN_add je_int (je_op opN_mul (je_op opN_mul je_int (je_var (i := 1))) (je_var (i := 1))))) (je_op opN_mul je_int (je_var (i := 1)))) je_int) je_int) je_int) je_int)))
theorem fn__law_mixed {f : Addr} {fd : FuncData} (F : FunD K "_law_mixed" "_law_mixed" (defArgs s__law_mixed) (defBody s__law_mixed) (defScope s__law_mixed) [] [] f fd) (T : Txb K mg base) : Fn P WW K mg base 1 f 2 sp__law_mixed :=
  ⟨⟨fd, ["_law_cell", "_law_k"], rfl, ok__law_mixed F T, F.bindsN fun _ _ _ _ _ _ us hl => match us, hl with | [_, _], _ => rfl⟩, F.kp⟩
theorem Fn__law_mixed (T : Txb K mg base) : Fn P WW K mg base 1 (He.ga K "_law_mixed") 2 sp__law_mixed := by
  obtain ⟨fd, F⟩ := T.d__law_mixed
  exact fn__law_mixed F T
theorem sc__law_draw : FnScope ["_law_state_here", "_law_many", "_law_found", "_law_number"] ["_law_state_here", "_law_many"] (defScope s__law_draw) := ⟨rfl, rfl, rfl, by decide +kernel, rfl, by decide +kernel, by decide +kernel⟩
theorem ok__law_draw {f : Addr} {fd : FuncData} (F : FunD K "_law_draw" "_law_draw" (defArgs s__law_draw) (defBody s__law_draw) (defScope s__law_draw) [] [] f fd) (T : Txb K mg base) : FnOk P WW K mg base (L2.CX P WW) 2 f fd ["_law_state_here", "_law_many"] (lSp K 2 sp__law_draw) := by
  unfold sp__law_draw
  refine fn_body (k := 1) (m := m__law_draw) F sc__law_draw (fun cdv A outer s H E w hr cx => ?_)
  have S := sc__law_draw
  have hu64 := hr.units
  have hu1 := hu_of hr
  unfold m__law_draw
  exact (jss_cons (js_asg (je_op opN_add (je_ix (ixN_seqv hu1) (je_var (i := 0)) je_str) je_int) (jg_ix hu1 (je_var (i := 0)) je_str))
    (jss_cons (js_if (jt_w (jw_and (jt_val (je_ix (ixN_seqv hu1) (je_var (i := 0)) je_str)) (jw_and1 (jt_cmp opN_gt (je_ix (ixN_seqv hu1) (je_var (i := 0)) je_str) je_int (nomark _)))))
    (jss_cons (js_set S.nd (je_op opN_mod (je_ix (ixN_seqv hu1) (je_var (i := 0)) je_str) (je_var (i := 1))))
    (jss_cons (js_asg (je_op opN_div (je_ix (ixN_seqv hu1) (je_var (i := 0)) je_str) (je_var (i := 1))) (jg_ix hu1 (je_var (i := 0)) je_str))
    (jss_one (js_ret (je_var (i := 2))))))
    jss_nil)
    (jss_cons (js_set S.nd (je_call cx (Fn__law_mixed T) T.g__law_mixed (hr.mono (by decide)) (ja_cons (je_call cx (Fn__law_mixed T) T.g__law_mixed (hr.mono (by decide)) (ja_cons (je_ix (ixN_seqv hu1) (je_var (i := 0)) je_str) (ja_cons (je_ix (ixN_seqv hu1) (je_var (i := 0)) je_str) ja_nil))) (ja_cons (je_op opN_add je_int (je_ix (ixN_seqv hu1) (je_var (i := 0)) je_str)) ja_nil))))
    (jss_one (js_ret (je_op opN_mod (je_op opN_div (je_op opN_add (je_op opN_mul (je_var (i := 3)) je_int) (je_call cx (Fn__law_mixed T) T.g__law_mixed (hr.mono (by decide)) (ja_cons (je_var (i := 3)) (ja_cons (je_op opN_add je_int (je_ix (ixN_seqv hu1) (je_var (i := 0)) je_str)) ja_nil)))) je_int) (je_var (i := 1))))))))
theorem fn__law_draw {f : Addr} {fd : FuncData} (F : FunD K "_law_draw" "_law_draw" (defArgs s__law_draw) (defBody s__law_draw) (defScope s__law_draw) [] [] f fd) (T : Txb K mg base) : Fn P WW K mg base 2 f 2 sp__law_draw :=
  ⟨⟨fd, ["_law_state_here", "_law_many"], rfl, ok__law_draw F T, F.bindsN fun _ _ _ _ _ _ us hl => match us, hl with | [_, _], _ => rfl⟩, F.kp⟩
theorem Fn__law_draw (T : Txb K mg base) : Fn P WW K mg base 2 (He.ga K "_law_draw") 2 sp__law_draw := by
  obtain ⟨fd, F⟩ := T.d__law_draw
  exact fn__law_draw F T
theorem sc__law_odd_rumour : FnScope ["_law_state_here", "_law_some"] ["_law_state_here"] (defScope s__law_odd_rumour) := ⟨rfl, rfl, rfl, by decide +kernel, rfl, by decide +kernel, by decide +kernel⟩
theorem ok__law_odd_rumour {f : Addr} {fd : FuncData} (F : FunD K "_law_odd_rumour" "_law_odd_rumour" (defArgs s__law_odd_rumour) (defBody s__law_odd_rumour) (defScope s__law_odd_rumour) [] [] f fd) (T : Txb K mg base) : FnOk P WW K mg base (L2.CX P WW) 3 f fd ["_law_state_here"] (lSp K 1 sp__law_odd_rumour) := by
  unfold sp__law_odd_rumour
  refine fn_body (k := 2) (m := m__law_odd_rumour) F sc__law_odd_rumour (fun cdv A outer s H E w hr cx => ?_)
  have S := sc__law_odd_rumour
  have hu64 := hr.units
  have hu1 := hu_of hr
  unfold m__law_odd_rumour
  exact (jss_cons (js_set S.nd (je_lst (ja_cons je_non (ja_cons je_int (ja_cons je_str (ja_cons (je_lst (ja_cons je_int (ja_cons je_int ja_nil))) (ja_cons je_dic0 (ja_cons (je_tup ja_nil) (ja_cons (je_tup (ja_cons je_int ja_nil)) (ja_cons (je_tup (ja_cons je_int (ja_cons je_int (ja_cons je_int ja_nil)))) (ja_cons (je_tup (ja_cons je_int (ja_cons je_int ja_nil))) (ja_cons (je_tup (ja_cons je_int (ja_cons je_int ja_nil))) (ja_cons (je_tup (ja_cons (je_neg je_int) (ja_cons je_int ja_nil))) (ja_cons (je_tup (ja_cons je_int (ja_cons je_non ja_nil))) ja_nil))))))))))))))
    (jss_cons (js_aug S.nd iopN_add (je_lst (ja_cons (je_tup (ja_cons je_int (ja_cons (je_op opN_add je_int (je_call cx (Fn__law_draw T) T.g__law_draw (hr.mono (by decide)) (ja_cons (je_var (i := 0)) (ja_cons (je_op opN_pow je_int je_int) ja_nil)))) ja_nil))) (ja_cons (je_tup (ja_cons je_bl (ja_cons je_int ja_nil))) (ja_cons (je_tup (ja_cons je_str (ja_cons je_int ja_nil))) (ja_cons (je_tup (ja_cons (je_lst (ja_cons je_int ja_nil)) (ja_cons je_int ja_nil))) (ja_cons (je_tup (ja_cons je_int (ja_cons je_int ja_nil))) (ja_cons (je_tup (ja_cons je_int (ja_cons je_bl ja_nil))) ja_nil))))))))
    (jss_one (js_ret (je_ix (ixN_seqv hu1) (je_var (i := 1)) (je_call cx (Fn__law_draw T) T.g__law_draw (hr.mono (by decide)) (ja_cons (je_var (i := 0)) (ja_cons (je_callB callN_len T.f_len (ja_cons (je_var (i := 1)) ja_nil)) ja_nil))))))))
theorem fn__law_odd_rumour {f : Addr} {fd : FuncData} (F : FunD K "_law_odd_rumour" "_law_odd_rumour" (defArgs s__law_odd_rumour) (defBody s__law_odd_rumour) (defScope s__law_odd_rumour) [] [] f fd) (T : Txb K mg base) : Fn P WW K mg base 3 f 1 sp__law_odd_rumour :=
  ⟨⟨fd, ["_law_state_here"], rfl, ok__law_odd_rumour F T, F.bindsN fun _ _ _ _ _ _ us hl => match us, hl with | [_], _ => rfl⟩, F.kp⟩
theorem Fn__law_odd_rumour (T : Txb K mg base) : Fn P WW K mg base 3 (He.ga K "_law_odd_rumour") 1 sp__law_odd_rumour := by
  obtain ⟨fd, F⟩ := T.d__law_odd_rumour
  exact fn__law_odd_rumour F T
theorem sc__law_pays : FnScope ["_law_rumour_here", "_law_ware", "_law_count", "_law_many", "_law_worths", "_law_fellow"] ["_law_rumour_here", "_law_ware", "_law_count", "_law_many"] (defScope s__law_pays) := ⟨rfl, rfl, rfl, by decide +kernel, rfl, by decide +kernel, by decide +kernel⟩
theorem ok__law_pays {f : Addr} {fd : FuncData} (F : FunD K "_law_pays" "_law_pays" (defArgs s__law_pays) (defBody s__law_pays) (defScope s__law_pays) [] [] f fd) (T : Txb K mg base) : FnOk P WW K mg base (L2.CX P WW) 1 f fd ["_law_rumour_here", "_law_ware", "_law_count", "_law_many"] (lSp K 4 sp__law_pays) := by
  unfold sp__law_pays
  refine fn_body (k := 0) (m := m__law_pays) F sc__law_pays (fun cdv A outer s H E w hr cx => ?_)
  have S := sc__law_pays
  have hu64 := hr.units
  have hu1 := hu_of hr
  unfold m__law_pays
  exact (jss_cons (js_set S.nd (je_disp (jps_cons (je_ix (ixN_seqv hu1) (je_var (i := 0)) je_int) (jps_cons (je_ix (ixN_seqv hu1) (je_var (i := 0)) je_int) jps_nil))))
    (jss_cons (js_set S.nd (je_ix (ixN_seqv hu1) (je_lst (ja_cons je_str (ja_cons je_str ja_nil))) (je_index (je_lst (ja_cons je_str (ja_cons je_str ja_nil))) (ja_cons (je_var (i := 1)) ja_nil))))
    (jss_one (js_ret (je_op opN_sub (je_op opN_mul (je_var (i := 3)) (je_ix (ixN_seqv hu1) (je_var (i := 4)) (je_var (i := 5)))) (je_op opN_mul (je_var (i := 2)) (je_ix (ixN_seqv hu1) (je_var (i := 4)) (je_var (i := 1)))))))))
theorem fn__law_pays {f : Addr} {fd : FuncData} (F : FunD K "_law_pays" "_law_pays" (defArgs s__law_pays) (defBody s__law_pays) (defScope s__law_pays) [] [] f fd) (T : Txb K mg base) : Fn P WW K mg base 1 f 4 sp__law_pays :=
  ⟨⟨fd, ["_law_rumour_here", "_law_ware", "_law_count", "_law_many"], rfl, ok__law_pays F T, F.bindsN fun _ _ _ _ _ _ us hl => match us, hl with | [_, _, _, _], _ => rfl⟩, F.kp⟩
theorem Fn__law_pays (T : Txb K mg base) : Fn P WW K mg base 1 (He.ga K "_law_pays") 4 sp__law_pays := by
  obtain ⟨fd, F⟩ := T.d__law_pays
  exact fn__law_pays F T
theorem sc__law_due : FnScope ["_law_state_here", "_law_kind", "_law_bottom"] ["_law_state_here"] (defScope s__law_due) := ⟨rfl, rfl, rfl, by decide +kernel, rfl, by decide +kernel, by decide +kernel⟩
theorem ok__law_due {f : Addr} {fd : FuncData} (F : FunD K "_law_due" "_law_due" (defArgs s__law_due) (defBody s__law_due) (defScope s__law_due) [] [] f fd) (T : Txb K mg base) : FnOk P WW K mg base (L2.CX P WW) 3 f fd ["_law_state_here"] (lSp K 1 sp__law_due) := by
  unfold sp__law_due
  refine fn_body (k := 2) (m := m__law_due) F sc__law_due (fun cdv A outer s H E w hr cx => ?_)
  have S := sc__law_due
  have hu64 := hr.units
  have hu1 := hu_of hr
  unfold m__law_due
  exact (jss_cons (js_set S.nd (je_call cx (Fn__law_draw T) T.g__law_draw (hr.mono (by decide)) (ja_cons (je_var (i := 0)) (ja_cons je_int ja_nil))))
    (jss_cons (js_if (jt_cmp opN_lt (je_var (i := 1)) je_int (nomark _))
    (jss_one (js_ret (je_ix (ixN_seqv hu1) (je_lst (ja_cons (je_tup (ja_cons je_int (ja_cons je_int ja_nil))) (ja_cons (je_tup (ja_cons je_int (ja_cons je_int ja_nil))) (ja_cons (je_tup (ja_cons je_int (ja_cons je_int ja_nil))) (ja_cons (je_tup (ja_cons je_int (ja_cons je_int ja_nil))) ja_nil))))) (je_var (i := 1)))))
    jss_nil)
    (jss_cons (js_set S.nd (je_if (jt_cmp (opN_eq hu64) (je_var (i := 1)) je_int (nomark _)) je_int (je_op opN_add je_int (je_call cx (Fn__law_draw T) T.g__law_draw (hr.mono (by decide)) (ja_cons (je_var (i := 0)) (ja_cons je_int ja_nil))))))
    (jss_one (js_ret (je_tup (ja_cons (je_call cx (Fn__law_draw T) T.g__law_draw (hr.mono (by decide)) (ja_cons (je_var (i := 0)) (ja_cons (je_op opN_add (je_op opN_div (je_var (i := 2)) je_int) je_int) ja_nil))) (ja_cons (je_var (i := 2)) ja_nil))))))))
theorem fn__law_due {f : Addr} {fd : FuncData} (F : FunD K "_law_due" "_law_due" (defArgs s__law_due) (defBody s__law_due) (defScope s__law_due) [] [] f fd) (T : Txb K mg base) : Fn P WW K mg base 3 f 1 sp__law_due :=
  ⟨⟨fd, ["_law_state_here"], rfl, ok__law_due F T, F.bindsN fun _ _ _ _ _ _ us hl => match us, hl with | [_], _ => rfl⟩, F.kp⟩
theorem Fn__law_due (T : Txb K mg base) : Fn P WW K mg base 3 (He.ga K "_law_due") 1 sp__law_due := by
  obtain ⟨fd, F⟩ := T.d__law_due
  exact fn__law_due F T
theorem sc__law_plain : FnScope ["_law_state_here", "_law_most", "_law_kind", "_law_salt", "_law_cloth", "_law_due_here", "_law_size", "_law_one", "_law_other"] ["_law_state_here", "_law_most"] (defScope s__law_plain) := ⟨rfl, rfl, rfl, by decide +kernel, rfl, by decide +kernel, by decide +kernel⟩
theorem ok__law_plain {f : Addr} {fd : FuncData} (F : FunD K "_law_plain" "_law_plain" (defArgs s__law_plain) (defBody s__law_plain) (defScope s__law_plain) [] [] f fd) (T : Txb K mg base) : FnOk P WW K mg base (L2.CX P WW) 4 f fd ["_law_state_here", "_law_most"] (lSp K 2 sp__law_plain) := by
  unfold sp__law_plain
  refine fn_body (k := 3) (m := m__law_plain) F sc__law_plain (fun cdv A outer s H E w hr cx => ?_)
  have S := sc__law_plain
  have hu64 := hr.units
  have hu1 := hu_of hr
  unfold m__law_plain
  exact (jss_cons (js_set S.nd (je_call cx (Fn__law_draw T) T.g__law_draw (hr.mono (by decide)) (ja_cons (je_var (i := 0)) (ja_cons je_int ja_nil))))
    (jss_cons (js_set S.nd (je_call cx (Fn__law_draw T) T.g__law_draw (hr.mono (by decide)) (ja_cons (je_var (i := 0)) (ja_cons (je_op opN_add (je_var (i := 1)) je_int) ja_nil))))
    (jss_cons (js_set S.nd (je_call cx (Fn__law_draw T) T.g__law_draw (hr.mono (by decide)) (ja_cons (je_var (i := 0)) (ja_cons (je_op opN_add (je_var (i := 1)) je_int) ja_nil))))
    (jss_cons (js_set S.nd (je_call cx (Fn__law_due T) T.g__law_due (hr.mono (by decide)) (ja_cons (je_var (i := 0)) ja_nil)))
    (jss_cons (js_if (jt_cmp (opN_eq hu64) (je_var (i := 2)) je_int (nomark _))
    (jss_one (js_ret (je_tup (ja_cons je_str (ja_cons (je_callB (callN_max2 cx.calm) T.f_max (ja_cons je_int (ja_cons (je_var (i := 3)) ja_nil))) (ja_cons (je_callB (callN_max2 cx.calm) T.f_max (ja_cons je_int (ja_cons (je_var (i := 4)) ja_nil))) (ja_cons (je_var (i := 5)) ja_nil)))))))
    jss_nil)
    (jss_cons (js_if (jt_cmp (opN_eq hu64) (je_var (i := 2)) je_int (nomark _))
    (jss_cons (js_set S.nd (je_ix (ixN_seqv hu1) (je_lst (ja_cons je_int (ja_cons (je_op opN_add (je_var (i := 1)) je_int) (ja_cons je_int (ja_cons (je_op opN_pow je_int je_int) ja_nil))))) (je_call cx (Fn__law_draw T) T.g__law_draw (hr.mono (by decide)) (ja_cons (je_var (i := 0)) (ja_cons je_int ja_nil)))))
    (jss_cons (js_set S.nd (je_call cx (Fn__law_draw T) T.g__law_draw (hr.mono (by decide)) (ja_cons (je_var (i := 0)) (ja_cons (je_var (i := 6)) ja_nil))))
    (jss_cons (js_set S.nd (je_call cx (Fn__law_draw T) T.g__law_draw (hr.mono (by decide)) (ja_cons (je_var (i := 0)) (ja_cons (je_var (i := 6)) ja_nil))))
    (jss_one (js_ret (je_tup (ja_cons je_str (ja_cons (je_var (i := 3)) (ja_cons (je_var (i := 4)) (ja_cons (je_var (i := 5)) (ja_cons (je_tup (ja_cons (je_callB (callN_max2 cx.calm) T.f_max (ja_cons (je_var (i := 7)) (ja_cons (je_callTy callN_int T.f_int (ja_cons (je_cmp (opN_eq hu64) (je_var (i := 3)) je_int (nomark _)) ja_nil)) ja_nil))) (ja_cons (je_callB (callN_max2 cx.calm) T.f_max (ja_cons (je_var (i := 8)) (ja_cons (je_callTy callN_int T.f_int (ja_cons (je_cmp (opN_eq hu64) (je_var (i := 4)) je_int (nomark _)) ja_nil)) ja_nil))) ja_nil))) ja_nil)))))))))))
    jss_nil)
    (jss_cons (js_set S.nd (je_ix (ixN_seqv hu1) (je_lst (ja_cons je_int (ja_cons je_int (ja_cons je_int ja_nil)))) (je_call cx (Fn__law_draw T) T.g__law_draw (hr.mono (by decide)) (ja_cons (je_var (i := 0)) (ja_cons je_int ja_nil)))))
    (jss_cons (js_set S.nd (je_op opN_add je_int (je_call cx (Fn__law_draw T) T.g__law_draw (hr.mono (by decide)) (ja_cons (je_var (i := 0)) (ja_cons (je_var (i := 6)) ja_nil)))))
    (jss_one (js_ret (je_tup (ja_cons je_str (ja_cons (je_var (i := 3)) (ja_cons (je_var (i := 4)) (ja_cons (je_var (i := 5)) (ja_cons (je_tup (ja_cons (je_var (i := 7)) (ja_cons (je_op opN_add je_int (je_call cx (Fn__law_draw T) T.g__law_draw (hr.mono (by decide)) (ja_cons (je_var (i := 0)) (ja_cons (je_var (i := 6)) ja_nil)))) ja_nil))) ja_nil))))))))))))))))
theorem fn__law_plain {f : Addr} {fd : FuncData} (F : FunD K "_law_plain" "_law_plain" (defArgs s__law_plain) (defBody s__law_plain) (defScope s__law_plain) [] [] f fd) (T : Txb K mg base) : Fn P WW K mg base 4 f 2 sp__law_plain :=
  ⟨⟨fd, ["_law_state_here", "_law_most"], rfl, ok__law_plain F T, F.bindsN fun _ _ _ _ _ _ us hl => match us, hl with | [_, _], _ => rfl⟩, F.kp⟩
theorem Fn__law_plain (T : Txb K mg base) : Fn P WW K mg base 4 (He.ga K "_law_plain") 2 sp__law_plain := by
  obtain ⟨fd, F⟩ := T.d__law_plain
  exact fn__law_plain F T
theorem sc__law_sides : FnScope ["_law_plain_here", "_law_ware", "_law_at", "_law_haves", "_law_props"] ["_law_plain_here", "_law_ware"] (defScope s__law_sides) := ⟨rfl, rfl, rfl, by decide +kernel, rfl, by decide +kernel, by decide +kernel⟩
theorem ok__law_sides {f : Addr} {fd : FuncData} (F : FunD K "_law_sides" "_law_sides" (defArgs s__law_sides) (defBody s__law_sides) (defScope s__law_sides) [] [] f fd) (T : Txb K mg base) : FnOk P WW K mg base (L2.CX P WW) 1 f fd ["_law_plain_here", "_law_ware"] (lSp K 2 sp__law_sides) := by
  unfold sp__law_sides
  refine fn_body (k := 0) (m := m__law_sides) F sc__law_sides (fun cdv A outer s H E w hr cx => ?_)
  have S := sc__law_sides
  have hu64 := hr.units
  have hu1 := hu_of hr
  unfold m__law_sides
  exact (jss_cons (js_set S.nd (je_index (je_lst (ja_cons je_str (ja_cons je_str ja_nil))) (ja_cons (je_var (i := 1)) ja_nil)))
    (jss_cons (js_set S.nd (je_slice (je_var (i := 0)) (jo_some je_int) (jo_some je_int)))
    (jss_cons (js_set S.nd (je_if (jt_cmp (opN_eq hu64) (je_ix (ixN_seqv hu1) (je_var (i := 0)) je_int) je_str (nomark _)) (je_ix (ixN_seqv hu1) (je_var (i := 0)) je_int) (je_tup (ja_cons je_int (ja_cons je_int ja_nil)))))
    (jss_one (js_ret (je_tup (ja_cons (je_op opN_add (je_ix (ixN_seqv hu1) (je_var (i := 3)) (je_var (i := 2))) (je_ix (ixN_seqv hu1) (je_var (i := 4)) (je_var (i := 2)))) (ja_cons (je_op opN_add (je_ix (ixN_seqv hu1) (je_var (i := 3)) (je_op opN_sub je_int (je_var (i := 2)))) (je_ix (ixN_seqv hu1) (je_var (i := 4)) (je_op opN_sub je_int (je_var (i := 2))))) (ja_cons (je_ix (ixN_seqv hu1) (je_var (i := 3)) (je_op opN_sub je_int (je_var (i := 2)))) ja_nil)))))))))
theorem fn__law_sides {f : Addr} {fd : FuncData} (F : FunD K "_law_sides" "_law_sides" (defArgs s__law_sides) (defBody s__law_sides) (defScope s__law_sides) [] [] f fd) (T : Txb K mg base) : Fn P WW K mg base 1 f 2 sp__law_sides :=
  ⟨⟨fd, ["_law_plain_here", "_law_ware"], rfl, ok__law_sides F T, F.bindsN fun _ _ _ _ _ _ us hl => match us, hl with | [_, _], _ => rfl⟩, F.kp⟩
theorem Fn__law_sides (T : Txb K mg base) : Fn P WW K mg base 1 (He.ga K "_law_sides") 2 sp__law_sides := by
  obtain ⟨fd, F⟩ := T.d__law_sides
  exact fn__law_sides F T
theorem sc__law_rumour : FnScope ["_law_state_here", "_law_plain_here", "_law_most", "_law_one", "_law_mine", "_law_yours", "_law_there", "_law_least_here", "_law_found", "_law_at"] ["_law_state_here", "_law_plain_here"] (defScope s__law_rumour) := ⟨rfl, rfl, rfl, by decide +kernel, rfl, by decide +kernel, by decide +kernel⟩
theorem ok__law_rumour {f : Addr} {fd : FuncData} (F : FunD K "_law_rumour" "_law_rumour" (defArgs s__law_rumour) (defBody s__law_rumour) (defScope s__law_rumour) [] [] f fd) (T : Txb K mg base) : FnOk P WW K mg base (L2.CX P WW) 3 f fd ["_law_state_here", "_law_plain_here"] (lSp K 2 sp__law_rumour) := by
  unfold sp__law_rumour
  refine fn_body (k := 2) (m := m__law_rumour) F sc__law_rumour (fun cdv A outer s H E w hr cx => ?_)
  have S := sc__law_rumour
  have hu64 := hr.units
  have hu1 := hu_of hr
  unfold m__law_rumour
  exact (jss_cons (js_if (jt_cmp (opN_eq hu64) (je_call cx (Fn__law_draw T) T.g__law_draw (hr.mono (by decide)) (ja_cons (je_var (i := 0)) (ja_cons je_int ja_nil))) je_int (nomark _))
    (jss_cons (js_set S.nd (je_ix (ixN_seqv hu1) (je_lst (ja_cons je_int (ja_cons je_int (ja_cons je_int ja_nil)))) (je_call cx (Fn__law_draw T) T.g__law_draw (hr.mono (by decide)) (ja_cons (je_var (i := 0)) (ja_cons je_int ja_nil)))))
    (jss_cons (js_set S.nd (je_op opN_add je_int (je_call cx (Fn__law_draw T) T.g__law_draw (hr.mono (by decide)) (ja_cons (je_var (i := 0)) (ja_cons (je_var (i := 2)) ja_nil)))))
    (jss_one (js_ret (je_tup (ja_cons (je_var (i := 3)) (ja_cons (je_op opN_add je_int (je_call cx (Fn__law_draw T) T.g__law_draw (hr.mono (by decide)) (ja_cons (je_var (i := 0)) (ja_cons (je_var (i := 2)) ja_nil)))) ja_nil)))))))
    jss_nil)
    (jss_cons (js_asg (je_call cx (Fn__law_sides T) T.g__law_sides (hr.mono (by decide)) (ja_cons (je_var (i := 1)) (ja_cons je_str ja_nil))) (jg_tup cx (jgs_cons (jg_name S.nd) (jgs_cons (jg_name S.nd) (jgs_cons (jg_name S.nd) jgs_nil)))))
    (jss_cons (js_if (jt_cmp (opN_eq hu64) (je_ix (ixN_seqv hu1) (je_var (i := 1)) je_int) je_str (nomark _))
    (jss_one (js_asg (je_ix (ixN_seqv hu1) (je_var (i := 1)) je_int) (jg_tup cx (jgs_cons (jg_name S.nd) (jgs_cons (jg_name S.nd) jgs_nil)))))
    jss_nil)
    (jss_cons (js_set S.nd (je_op opN_add je_int (je_op opN_div (je_callB (callN_max2 cx.calm) T.f_max (ja_cons (je_var (i := 4)) (ja_cons (je_var (i := 5)) ja_nil))) je_int)))
    (jss_cons (js_set S.nd (je_lst (ja_cons (je_callB (callN_max2 cx.calm) T.f_max (ja_cons je_int (ja_cons (je_op opN_div (je_var (i := 4)) (je_var (i := 7))) ja_nil))) (ja_cons (je_callB (callN_max2 cx.calm) T.f_max (ja_cons je_int (ja_cons (je_op opN_div (je_var (i := 5)) (je_var (i := 7))) ja_nil))) ja_nil))))
    (jss_cons (js_set S.nd (je_call cx (Fn__law_draw T) T.g__law_draw (hr.mono (by decide)) (ja_cons (je_var (i := 0)) (ja_cons je_int ja_nil))))
    (jss_cons (js_asg (je_op opN_add je_int (je_op opN_div (je_op opN_mul (je_ix (ixN_seqv hu1) (je_var (i := 8)) (je_var (i := 9))) (je_op opN_add je_int (je_call cx (Fn__law_draw T) T.g__law_draw (hr.mono (by decide)) (ja_cons (je_var (i := 0)) (ja_cons je_int ja_nil))))) je_int)) (jg_ix hu1 (je_var (i := 8)) (je_var (i := 9))))
    (jss_one (js_ret (je_callTy callN_tuple T.f_tuple (ja_cons (je_var (i := 8)) ja_nil)))))))))))
theorem fn__law_rumour {f : Addr} {fd : FuncData} (F : FunD K "_law_rumour" "_law_rumour" (defArgs s__law_rumour) (defBody s__law_rumour) (defScope s__law_rumour) [] [] f fd) (T : Txb K mg base) : Fn P WW K mg base 3 f 2 sp__law_rumour :=
  ⟨⟨fd, ["_law_state_here", "_law_plain_here"], rfl, ok__law_rumour F T, F.bindsN fun _ _ _ _ _ _ us hl => match us, hl with | [_, _], _ => rfl⟩, F.kp⟩
theorem Fn__law_rumour (T : Txb K mg base) : Fn P WW K mg base 3 (He.ga K "_law_rumour") 2 sp__law_rumour := by
  obtain ⟨fd, F⟩ := T.d__law_rumour
  exact fn__law_rumour F T
theorem sc__law_cell_at : FnScope ["_law_script", "_law_k"] ["_law_script", "_law_k"] (defScope s__law_cell_at) := ⟨rfl, rfl, rfl, by decide +kernel, rfl, by decide +kernel, by decide +kernel⟩
theorem ok__law_cell_at {f : Addr} {fd : FuncData} (F : FunD K "_law_cell_at" "_law_cell_at" (defArgs s__law_cell_at) (defBody s__law_cell_at) (defScope s__law_cell_at) [] [] f fd) (T : Txb K mg base) : FnOk P WW K mg base (L2.CX P WW) 1 f fd ["_law_script", "_law_k"] (lSp K 2 sp__law_cell_at) := by
  unfold sp__law_cell_at
  refine fn_body (k := 0) (m := m__law_cell_at) F sc__law_cell_at (fun cdv A outer s H E w hr cx => ?_)
  have S := sc__law_cell_at
  have hu64 := hr.units
  have hu1 := hu_of hr
  unfold m__law_cell_at
  exact (jss_cons (js_if (jt_cmp opN_lt (je_var (i := 1)) (je_callB callN_len T.f_len (ja_cons (je_var (i := 0)) ja_nil)) (nomark _))
    (jss_one (js_ret (je_ix (ixN_seqv hu1) (je_var (i := 0)) (je_var (i := 1)))))
    jss_nil)
    (jss_one (js_ret je_int)))
theorem fn__law_cell_at {f : Addr} {fd : FuncData} (F : FunD K "_law_cell_at" "_law_cell_at" (defArgs s__law_cell_at) (defBody s__law_cell_at) (defScope s__law_cell_at) [] [] f fd) (T : Txb K mg base) : Fn P WW K mg base 1 f 2 sp__law_cell_at :=
  ⟨⟨fd, ["_law_script", "_law_k"], rfl, ok__law_cell_at F T, F.bindsN fun _ _ _ _ _ _ us hl => match us, hl with | [_, _], _ => rfl⟩, F.kp⟩
theorem Fn__law_cell_at (T : Txb K mg base) : Fn P WW K mg base 1 (He.ga K "_law_cell_at") 2 sp__law_cell_at := by
  obtain ⟨fd, F⟩ := T.d__law_cell_at
  exact fn__law_cell_at F T
theorem sc__law_state : FnScope ["_law_script", "_law_k", "_law_cell"] ["_law_script", "_law_k"] (defScope s__law_state) := ⟨rfl, rfl, rfl, by decide +kernel, rfl, by decide +kernel, by decide +kernel⟩
theorem ok__law_state {f : Addr} {fd : FuncData} (F : FunD K "_law_state" "_law_state" (defArgs s__law_state) (defBody s__law_state) (defScope s__law_state) [] [] f fd) (T : Txb K mg base) : FnOk P WW K mg base (L2.CX P WW) 2 f fd ["_law_script", "_law_k"] (lSp K 2 sp__law_state) := by
  unfold sp__law_state
  refine fn_body (k := 1) (m := m__law_state) F sc__law_state (fun cdv A outer s H E w hr cx => ?_)
  have S := sc__law_state
  have hu64 := hr.units
  have hu1 := hu_of hr
  unfold m__law_state
  exact (jss_cons (js_set S.nd (je_call cx (Fn__law_cell_at T) T.g__law_cell_at (hr.mono (by decide)) (ja_cons (je_var (i := 0)) (ja_cons (je_var (i := 1)) ja_nil))))
    (jss_one (js_ret (je_disp (jps_cons (je_cmp opN_ge (je_var (i := 2)) (je_op opN_pow je_int je_int) (nomark _)) (jps_cons (je_callB callN_abs T.f_abs (ja_cons (je_var (i := 2)) ja_nil)) (jps_cons (je_call cx (Fn__law_mixed T) T.g__law_mixed (hr.mono (by decide)) (ja_cons (je_var (i := 2)) (ja_cons (je_var (i := 1)) ja_nil))) (jps_cons je_int jps_nil))))))))
theorem fn__law_state {f : Addr} {fd : FuncData} (F : FunD K "_law_state" "_law_state" (defArgs s__law_state) (defBody s__law_state) (defScope s__law_state) [] [] f fd) (T : Txb K mg base) : Fn P WW K mg base 2 f 2 sp__law_state :=
  ⟨⟨fd, ["_law_script", "_law_k"], rfl, ok__law_state F T, F.bindsN fun _ _ _ _ _ _ us hl => match us, hl with | [_, _], _ => rfl⟩, F.kp⟩
theorem Fn__law_state (T : Txb K mg base) : Fn P WW K mg base 2 (He.ga K "_law_state") 2 sp__law_state := by
  obtain ⟨fd, F⟩ := T.d__law_state
  exact fn__law_state F T
theorem sc__law_word : FnScope ["_law_e", "_law_some", "_law_word_here", "_law_fits"] ["_law_e"] (defScope s__law_word) := ⟨rfl, rfl, rfl, by decide +kernel, rfl, by decide +kernel, by decide +kernel⟩
theorem ok__law_word {f : Addr} {fd : FuncData} (F : FunD K "_law_word" "_law_word" (defArgs s__law_word) (defBody s__law_word) (defScope s__law_word) [] [] f fd) (T : Txb K mg base) : FnOk P WW K mg base (L2.CX P WW) 1 f fd ["_law_e"] (lSp K 1 sp__law_word) := by
  unfold sp__law_word
  refine fn_body (k := 0) (m := m__law_word) F sc__law_word (fun cdv A outer s H E w hr cx => ?_)
  have S := sc__law_word
  have hu64 := hr.units
  have hu1 := hu_of hr
  unfold m__law_word
  exact (jss_cons (js_set S.nd (je_lst (ja_cons (je_tup (ja_cons je_str (ja_cons (je_callB (callN_isi T.kf) T.f_isinstance (ja_cons (je_var (i := 0)) (ja_cons (je_cls T.g_BadMaker) ja_nil))) ja_nil))) (ja_cons (je_tup (ja_cons je_str (ja_cons (je_callB (callN_isi T.kf) T.f_isinstance (ja_cons (je_var (i := 0)) (ja_cons (je_cls T.g_BadWare) ja_nil))) ja_nil))) ja_nil))))
    (jss_cons (js_aug S.nd iopN_add (je_lst (ja_cons (je_tup (ja_cons je_str (ja_cons (je_callB (callN_isi T.kf) T.f_isinstance (ja_cons (je_var (i := 0)) (ja_cons (je_cls T.g_BadCount) ja_nil))) ja_nil))) (ja_cons (je_tup (ja_cons je_str (ja_cons (je_callB (callN_isi T.kf) T.f_isinstance (ja_cons (je_var (i := 0)) (ja_cons (je_cls T.g_TooMuch) ja_nil))) ja_nil))) ja_nil))))
    (jss_cons (js_aug S.nd iopN_add (je_lst (ja_cons (je_tup (ja_cons je_str (ja_cons (je_callB (callN_isi T.kf) T.f_isinstance (ja_cons (je_var (i := 0)) (ja_cons (je_cls T.g_BadShares) ja_nil))) ja_nil))) (ja_cons (je_tup (ja_cons je_str (ja_cons (je_callB (callN_isi T.kf) T.f_isinstance (ja_cons (je_var (i := 0)) (ja_cons (je_cls T.g_NoText) ja_nil))) ja_nil))) ja_nil))))
    (jss_cons (js_aug S.nd iopN_add (je_lst (ja_cons (je_tup (ja_cons je_str (ja_cons (je_callB (callN_isi T.kf) T.f_isinstance (ja_cons (je_var (i := 0)) (ja_cons (je_cls T.g_NoName) ja_nil))) ja_nil))) (ja_cons (je_tup (ja_cons je_str (ja_cons (je_callB (callN_isi T.kf) T.f_isinstance (ja_cons (je_var (i := 0)) (ja_cons (je_cls T.g_TooLittle) ja_nil))) ja_nil))) ja_nil))))
    (jss_cons (js_aug S.nd iopN_add (je_lst (ja_cons (je_tup (ja_cons je_str (ja_cons (je_callB (callN_isi T.kf) T.f_isinstance (ja_cons (je_var (i := 0)) (ja_cons (je_cls T.g_BadRumour) ja_nil))) ja_nil))) (ja_cons (je_tup (ja_cons je_str (ja_cons (je_callB (callN_isi T.kf) T.f_isinstance (ja_cons (je_var (i := 0)) (ja_cons (je_cls T.g_NoParting) ja_nil))) ja_nil))) ja_nil))))
    (jss_cons (js_aug S.nd iopN_add (je_lst (ja_cons (je_tup (ja_cons je_str (ja_cons (je_callB (callN_isi T.kf) T.f_isinstance (ja_cons (je_var (i := 0)) (ja_cons (je_cls T.g_NoLine) ja_nil))) ja_nil))) (ja_cons (je_tup (ja_cons je_str (ja_cons (je_not (je_callB (callN_isi T.kf) T.f_isinstance (ja_cons (je_var (i := 0)) (ja_cons (je_tyB T.f_ValueError) ja_nil)))) ja_nil))) ja_nil))))
    (jss_one (js_ret (je_join je_str (je_lc (own := [("_law_word_here", 2), ("_law_fits", 3)]) cx S.nd (ji_seq (je_var (i := 1))) (by rfl) (fun _ _ _ _ _ cx => (jgv_tup cx (jgvs_cons (jgv_name S.nd (by decide)) (jgvs_cons (jgv_name S.nd (by decide)) jgvs_nil)))) (fun _ _ _ _ _ cx => (jts_one (jt_val (je_var (i := 3))))) (fun _ _ _ _ _ cx => (je_var (i := 2)))))))))))))
theorem fn__law_word {f : Addr} {fd : FuncData} (F : FunD K "_law_word" "_law_word" (defArgs s__law_word) (defBody s__law_word) (defScope s__law_word) [] [] f fd) (T : Txb K mg base) : Fn P WW K mg base 1 f 1 sp__law_word :=
  ⟨⟨fd, ["_law_e"], rfl, ok__law_word F T, F.bindsN fun _ _ _ _ _ _ us hl => match us, hl with | [_], _ => rfl⟩, F.kp⟩
theorem Fn__law_word (T : Txb K mg base) : Fn P WW K mg base 1 (He.ga K "_law_word") 1 sp__law_word := by
  obtain ⟨fd, F⟩ := T.d__law_word
  exact fn__law_word F T
theorem sc__law_told : FnScope ["_law_deed", "_law_found", "_law_caught", "_law_e"] ["_law_deed"] (defScope s__law_told) := ⟨rfl, rfl, rfl, by decide +kernel, rfl, by decide +kernel, by decide +kernel⟩
theorem act__law_told (T : Txb K mg base) : ∀ (cdv : Value) (A : Around) (outer : List PySem.Env) (s : Shared) (H : Hp) (E : XK) (w : NW) (f : Addr) (act : NSp), Room 2 (A.deeper (envOfC "_law_told" (defScope s__law_told) s.heap.objs.size (He.ga K "_law_told") cdv)) → NX (cxOf (L2.CX P WW) P WW K mg base ["_law_deed", "_law_found", "_law_caught", "_law_e"] "_law_told" (defScope s__law_told) (He.ga K "_law_told") cdv A outer s H E) H w →
      (∀ (H1 : Hp) (w1 : NW) (pn : List (Addr × Obj)) (xe : Value → Shared → Prop) (p1 p2 : Pos), HExt H H1 → NX ((cxOf (L2.CX P WW) P WW K mg base ["_law_deed", "_law_found", "_law_caught", "_law_e"] "_law_told" (defScope s__law_told) (He.ga K "_law_told") cdv A outer s H E).tr pn xe) H1 w1 →
        JE ((cxOf (L2.CX P WW) P WW K mg base ["_law_deed", "_law_found", "_law_caught", "_law_e"] "_law_told" (defScope s__law_told) (He.ga K "_law_told") cdv A outer s H E).tr pn xe) H1 (.Call (.Name "_law_deed" p1) [] [] p2) (mAct 0 f act w1)) →
      JSs (cxOf (L2.CX P WW) P WW K mg base ["_law_deed", "_law_found", "_law_caught", "_law_e"] "_law_told" (defScope s__law_told) (He.ga K "_law_told") cdv A outer s H E) H (defBody s__law_told) (m__law_told f act w) := by
  intro cdv A outer s H E w f act hr cx hact
  have S := sc__law_told
  have hu64 := hr.units
  have hu1 := hu_of hr
  unfold m__law_told
  exact (jss_cons (js_set S.nd je_non)
    (jss_cons (js_set S.nd je_non)
    (jss_cons (js_try_keep (i := 3) (j := 2) cx T.kx T.g_MartError S.nd rfl rfl rfl (fun _ => rfl) (by decide) (fun H w pn xe hx cx => (jss_one (js_set S.nd (hact _ _ _ _ _ _ hx cx)))) rfl rfl rfl (Or.inl rfl) (fun _ _ => rfl))
    (jss_one (js_ret (je_if (jt_cmp opN_isN (je_var (i := 2)) je_non (nomark _)) (je_var (i := 1)) (je_call cx (Fn__law_word T) T.g__law_word (hr.mono (by decide)) (ja_cons (je_var (i := 2)) ja_nil))))))))
theorem sc_Maker_is_dealt : FnScope ["self", "side", "count"] ["self", "side", "count"] (defScope s_Maker_is_dealt) := ⟨rfl, rfl, rfl, by decide +kernel, rfl, by decide +kernel, by decide +kernel⟩
theorem ok_Maker_is_dealt {f : Addr} {fd : FuncData} (F : FunD K "is_dealt" "Maker.is_dealt" (defArgs s_Maker_is_dealt) (defBody s_Maker_is_dealt) (defScope s_Maker_is_dealt) [] [] f fd) (T : Txb K mg base) : FnOk P WW K mg base (L2.CX P WW) 1 f fd ["self", "side", "count"] (lSp K 3 sp_Maker_is_dealt) := by
  unfold sp_Maker_is_dealt
  refine fn_body (k := 0) (m := m_Maker_is_dealt) F sc_Maker_is_dealt (fun cdv A outer s H E w hr cx => ?_)
  have S := sc_Maker_is_dealt
  have hu64 := hr.units
  have hu1 := hu_of hr
  unfold m_Maker_is_dealt
  exact (jss_one (js_ret (je_cmp opN_le (je_op opN_add (je_ix (ixN_seqv hu1) (je_fld (je_var (i := 0))) (je_var (i := 1))) (je_var (i := 2))) (je_gint T.c_MOST) (nomark _))))
theorem fn_Maker_is_dealt {f : Addr} {fd : FuncData} (F : FunD K "is_dealt" "Maker.is_dealt" (defArgs s_Maker_is_dealt) (defBody s_Maker_is_dealt) (defScope s_Maker_is_dealt) [] [] f fd) (T : Txb K mg base) : Fn P WW K mg base 1 f 3 sp_Maker_is_dealt :=
  ⟨⟨fd, ["self", "side", "count"], rfl, ok_Maker_is_dealt F T, F.bindsN fun _ _ _ _ _ _ us hl => match us, hl with | [_, _, _], _ => rfl⟩, F.kp⟩
theorem sc_Maker_haves : FnScope ["self"] ["self"] (defScope s_Maker_haves) := ⟨rfl, rfl, rfl, by decide +kernel, rfl, by decide +kernel, by decide +kernel⟩
theorem ok_Maker_haves {f : Addr} {fd : FuncData} (F : FunD K "haves" "Maker.haves" (defArgs s_Maker_haves) (defBody s_Maker_haves) (defScope s_Maker_haves) [] [] f fd) (T : Txb K mg base) : FnOk P WW K mg base (L2.CX P WW) 1 f fd ["self"] (lSp K 1 sp_Maker_haves) := by
  unfold sp_Maker_haves
  refine fn_body (k := 0) (m := m_Maker_haves) F sc_Maker_haves (fun cdv A outer s H E w hr cx => ?_)
  have S := sc_Maker_haves
  have hu64 := hr.units
  have hu1 := hu_of hr
  unfold m_Maker_haves
  exact (jss_one (js_ret (je_tup (ja_cons (je_ix (ixN_seqv hu1) (je_fld (je_var (i := 0))) je_int) (ja_cons (je_ix (ixN_seqv hu1) (je_fld (je_var (i := 0))) je_int) ja_nil)))))
theorem fn_Maker_haves {f : Addr} {fd : FuncData} (F : FunD K "haves" "Maker.haves" (defArgs s_Maker_haves) (defBody s_Maker_haves) (defScope s_Maker_haves) [] [] f fd) (T : Txb K mg base) : Fn P WW K mg base 1 f 1 sp_Maker_haves :=
  ⟨⟨fd, ["self"], rfl, ok_Maker_haves F T, F.bindsN fun _ _ _ _ _ _ us hl => match us, hl with | [_], _ => rfl⟩, F.kp⟩
theorem sc_rounded_up : FnScope ["top", "bottom"] ["top", "bottom"] (defScope s_rounded_up) := ⟨rfl, rfl, rfl, by decide +kernel, rfl, by decide +kernel, by decide +kernel⟩
theorem ok_rounded_up {f : Addr} {fd : FuncData} (F : FunD K "rounded_up" "rounded_up" (defArgs s_rounded_up) (defBody s_rounded_up) (defScope s_rounded_up) [] [] f fd) (T : Txb K mg base) : FnOk P WW K mg base (L2.CX P WW) 1 f fd ["top", "bottom"] (lSp K 2 sp_rounded_up) := by
  unfold sp_rounded_up
  refine fn_body (k := 0) (m := m_rounded_up) F sc_rounded_up (fun cdv A outer s H E w hr cx => ?_)
  have S := sc_rounded_up
  have hu64 := hr.units
  have hu1 := hu_of hr
  unfold m_rounded_up
  exact (jss_one (js_ret (je_op opN_div (je_op opN_sub (je_op opN_add (je_var (i := 0)) (je_var (i := 1))) je_int) (je_var (i := 1)))))
theorem fn_rounded_up {f : Addr} {fd : FuncData} (F : FunD K "rounded_up" "rounded_up" (defArgs s_rounded_up) (defBody s_rounded_up) (defScope s_rounded_up) [] [] f fd) (T : Txb K mg base) : Fn P WW K mg base 1 f 2 sp_rounded_up :=
  ⟨⟨fd, ["top", "bottom"], rfl, ok_rounded_up F T, F.bindsN fun _ _ _ _ _ _ us hl => match us, hl with | [_, _], _ => rfl⟩, F.kp⟩
theorem Fn_rounded_up (T : Txb K mg base) : Fn P WW K mg base 1 (He.ga K "rounded_up") 2 sp_rounded_up := by
  obtain ⟨fd, F⟩ := T.d_rounded_up
  exact fn_rounded_up F T
theorem sc_product_wanted : FnScope ["maker", "grains", "side", "many"] ["maker", "grains", "side", "many"] (defScope s_product_wanted) := ⟨rfl, rfl, rfl, by decide +kernel, rfl, by decide +kernel, by decide +kernel⟩
theorem ok_product_wanted {f : Addr} {fd : FuncData} (F : FunD K "product_wanted" "product_wanted" (defArgs s_product_wanted) (defBody s_product_wanted) (defScope s_product_wanted) [] [] f fd) (T : Txb K mg base) : FnOk P WW K mg base (L2.CX P WW) 2 f fd ["maker", "grains", "side", "many"] (lSp K 4 sp_product_wanted) := by
  unfold sp_product_wanted
  refine fn_body (k := 1) (m := m_product_wanted) F sc_product_wanted (fun cdv A outer s H E w hr cx => ?_)
  have S := sc_product_wanted
  have hu64 := hr.units
  have hu1 := hu_of hr
  unfold m_product_wanted
  exact (jss_cons (js_if (jt_cmp opN_ge (je_var (i := 3)) (je_ix (ixN_seqv hu1) (je_var (i := 1)) (je_op opN_sub je_int (je_var (i := 2)))) (nomark _))
    (jss_one (js_ret je_non))
    jss_nil)
    (jss_one (js_ret (je_callB (callN_max2 cx.calm) T.f_max (ja_cons je_int (ja_cons (je_call cx (Fn_rounded_up T) T.g_rounded_up (hr.mono (by decide)) (ja_cons (je_op opN_mul (je_op opN_mul (je_var (i := 3)) (je_ix (ixN_seqv hu1) (je_var (i := 1)) (je_var (i := 2)))) (je_fld (je_var (i := 0)))) (ja_cons (je_op opN_mul (je_fld (je_var (i := 0))) (je_op opN_sub (je_ix (ixN_seqv hu1) (je_var (i := 1)) (je_op opN_sub je_int (je_var (i := 2)))) (je_var (i := 3)))) ja_nil))) ja_nil))))))
theorem fn_product_wanted {f : Addr} {fd : FuncData} (F : FunD K "product_wanted" "product_wanted" (defArgs s_product_wanted) (defBody s_product_wanted) (defScope s_product_wanted) [] [] f fd) (T : Txb K mg base) : Fn P WW K mg base 2 f 4 sp_product_wanted :=
  ⟨⟨fd, ["maker", "grains", "side", "many"], rfl, ok_product_wanted F T, F.bindsN fun _ _ _ _ _ _ us hl => match us, hl with | [_, _, _, _], _ => rfl⟩, F.kp⟩
theorem Fn_product_wanted (T : Txb K mg base) : Fn P WW K mg base 2 (He.ga K "product_wanted") 4 sp_product_wanted := by
  obtain ⟨fd, F⟩ := T.d_product_wanted
  exact fn_product_wanted F T
theorem mk_Maker_haves (T : Txb K mg base) : MtK P WW K mg base "haves" mt_Maker_haves 1 := by
  refine ⟨fun c n sp h => ?_⟩
  unfold mt_Maker_haves at h
  split at h
  · rename_i e; subst e; cases h
    obtain ⟨fd, F⟩ := T.d_Product_haves
    exact ⟨_, T.m_Product_haves, (fn_Maker_haves F T).mono (by decide)⟩
  split at h
  · rename_i e; subst e; cases h
    obtain ⟨fd, F⟩ := T.d_Stretch_haves
    exact ⟨_, T.m_Stretch_haves, (fn_Maker_haves F T).mono (by decide)⟩
  split at h
  · rename_i e; subst e; cases h
    obtain ⟨fd, F⟩ := T.d_Sum_haves
    exact ⟨_, T.m_Sum_haves, (fn_Maker_haves F T).mono (by decide)⟩
  cases h
theorem sc_Product_wanted : FnScope ["self", "side", "many"] ["self", "side", "many"] (defScope s_Product_wanted) := ⟨rfl, rfl, rfl, by decide +kernel, rfl, by decide +kernel, by decide +kernel⟩
theorem ok_Product_wanted {f : Addr} {fd : FuncData} (F : FunD K "wanted" "Product.wanted" (defArgs s_Product_wanted) (defBody s_Product_wanted) (defScope s_Product_wanted) [] [] f fd) (T : Txb K mg base) : FnOk P WW K mg base (L2.CX P WW) 3 f fd ["self", "side", "many"] (lSp K 3 sp_Product_wanted) := by
  unfold sp_Product_wanted
  refine fn_body (k := 2) (m := m_Product_wanted) F sc_Product_wanted (fun cdv A outer s H E w hr cx => ?_)
  have S := sc_Product_wanted
  have hu64 := hr.units
  have hu1 := hu_of hr
  unfold m_Product_wanted
  exact (jss_one (js_ret (je_call cx (Fn_product_wanted T) T.g_product_wanted (hr.mono (by decide)) (ja_cons (je_var (i := 0)) (ja_cons (je_methK0 cx (mk_Maker_haves T) (hr.mono (by decide)) (je_var (i := 0)) ) (ja_cons (je_var (i := 1)) (ja_cons (je_var (i := 2)) ja_nil)))))))
theorem fn_Product_wanted {f : Addr} {fd : FuncData} (F : FunD K "wanted" "Product.wanted" (defArgs s_Product_wanted) (defBody s_Product_wanted) (defScope s_Product_wanted) [] [] f fd) (T : Txb K mg base) : Fn P WW K mg base 3 f 3 sp_Product_wanted :=
  ⟨⟨fd, ["self", "side", "many"], rfl, ok_Product_wanted F T, F.bindsN fun _ _ _ _ _ _ us hl => match us, hl with | [_, _, _], _ => rfl⟩, F.kp⟩
theorem sc_Stretch_propped : FnScope ["self", "props"] ["self"] (defScope s_Stretch_propped) := ⟨rfl, rfl, rfl, by decide +kernel, rfl, by decide +kernel, by decide +kernel⟩
theorem ok_Stretch_propped {f : Addr} {fd : FuncData} (F : FunD K "propped" "Stretch.propped" (defArgs s_Stretch_propped) (defBody s_Stretch_propped) (defScope s_Stretch_propped) [] [] f fd) (T : Txb K mg base) : FnOk P WW K mg base (L2.CX P WW) 1 f fd ["self"] (lSp K 1 sp_Stretch_propped) := by
  unfold sp_Stretch_propped
  refine fn_body (k := 0) (m := m_Stretch_propped) F sc_Stretch_propped (fun cdv A outer s H E w hr cx => ?_)
  have S := sc_Stretch_propped
  have hu64 := hr.units
  have hu1 := hu_of hr
  unfold m_Stretch_propped
  exact (jss_cons (js_set S.nd (je_ix (ixN_seqv hu1) (je_fld (je_var (i := 0))) je_int))
    (jss_one (js_ret (je_tup (ja_cons (je_op opN_add (je_ix (ixN_seqv hu1) (je_fld (je_var (i := 0))) je_int) (je_ix (ixN_seqv hu1) (je_var (i := 1)) je_int)) (ja_cons (je_op opN_add (je_ix (ixN_seqv hu1) (je_fld (je_var (i := 0))) je_int) (je_ix (ixN_seqv hu1) (je_var (i := 1)) je_int)) ja_nil))))))
theorem fn_Stretch_propped {f : Addr} {fd : FuncData} (F : FunD K "propped" "Stretch.propped" (defArgs s_Stretch_propped) (defBody s_Stretch_propped) (defScope s_Stretch_propped) [] [] f fd) (T : Txb K mg base) : Fn P WW K mg base 1 f 1 sp_Stretch_propped :=
  ⟨⟨fd, ["self"], rfl, ok_Stretch_propped F T, F.bindsN fun _ _ _ _ _ _ us hl => match us, hl with | [_], _ => rfl⟩, F.kp⟩
theorem mk_Maker_propped (T : Txb K mg base) : MtK P WW K mg base "propped" mt_Maker_propped 1 := by
  refine ⟨fun c n sp h => ?_⟩
  unfold mt_Maker_propped at h
  split at h
  · rename_i e; subst e; cases h
    obtain ⟨fd, F⟩ := T.d_Stretch_propped
    exact ⟨_, T.m_Stretch_propped, (fn_Stretch_propped F T).mono (by decide)⟩
  cases h
theorem sc_Stretch_wanted : FnScope ["self", "side", "many"] ["self", "side", "many"] (defScope s_Stretch_wanted) := ⟨rfl, rfl, rfl, by decide +kernel, rfl, by decide +kernel, by decide +kernel⟩
theorem ok_Stretch_wanted {f : Addr} {fd : FuncData} (F : FunD K "wanted" "Stretch.wanted" (defArgs s_Stretch_wanted) (defBody s_Stretch_wanted) (defScope s_Stretch_wanted) [] [] f fd) (T : Txb K mg base) : FnOk P WW K mg base (L2.CX P WW) 3 f fd ["self", "side", "many"] (lSp K 3 sp_Stretch_wanted) := by
  unfold sp_Stretch_wanted
  refine fn_body (k := 2) (m := m_Stretch_wanted) F sc_Stretch_wanted (fun cdv A outer s H E w hr cx => ?_)
  have S := sc_Stretch_wanted
  have hu64 := hr.units
  have hu1 := hu_of hr
  unfold m_Stretch_wanted
  exact (jss_one (js_ret (je_call cx (Fn_product_wanted T) T.g_product_wanted (hr.mono (by decide)) (ja_cons (je_var (i := 0)) (ja_cons (je_methK0 cx (mk_Maker_propped T) (hr.mono (by decide)) (je_var (i := 0)) ) (ja_cons (je_var (i := 1)) (ja_cons (je_var (i := 2)) ja_nil)))))))
theorem fn_Stretch_wanted {f : Addr} {fd : FuncData} (F : FunD K "wanted" "Stretch.wanted" (defArgs s_Stretch_wanted) (defBody s_Stretch_wanted) (defScope s_Stretch_wanted) [] [] f fd) (T : Txb K mg base) : Fn P WW K mg base 3 f 3 sp_Stretch_wanted :=
  ⟨⟨fd, ["self", "side", "many"], rfl, ok_Stretch_wanted F T, F.bindsN fun _ _ _ _ _ _ us hl => match us, hl with | [_, _, _], _ => rfl⟩, F.kp⟩
theorem sc_Sum_wanted : FnScope ["self", "side", "many", "rate"] ["self", "side", "many"] (defScope s_Sum_wanted) := ⟨rfl, rfl, rfl, by decide +kernel, rfl, by decide +kernel, by decide +kernel⟩
theorem ok_Sum_wanted {f : Addr} {fd : FuncData} (F : FunD K "wanted" "Sum.wanted" (defArgs s_Sum_wanted) (defBody s_Sum_wanted) (defScope s_Sum_wanted) [] [] f fd) (T : Txb K mg base) : FnOk P WW K mg base (L2.CX P WW) 2 f fd ["self", "side", "many"] (lSp K 3 sp_Sum_wanted) := by
  unfold sp_Sum_wanted
  refine fn_body (k := 1) (m := m_Sum_wanted) F sc_Sum_wanted (fun cdv A outer s H E w hr cx => ?_)
  have S := sc_Sum_wanted
  have hu64 := hr.units
  have hu1 := hu_of hr
  unfold m_Sum_wanted
  exact (jss_cons (js_set S.nd (je_ix (ixN_seqv hu1) (je_fld (je_var (i := 0))) je_int))
    (jss_one (js_ret (je_call cx (Fn_rounded_up T) T.g_rounded_up (hr.mono (by decide)) (ja_cons (je_op opN_mul (je_op opN_mul (je_var (i := 2)) (je_fld (je_var (i := 0)))) (je_ix (ixN_seqv hu1) (je_var (i := 3)) (je_var (i := 1)))) (ja_cons (je_op opN_mul (je_fld (je_var (i := 0))) (je_ix (ixN_seqv hu1) (je_var (i := 3)) (je_op opN_sub je_int (je_var (i := 1))))) ja_nil))))))
theorem fn_Sum_wanted {f : Addr} {fd : FuncData} (F : FunD K "wanted" "Sum.wanted" (defArgs s_Sum_wanted) (defBody s_Sum_wanted) (defScope s_Sum_wanted) [] [] f fd) (T : Txb K mg base) : Fn P WW K mg base 2 f 3 sp_Sum_wanted :=
  ⟨⟨fd, ["self", "side", "many"], rfl, ok_Sum_wanted F T, F.bindsN fun _ _ _ _ _ _ us hl => match us, hl with | [_, _, _], _ => rfl⟩, F.kp⟩
theorem sc_is_whole : FnScope ["thing"] ["thing"] (defScope s_is_whole) := ⟨rfl, rfl, rfl, by decide +kernel, rfl, by decide +kernel, by decide +kernel⟩
theorem ok_is_whole {f : Addr} {fd : FuncData} (F : FunD K "is_whole" "is_whole" (defArgs s_is_whole) (defBody s_is_whole) (defScope s_is_whole) [] [] f fd) (T : Txb K mg base) : FnOk P WW K mg base (L2.CX P WW) 1 f fd ["thing"] (lSp K 1 sp_is_whole) := by
  unfold sp_is_whole
  refine fn_body (k := 0) (m := m_is_whole) F sc_is_whole (fun cdv A outer s H E w hr cx => ?_)
  have S := sc_is_whole
  have hu64 := hr.units
  have hu1 := hu_of hr
  unfold m_is_whole
  exact (jss_one (js_ret (je_and (je_callB (callN_isi T.kf) T.f_isinstance (ja_cons (je_var (i := 0)) (ja_cons (je_tyB T.f_int) ja_nil))) (je_one (je_not (je_callB (callN_isi T.kf) T.f_isinstance (ja_cons (je_var (i := 0)) (ja_cons (je_tyB T.f_bool) ja_nil))))))))
theorem fn_is_whole {f : Addr} {fd : FuncData} (F : FunD K "is_whole" "is_whole" (defArgs s_is_whole) (defBody s_is_whole) (defScope s_is_whole) [] [] f fd) (T : Txb K mg base) : Fn P WW K mg base 1 f 1 sp_is_whole :=
  ⟨⟨fd, ["thing"], rfl, ok_is_whole F T, F.bindsN fun _ _ _ _ _ _ us hl => match us, hl with | [_], _ => rfl⟩, F.kp⟩
theorem Fn_is_whole (T : Txb K mg base) : Fn P WW K mg base 1 (He.ga K "is_whole") 1 sp_is_whole := by
  obtain ⟨fd, F⟩ := T.d_is_whole
  exact fn_is_whole F T
theorem sc_need_count : FnScope ["count"] ["count"] (defScope s_need_count) := ⟨rfl, rfl, rfl, by decide +kernel, rfl, by decide +kernel, by decide +kernel⟩
theorem ok_need_count {f : Addr} {fd : FuncData} (F : FunD K "need_count" "need_count" (defArgs s_need_count) (defBody s_need_count) (defScope s_need_count) [] [] f fd) (T : Txb K mg base) : FnOk P WW K mg base (L2.CX P WW) 2 f fd ["count"] (lSp K 1 sp_need_count) := by
  unfold sp_need_count
  refine fn_body (k := 1) (m := m_need_count) F sc_need_count (fun cdv A outer s H E w hr cx => ?_)
  have S := sc_need_count
  have hu64 := hr.units
  have hu1 := hu_of hr
  unfold m_need_count
  exact (jss_one (js_if (jt_w (jw_or (jt_not (jt_val (je_call cx (Fn_is_whole T) T.g_is_whole (hr.mono (by decide)) (ja_cons (je_var (i := 0)) ja_nil)))) (jw_or1 (jt_cmp opN_lt (je_var (i := 0)) je_int (nomark _)))))
    (jss_one (js_raise cx T.x_BadCount T.g_BadCount))
    jss_nil))
theorem fn_need_count {f : Addr} {fd : FuncData} (F : FunD K "need_count" "need_count" (defArgs s_need_count) (defBody s_need_count) (defScope s_need_count) [] [] f fd) (T : Txb K mg base) : Fn P WW K mg base 2 f 1 sp_need_count :=
  ⟨⟨fd, ["count"], rfl, ok_need_count F T, F.bindsN fun _ _ _ _ _ _ us hl => match us, hl with | [_], _ => rfl⟩, F.kp⟩
theorem Fn_need_count (T : Txb K mg base) : Fn P WW K mg base 2 (He.ga K "need_count") 1 sp_need_count := by
  obtain ⟨fd, F⟩ := T.d_need_count
  exact fn_need_count F T
theorem sc_need_ware : FnScope ["ware"] ["ware"] (defScope s_need_ware) := ⟨rfl, rfl, rfl, by decide +kernel, rfl, by decide +kernel, by decide +kernel⟩
theorem ok_need_ware {f : Addr} {fd : FuncData} (F : FunD K "need_ware" "need_ware" (defArgs s_need_ware) (defBody s_need_ware) (defScope s_need_ware) [] [] f fd) (T : Txb K mg base) : FnOk P WW K mg base (L2.CX P WW) 1 f fd ["ware"] (lSp K 1 sp_need_ware) := by
  unfold sp_need_ware
  refine fn_body (k := 0) (m := m_need_ware) F sc_need_ware (fun cdv A outer s H E w hr cx => ?_)
  have S := sc_need_ware
  have hu64 := hr.units
  have hu1 := hu_of hr
  unfold m_need_ware
  exact (jss_cons (js_if (jt_w (jw_or (jt_not (jt_val (je_callB (callN_isi T.kf) T.f_isinstance (ja_cons (je_var (i := 0)) (ja_cons (je_tyB T.f_str) ja_nil))))) (jw_or1 (jt_cmp (opN_nin hu1) (je_var (i := 0)) (je_gtup T.t_WARES T.g_WARES) (by rfl)))))
    (jss_one (js_raise cx T.x_BadWare T.g_BadWare))
    jss_nil)
    (jss_one (js_ret (je_tupIndex T.t_WARES T.g_WARES (je_var (i := 0))))))
theorem fn_need_ware {f : Addr} {fd : FuncData} (F : FunD K "need_ware" "need_ware" (defArgs s_need_ware) (defBody s_need_ware) (defScope s_need_ware) [] [] f fd) (T : Txb K mg base) : Fn P WW K mg base 1 f 1 sp_need_ware :=
  ⟨⟨fd, ["ware"], rfl, ok_need_ware F T, F.bindsN fun _ _ _ _ _ _ us hl => match us, hl with | [_], _ => rfl⟩, F.kp⟩
theorem Fn_need_ware (T : Txb K mg base) : Fn P WW K mg base 1 (He.ga K "need_ware") 1 sp_need_ware := by
  obtain ⟨fd, F⟩ := T.d_need_ware
  exact fn_need_ware F T
theorem mk_Maker_is_dealt (T : Txb K mg base) : MtK P WW K mg base "is_dealt" mt_Maker_is_dealt 1 := by
  refine ⟨fun c n sp h => ?_⟩
  unfold mt_Maker_is_dealt at h
  split at h
  · rename_i e; subst e; cases h
    obtain ⟨fd, F⟩ := T.d_Product_is_dealt
    exact ⟨_, T.m_Product_is_dealt, (fn_Maker_is_dealt F T).mono (by decide)⟩
  split at h
  · rename_i e; subst e; cases h
    obtain ⟨fd, F⟩ := T.d_Stretch_is_dealt
    exact ⟨_, T.m_Stretch_is_dealt, (fn_Maker_is_dealt F T).mono (by decide)⟩
  split at h
  · rename_i e; subst e; cases h
    obtain ⟨fd, F⟩ := T.d_Sum_is_dealt
    exact ⟨_, T.m_Sum_is_dealt, (fn_Maker_is_dealt F T).mono (by decide)⟩
  cases h
theorem mk_Maker_wanted (T : Txb K mg base) : MtK P WW K mg base "wanted" mt_Maker_wanted 3 := by
  refine ⟨fun c n sp h => ?_⟩
  unfold mt_Maker_wanted at h
  split at h
  · rename_i e; subst e; cases h
    obtain ⟨fd, F⟩ := T.d_Product_wanted
    exact ⟨_, T.m_Product_wanted, (fn_Product_wanted F T).mono (by decide)⟩
  split at h
  · rename_i e; subst e; cases h
    obtain ⟨fd, F⟩ := T.d_Stretch_wanted
    exact ⟨_, T.m_Stretch_wanted, (fn_Stretch_wanted F T).mono (by decide)⟩
  split at h
  · rename_i e; subst e; cases h
    obtain ⟨fd, F⟩ := T.d_Sum_wanted
    exact ⟨_, T.m_Sum_wanted, (fn_Sum_wanted F T).mono (by decide)⟩
  cases h
theorem sc_Maker_least_for : FnScope ["self", "ware", "many", "side", "found"] ["self", "ware", "many"] (defScope s_Maker_least_for) := ⟨rfl, rfl, rfl, by decide +kernel, rfl, by decide +kernel, by decide +kernel⟩
theorem ok_Maker_least_for {f : Addr} {fd : FuncData} (F : FunD K "least_for" "Maker.least_for" (defArgs s_Maker_least_for) (defBody s_Maker_least_for) (defScope s_Maker_least_for) [] [] f fd) (T : Txb K mg base) : FnOk P WW K mg base (L2.CX P WW) 4 f fd ["self", "ware", "many"] (lSp K 3 sp_Maker_least_for) := by
  unfold sp_Maker_least_for
  refine fn_body (k := 3) (m := m_Maker_least_for) F sc_Maker_least_for (fun cdv A outer s H E w hr cx => ?_)
  have S := sc_Maker_least_for
  have hu64 := hr.units
  have hu1 := hu_of hr
  unfold m_Maker_least_for
  exact (jss_cons (js_set S.nd (je_call cx (Fn_need_ware T) T.g_need_ware (hr.mono (by decide)) (ja_cons (je_var (i := 1)) ja_nil)))
    (jss_cons (js_expr (je_call cx (Fn_need_count T) T.g_need_count (hr.mono (by decide)) (ja_cons (je_var (i := 2)) ja_nil)))
    (jss_cons (js_if (jt_cmp opN_gt (je_var (i := 2)) (je_ix (ixN_seqv hu1) (je_fld (je_var (i := 0))) (je_op opN_sub je_int (je_var (i := 3)))) (nomark _))
    (jss_one (js_ret je_non))
    jss_nil)
    (jss_cons (js_set S.nd (je_methK cx (mk_Maker_wanted T) (hr.mono (by decide)) (je_var (i := 0)) (ja_cons (je_var (i := 3)) (ja_cons (je_var (i := 2)) ja_nil))))
    (jss_cons (js_if (jt_w (jw_or (jt_cmp opN_isN (je_var (i := 4)) je_non (nomark _)) (jw_or1 (jt_not (jt_val (je_methK cx (mk_Maker_is_dealt T) (hr.mono (by decide)) (je_var (i := 0)) (ja_cons (je_var (i := 3)) (ja_cons (je_var (i := 4)) ja_nil))))))))
    (jss_one (js_ret je_non))
    jss_nil)
    (jss_one (js_ret (je_var (i := 4)))))))))
theorem fn_Maker_least_for {f : Addr} {fd : FuncData} (F : FunD K "least_for" "Maker.least_for" (defArgs s_Maker_least_for) (defBody s_Maker_least_for) (defScope s_Maker_least_for) [] [] f fd) (T : Txb K mg base) : Fn P WW K mg base 4 f 3 sp_Maker_least_for :=
  ⟨⟨fd, ["self", "ware", "many"], rfl, ok_Maker_least_for F T, F.bindsN fun _ _ _ _ _ _ us hl => match us, hl with | [_, _, _], _ => rfl⟩, F.kp⟩
theorem sc_product_coming : FnScope ["maker", "grains", "side", "count", "counted"] ["maker", "grains", "side", "count"] (defScope s_product_coming) := ⟨rfl, rfl, rfl, by decide +kernel, rfl, by decide +kernel, by decide +kernel⟩
theorem ok_product_coming {f : Addr} {fd : FuncData} (F : FunD K "product_coming" "product_coming" (defArgs s_product_coming) (defBody s_product_coming) (defScope s_product_coming) [] [] f fd) (T : Txb K mg base) : FnOk P WW K mg base (L2.CX P WW) 1 f fd ["maker", "grains", "side", "count"] (lSp K 4 sp_product_coming) := by
  unfold sp_product_coming
  refine fn_body (k := 0) (m := m_product_coming) F sc_product_coming (fun cdv A outer s H E w hr cx => ?_)
  have S := sc_product_coming
  have hu64 := hr.units
  have hu1 := hu_of hr
  unfold m_product_coming
  exact (jss_cons (js_set S.nd (je_op opN_mul (je_var (i := 3)) (je_fld (je_var (i := 0)))))
    (jss_one (js_ret (je_op opN_div (je_op opN_mul (je_ix (ixN_seqv hu1) (je_var (i := 1)) (je_op opN_sub je_int (je_var (i := 2)))) (je_var (i := 4))) (je_op opN_add (je_op opN_mul (je_ix (ixN_seqv hu1) (je_var (i := 1)) (je_var (i := 2))) (je_fld (je_var (i := 0)))) (je_var (i := 4)))))))
theorem fn_product_coming {f : Addr} {fd : FuncData} (F : FunD K "product_coming" "product_coming" (defArgs s_product_coming) (defBody s_product_coming) (defScope s_product_coming) [] [] f fd) (T : Txb K mg base) : Fn P WW K mg base 1 f 4 sp_product_coming :=
  ⟨⟨fd, ["maker", "grains", "side", "count"], rfl, ok_product_coming F T, F.bindsN fun _ _ _ _ _ _ us hl => match us, hl with | [_, _, _, _], _ => rfl⟩, F.kp⟩
theorem Fn_product_coming (T : Txb K mg base) : Fn P WW K mg base 1 (He.ga K "product_coming") 4 sp_product_coming := by
  obtain ⟨fd, F⟩ := T.d_product_coming
  exact fn_product_coming F T
theorem sc_Product_coming : FnScope ["self", "side", "count"] ["self", "side", "count"] (defScope s_Product_coming) := ⟨rfl, rfl, rfl, by decide +kernel, rfl, by decide +kernel, by decide +kernel⟩
theorem ok_Product_coming {f : Addr} {fd : FuncData} (F : FunD K "coming" "Product.coming" (defArgs s_Product_coming) (defBody s_Product_coming) (defScope s_Product_coming) [] [] f fd) (T : Txb K mg base) : FnOk P WW K mg base (L2.CX P WW) 2 f fd ["self", "side", "count"] (lSp K 3 sp_Product_coming) := by
  unfold sp_Product_coming
  refine fn_body (k := 1) (m := m_Product_coming) F sc_Product_coming (fun cdv A outer s H E w hr cx => ?_)
  have S := sc_Product_coming
  have hu64 := hr.units
  have hu1 := hu_of hr
  unfold m_Product_coming
  exact (jss_one (js_ret (je_call cx (Fn_product_coming T) T.g_product_coming (hr.mono (by decide)) (ja_cons (je_var (i := 0)) (ja_cons (je_methK0 cx (mk_Maker_haves T) (hr.mono (by decide)) (je_var (i := 0)) ) (ja_cons (je_var (i := 1)) (ja_cons (je_var (i := 2)) ja_nil)))))))
theorem fn_Product_coming {f : Addr} {fd : FuncData} (F : FunD K "coming" "Product.coming" (defArgs s_Product_coming) (defBody s_Product_coming) (defScope s_Product_coming) [] [] f fd) (T : Txb K mg base) : Fn P WW K mg base 2 f 3 sp_Product_coming :=
  ⟨⟨fd, ["self", "side", "count"], rfl, ok_Product_coming F T, F.bindsN fun _ _ _ _ _ _ us hl => match us, hl with | [_, _, _], _ => rfl⟩, F.kp⟩
theorem sc_Stretch_coming : FnScope ["self", "side", "count"] ["self", "side", "count"] (defScope s_Stretch_coming) := ⟨rfl, rfl, rfl, by decide +kernel, rfl, by decide +kernel, by decide +kernel⟩
theorem ok_Stretch_coming {f : Addr} {fd : FuncData} (F : FunD K "coming" "Stretch.coming" (defArgs s_Stretch_coming) (defBody s_Stretch_coming) (defScope s_Stretch_coming) [] [] f fd) (T : Txb K mg base) : FnOk P WW K mg base (L2.CX P WW) 2 f fd ["self", "side", "count"] (lSp K 3 sp_Stretch_coming) := by
  unfold sp_Stretch_coming
  refine fn_body (k := 1) (m := m_Stretch_coming) F sc_Stretch_coming (fun cdv A outer s H E w hr cx => ?_)
  have S := sc_Stretch_coming
  have hu64 := hr.units
  have hu1 := hu_of hr
  unfold m_Stretch_coming
  exact (jss_one (js_ret (je_call cx (Fn_product_coming T) T.g_product_coming (hr.mono (by decide)) (ja_cons (je_var (i := 0)) (ja_cons (je_methK0 cx (mk_Maker_propped T) (hr.mono (by decide)) (je_var (i := 0)) ) (ja_cons (je_var (i := 1)) (ja_cons (je_var (i := 2)) ja_nil)))))))
theorem fn_Stretch_coming {f : Addr} {fd : FuncData} (F : FunD K "coming" "Stretch.coming" (defArgs s_Stretch_coming) (defBody s_Stretch_coming) (defScope s_Stretch_coming) [] [] f fd) (T : Txb K mg base) : Fn P WW K mg base 2 f 3 sp_Stretch_coming :=
  ⟨⟨fd, ["self", "side", "count"], rfl, ok_Stretch_coming F T, F.bindsN fun _ _ _ _ _ _ us hl => match us, hl with | [_, _, _], _ => rfl⟩, F.kp⟩
theorem sc_Sum_coming : FnScope ["self", "side", "count", "rate"] ["self", "side", "count"] (defScope s_Sum_coming) := ⟨rfl, rfl, rfl, by decide +kernel, rfl, by decide +kernel, by decide +kernel⟩
theorem ok_Sum_coming {f : Addr} {fd : FuncData} (F : FunD K "coming" "Sum.coming" (defArgs s_Sum_coming) (defBody s_Sum_coming) (defScope s_Sum_coming) [] [] f fd) (T : Txb K mg base) : FnOk P WW K mg base (L2.CX P WW) 1 f fd ["self", "side", "count"] (lSp K 3 sp_Sum_coming) := by
  unfold sp_Sum_coming
  refine fn_body (k := 0) (m := m_Sum_coming) F sc_Sum_coming (fun cdv A outer s H E w hr cx => ?_)
  have S := sc_Sum_coming
  have hu64 := hr.units
  have hu1 := hu_of hr
  unfold m_Sum_coming
  exact (jss_cons (js_set S.nd (je_ix (ixN_seqv hu1) (je_fld (je_var (i := 0))) je_int))
    (jss_one (js_ret (je_op opN_div (je_op opN_mul (je_op opN_mul (je_var (i := 2)) (je_fld (je_var (i := 0)))) (je_ix (ixN_seqv hu1) (je_var (i := 3)) (je_op opN_sub je_int (je_var (i := 1))))) (je_op opN_mul (je_fld (je_var (i := 0))) (je_ix (ixN_seqv hu1) (je_var (i := 3)) (je_var (i := 1))))))))
theorem fn_Sum_coming {f : Addr} {fd : FuncData} (F : FunD K "coming" "Sum.coming" (defArgs s_Sum_coming) (defBody s_Sum_coming) (defScope s_Sum_coming) [] [] f fd) (T : Txb K mg base) : Fn P WW K mg base 1 f 3 sp_Sum_coming :=
  ⟨⟨fd, ["self", "side", "count"], rfl, ok_Sum_coming F T, F.bindsN fun _ _ _ _ _ _ us hl => match us, hl with | [_, _, _], _ => rfl⟩, F.kp⟩
theorem mk_Maker_coming (T : Txb K mg base) : MtK P WW K mg base "coming" mt_Maker_coming 2 := by
  refine ⟨fun c n sp h => ?_⟩
  unfold mt_Maker_coming at h
  split at h
  · rename_i e; subst e; cases h
    obtain ⟨fd, F⟩ := T.d_Product_coming
    exact ⟨_, T.m_Product_coming, (fn_Product_coming F T).mono (by decide)⟩
  split at h
  · rename_i e; subst e; cases h
    obtain ⟨fd, F⟩ := T.d_Stretch_coming
    exact ⟨_, T.m_Stretch_coming, (fn_Stretch_coming F T).mono (by decide)⟩
  split at h
  · rename_i e; subst e; cases h
    obtain ⟨fd, F⟩ := T.d_Sum_coming
    exact ⟨_, T.m_Sum_coming, (fn_Sum_coming F T).mono (by decide)⟩
  cases h
theorem sc_Maker_told : FnScope ["self", "ware", "count", "side"] ["self", "ware", "count"] (defScope s_Maker_told) := ⟨rfl, rfl, rfl, by decide +kernel, rfl, by decide +kernel, by decide +kernel⟩
theorem ok_Maker_told {f : Addr} {fd : FuncData} (F : FunD K "told" "Maker.told" (defArgs s_Maker_told) (defBody s_Maker_told) (defScope s_Maker_told) [] [] f fd) (T : Txb K mg base) : FnOk P WW K mg base (L2.CX P WW) 3 f fd ["self", "ware", "count"] (lSp K 3 sp_Maker_told) := by
  unfold sp_Maker_told
  refine fn_body (k := 2) (m := m_Maker_told) F sc_Maker_told (fun cdv A outer s H E w hr cx => ?_)
  have S := sc_Maker_told
  have hu64 := hr.units
  have hu1 := hu_of hr
  unfold m_Maker_told
  exact (jss_cons (js_set S.nd (je_call cx (Fn_need_ware T) T.g_need_ware (hr.mono (by decide)) (ja_cons (je_var (i := 1)) ja_nil)))
    (jss_cons (js_expr (je_call cx (Fn_need_count T) T.g_need_count (hr.mono (by decide)) (ja_cons (je_var (i := 2)) ja_nil)))
    (jss_cons (js_if (jt_not (jt_val (je_methK cx (mk_Maker_is_dealt T) (hr.mono (by decide)) (je_var (i := 0)) (ja_cons (je_var (i := 3)) (ja_cons (je_var (i := 2)) ja_nil)))))
    (jss_one (js_raise cx T.x_TooMuch T.g_TooMuch))
    jss_nil)
    (jss_one (js_ret (je_callB (callN_min2 cx.calm) T.f_min (ja_cons (je_methK cx (mk_Maker_coming T) (hr.mono (by decide)) (je_var (i := 0)) (ja_cons (je_var (i := 3)) (ja_cons (je_var (i := 2)) ja_nil))) (ja_cons (je_ix (ixN_seqv hu1) (je_fld (je_var (i := 0))) (je_op opN_sub je_int (je_var (i := 3)))) ja_nil))))))))
theorem fn_Maker_told {f : Addr} {fd : FuncData} (F : FunD K "told" "Maker.told" (defArgs s_Maker_told) (defBody s_Maker_told) (defScope s_Maker_told) [] [] f fd) (T : Txb K mg base) : Fn P WW K mg base 3 f 3 sp_Maker_told :=
  ⟨⟨fd, ["self", "ware", "count"], rfl, ok_Maker_told F T, F.bindsN fun _ _ _ _ _ _ us hl => match us, hl with | [_, _, _], _ => rfl⟩, F.kp⟩
theorem mk_Maker_least_for (T : Txb K mg base) : MtK P WW K mg base "least_for" mt_Maker_least_for 4 := by
  refine ⟨fun c n sp h => ?_⟩
  unfold mt_Maker_least_for at h
  split at h
  · rename_i e; subst e; cases h
    obtain ⟨fd, F⟩ := T.d_Product_least_for
    exact ⟨_, T.m_Product_least_for, (fn_Maker_least_for F T).mono (by decide)⟩
  split at h
  · rename_i e; subst e; cases h
    obtain ⟨fd, F⟩ := T.d_Stretch_least_for
    exact ⟨_, T.m_Stretch_least_for, (fn_Maker_least_for F T).mono (by decide)⟩
  split at h
  · rename_i e; subst e; cases h
    obtain ⟨fd, F⟩ := T.d_Sum_least_for
    exact ⟨_, T.m_Sum_least_for, (fn_Maker_least_for F T).mono (by decide)⟩
  cases h
theorem mk_Maker_told (T : Txb K mg base) : MtK P WW K mg base "told" mt_Maker_told 3 := by
  refine ⟨fun c n sp h => ?_⟩
  unfold mt_Maker_told at h
  split at h
  · rename_i e; subst e; cases h
    obtain ⟨fd, F⟩ := T.d_Product_told
    exact ⟨_, T.m_Product_told, (fn_Maker_told F T).mono (by decide)⟩
  split at h
  · rename_i e; subst e; cases h
    obtain ⟨fd, F⟩ := T.d_Stretch_told
    exact ⟨_, T.m_Stretch_told, (fn_Maker_told F T).mono (by decide)⟩
  split at h
  · rename_i e; subst e; cases h
    obtain ⟨fd, F⟩ := T.d_Sum_told
    exact ⟨_, T.m_Sum_told, (fn_Maker_told F T).mono (by decide)⟩
  cases h
theorem sc_deals_of : FnScope ["maker", "ware", "found", "count", "many"] ["maker", "ware"] (defScope s_deals_of) := ⟨rfl, rfl, rfl, by decide +kernel, rfl, by decide +kernel, by decide +kernel⟩
theorem ok_deals_of {f : Addr} {fd : FuncData} (F : FunD K "deals_of" "deals_of" (defArgs s_deals_of) (defBody s_deals_of) (defScope s_deals_of) [] [] f fd) (T : Txb K mg base) : FnOk P WW K mg base (L2.CX P WW) 5 f fd ["maker", "ware"] (lSp K 2 sp_deals_of) := by
  unfold sp_deals_of
  refine fn_body (k := 4) (m := m_deals_of) F sc_deals_of (fun cdv A outer s H E w hr cx => ?_)
  have S := sc_deals_of
  have hu64 := hr.units
  have hu1 := hu_of hr
  unfold m_deals_of
  exact (jss_cons (js_set S.nd (je_lst ja_nil))
    (jss_cons (js_set S.nd (je_methK cx (mk_Maker_least_for T) (hr.mono (by decide)) (je_var (i := 0)) (ja_cons (je_var (i := 1)) (ja_cons je_int ja_nil))))
    (jss_cons (js_while cx (jt_cmp opN_notN (je_var (i := 3)) je_non (nomark _))
    (jss_cons (js_set S.nd (je_methK cx (mk_Maker_told T) (hr.mono (by decide)) (je_var (i := 0)) (ja_cons (je_var (i := 1)) (ja_cons (je_var (i := 3)) ja_nil))))
    (jss_cons (js_expr (je_append (je_var (i := 2)) (ja_cons (je_tup (ja_cons (je_var (i := 3)) (ja_cons (je_var (i := 4)) ja_nil))) ja_nil)))
    (jss_one (js_set S.nd (je_methK cx (mk_Maker_least_for T) (hr.mono (by decide)) (je_var (i := 0)) (ja_cons (je_var (i := 1)) (ja_cons (je_op opN_add (je_var (i := 4)) je_int) ja_nil))))))))
    (jss_one (js_ret (je_var (i := 2)))))))
theorem fn_deals_of {f : Addr} {fd : FuncData} (F : FunD K "deals_of" "deals_of" (defArgs s_deals_of) (defBody s_deals_of) (defScope s_deals_of) [] [] f fd) (T : Txb K mg base) : Fn P WW K mg base 5 f 2 sp_deals_of :=
  ⟨⟨fd, ["maker", "ware"], rfl, ok_deals_of F T, F.bindsN fun _ _ _ _ _ _ us hl => match us, hl with | [_, _], _ => rfl⟩, F.kp⟩
theorem Fn_deals_of (T : Txb K mg base) : Fn P WW K mg base 5 (He.ga K "deals_of") 2 sp_deals_of := by
  obtain ⟨fd, F⟩ := T.d_deals_of
  exact fn_deals_of F T
theorem sc_need_rumour : FnScope ["rumour", "one"] ["rumour"] (defScope s_need_rumour) := ⟨rfl, rfl, rfl, by decide +kernel, rfl, by decide +kernel, by decide +kernel⟩
theorem ok_need_rumour {f : Addr} {fd : FuncData} (F : FunD K "need_rumour" "need_rumour" (defArgs s_need_rumour) (defBody s_need_rumour) (defScope s_need_rumour) [] [] f fd) (T : Txb K mg base) : FnOk P WW K mg base (L2.CX P WW) 2 f fd ["rumour"] (lSp K 1 sp_need_rumour) := by
  unfold sp_need_rumour
  refine fn_body (k := 1) (m := m_need_rumour) F sc_need_rumour (fun cdv A outer s H E w hr cx => ?_)
  have S := sc_need_rumour
  have hu64 := hr.units
  have hu1 := hu_of hr
  unfold m_need_rumour
  exact (jss_cons (js_if (jt_w (jw_or (jt_not (jt_val (je_callB (callN_isi T.kf) T.f_isinstance (ja_cons (je_var (i := 0)) (ja_cons (je_tyB T.f_tuple) ja_nil))))) (jw_or1 (jt_cmp (opN_ne hu64) (je_callB callN_len T.f_len (ja_cons (je_var (i := 0)) ja_nil)) je_int (nomark _)))))
    (jss_one (js_raise cx T.x_BadRumour T.g_BadRumour))
    jss_nil)
    (jss_one (js_if (jt_not (jt_val (je_callB (callN_all cx.calm) T.f_all (ja_cons (je_lc (own := [("one", 1)]) cx S.nd (ji_seq (je_var (i := 0))) (by rfl) (fun _ _ _ _ _ cx => (jgv_name S.nd (by decide))) (fun _ _ _ _ _ cx => jts_nil) (fun _ _ _ _ _ cx => (je_and (je_call cx (Fn_is_whole T) T.g_is_whole (hr.mono (by decide)) (ja_cons (je_var (i := 1)) ja_nil)) (je_one (je_chain opN_le opN_le je_int (je_var (i := 1)) (je_gint T.c_MOST_WORTH)))))) ja_nil))))
    (jss_one (js_raise cx T.x_BadRumour T.g_BadRumour))
    jss_nil)))
theorem fn_need_rumour {f : Addr} {fd : FuncData} (F : FunD K "need_rumour" "need_rumour" (defArgs s_need_rumour) (defBody s_need_rumour) (defScope s_need_rumour) [] [] f fd) (T : Txb K mg base) : Fn P WW K mg base 2 f 1 sp_need_rumour :=
  ⟨⟨fd, ["rumour"], rfl, ok_need_rumour F T, F.bindsN fun _ _ _ _ _ _ us hl => match us, hl with | [_], _ => rfl⟩, F.kp⟩
theorem Fn_need_rumour (T : Txb K mg base) : Fn P WW K mg base 2 (He.ga K "need_rumour") 1 sp_need_rumour := by
  obtain ⟨fd, F⟩ := T.d_need_rumour
  exact fn_need_rumour F T
theorem sc_gain : FnScope ["rumour", "ware", "count", "many", "salt", "cloth"] ["rumour", "ware", "count", "many"] (defScope s_gain) := ⟨rfl, rfl, rfl, by decide +kernel, rfl, by decide +kernel, by decide +kernel⟩
theorem ok_gain {f : Addr} {fd : FuncData} (F : FunD K "gain" "gain" (defArgs s_gain) (defBody s_gain) (defScope s_gain) [] [] f fd) (T : Txb K mg base) : FnOk P WW K mg base (L2.CX P WW) 3 f fd ["rumour", "ware", "count", "many"] (lSp K 4 sp_gain) := by
  unfold sp_gain
  refine fn_body (k := 2) (m := m_gain) F sc_gain (fun cdv A outer s H E w hr cx => ?_)
  have S := sc_gain
  have hu64 := hr.units
  have hu1 := hu_of hr
  unfold m_gain
  exact (jss_cons (js_expr (je_call cx (Fn_need_rumour T) T.g_need_rumour (hr.mono (by decide)) (ja_cons (je_var (i := 0)) ja_nil)))
    (jss_cons (js_expr (je_call cx (Fn_need_ware T) T.g_need_ware (hr.mono (by decide)) (ja_cons (je_var (i := 1)) ja_nil)))
    (jss_cons (js_par cx S.nd (je_ix (ixN_seqv hu1) (je_var (i := 0)) je_int) (je_ix (ixN_seqv hu1) (je_var (i := 0)) je_int) (by decide))
    (jss_cons (js_if (jt_cmp (opN_eq hu64) (je_var (i := 1)) je_str (nomark _))
    (jss_one (js_ret (je_op opN_sub (je_op opN_mul (je_var (i := 3)) (je_var (i := 5))) (je_op opN_mul (je_var (i := 2)) (je_var (i := 4))))))
    jss_nil)
    (jss_one (js_ret (je_op opN_sub (je_op opN_mul (je_var (i := 3)) (je_var (i := 4))) (je_op opN_mul (je_var (i := 2)) (je_var (i := 5))))))))))
theorem fn_gain {f : Addr} {fd : FuncData} (F : FunD K "gain" "gain" (defArgs s_gain) (defBody s_gain) (defScope s_gain) [] [] f fd) (T : Txb K mg base) : Fn P WW K mg base 3 f 4 sp_gain :=
  ⟨⟨fd, ["rumour", "ware", "count", "many"], rfl, ok_gain F T, F.bindsN fun _ _ _ _ _ _ us hl => match us, hl with | [_, _, _, _], _ => rfl⟩, F.kp⟩
theorem Fn_gain (T : Txb K mg base) : Fn P WW K mg base 3 (He.ga K "gain") 4 sp_gain := by
  obtain ⟨fd, F⟩ := T.d_gain
  exact fn_gain F T
theorem sc_best_deal : FnScope ["maker", "rumour", "most_paid", "found", "ware", "count", "many", "pays"] ["maker", "rumour"] (defScope s_best_deal) := ⟨rfl, rfl, rfl, by decide +kernel, rfl, by decide +kernel, by decide +kernel⟩
theorem ok_best_deal {f : Addr} {fd : FuncData} (F : FunD K "best_deal" "best_deal" (defArgs s_best_deal) (defBody s_best_deal) (defScope s_best_deal) [] [] f fd) (T : Txb K mg base) : FnOk P WW K mg base (L2.CX P WW) 6 f fd ["maker", "rumour"] (lSp K 2 sp_best_deal) := by
  unfold sp_best_deal
  refine fn_body (k := 5) (m := m_best_deal) F sc_best_deal (fun cdv A outer s H E w hr cx => ?_)
  have S := sc_best_deal
  have hu64 := hr.units
  have hu1 := hu_of hr
  unfold m_best_deal
  exact (jss_cons (js_expr (je_call cx (Fn_need_rumour T) T.g_need_rumour (hr.mono (by decide)) (ja_cons (je_var (i := 1)) ja_nil)))
    (jss_cons (js_set S.nd je_int)
    (jss_cons (js_set S.nd je_non)
    (jss_cons (js_for cx (je_gtup T.t_WARES T.g_WARES) (jg_name S.nd)
    (jss_one (js_for cx (je_call cx (Fn_deals_of T) T.g_deals_of (hr.mono (by decide)) (ja_cons (je_var (i := 0)) (ja_cons (je_var (i := 4)) ja_nil))) (jg_tup cx (jgs_cons (jg_name S.nd) (jgs_cons (jg_name S.nd) jgs_nil)))
    (jss_cons (js_set S.nd (je_call cx (Fn_gain T) T.g_gain (hr.mono (by decide)) (ja_cons (je_var (i := 1)) (ja_cons (je_var (i := 4)) (ja_cons (je_var (i := 5)) (ja_cons (je_var (i := 6)) ja_nil))))))
    (jss_one (js_if (jt_cmp opN_gt (je_var (i := 7)) (je_var (i := 2)) (nomark _))
    (jss_cons (js_set S.nd (je_var (i := 7)))
    (jss_one (js_set S.nd (je_tup (ja_cons (je_var (i := 4)) (ja_cons (je_var (i := 5)) (ja_cons (je_var (i := 6)) ja_nil)))))))
    jss_nil))))))
    (jss_one (js_ret (je_var (i := 3))))))))
theorem fn_best_deal {f : Addr} {fd : FuncData} (F : FunD K "best_deal" "best_deal" (defArgs s_best_deal) (defBody s_best_deal) (defScope s_best_deal) [] [] f fd) (T : Txb K mg base) : Fn P WW K mg base 6 f 2 sp_best_deal :=
  ⟨⟨fd, ["maker", "rumour"], rfl, ok_best_deal F T, F.bindsN fun _ _ _ _ _ _ us hl => match us, hl with | [_, _], _ => rfl⟩, F.kp⟩
theorem Fn_best_deal (T : Txb K mg base) : Fn P WW K mg base 6 (He.ga K "best_deal") 2 sp_best_deal := by
  obtain ⟨fd, F⟩ := T.d_best_deal
  exact fn_best_deal F T
theorem sc_Maker___init__ : FnScope ["self", "plain"] ["self", "plain"] (defScope s_Maker___init__) := ⟨rfl, rfl, rfl, by decide +kernel, rfl, by decide +kernel, by decide +kernel⟩
theorem ok_Maker___init__ {f : Addr} {fd : FuncData} (F : FunD K "__init__" "Maker.__init__" (defArgs s_Maker___init__) (defBody s_Maker___init__) (defScope s_Maker___init__) [] [] f fd) (T : Txb K mg base) : FnOk P WW K mg base (L2.CX P WW) 1 f fd ["self", "plain"] (lSp K 2 sp_Maker___init__) := by
  unfold sp_Maker___init__
  refine fn_body (k := 0) (m := m_Maker___init__) F sc_Maker___init__ (fun cdv A outer s H E w hr cx => ?_)
  have S := sc_Maker___init__
  have hu64 := hr.units
  have hu1 := hu_of hr
  unfold m_Maker___init__
  exact (jss_cons (js_fld (je_var (i := 0)) (je_lst (ja_cons (je_ix (ixN_seqv hu1) (je_var (i := 1)) je_int) (ja_cons (je_ix (ixN_seqv hu1) (je_var (i := 1)) je_int) ja_nil))))
    (jss_cons (js_fld (je_var (i := 0)) (je_ix (ixN_seqv hu1) (je_var (i := 1)) je_int))
    (jss_cons (js_fld (je_var (i := 0)) (je_slice (je_var (i := 1)) (jo_some je_int) jo_none))
    (jss_cons (js_fld (je_var (i := 0)) (je_op opN_sub (je_ix (ixN_seqv hu1) (je_ix (ixN_seqv hu1) (je_var (i := 1)) je_int) je_int) (je_ix (ixN_seqv hu1) (je_ix (ixN_seqv hu1) (je_var (i := 1)) je_int) je_int)))
    (jss_one (js_fld (je_var (i := 0)) (je_ix (ixN_seqv hu1) (je_ix (ixN_seqv hu1) (je_var (i := 1)) je_int) je_int)))))))
theorem fn_Maker___init__ {f : Addr} {fd : FuncData} (F : FunD K "__init__" "Maker.__init__" (defArgs s_Maker___init__) (defBody s_Maker___init__) (defScope s_Maker___init__) [] [] f fd) (T : Txb K mg base) : Fn P WW K mg base 1 f 2 sp_Maker___init__ :=
  ⟨⟨fd, ["self", "plain"], rfl, ok_Maker___init__ F T, F.bindsN fun _ _ _ _ _ _ us hl => match us, hl with | [_, _], _ => rfl⟩, F.kp⟩
theorem sc_is_among : FnScope ["thing", "least", "most"] ["thing", "least", "most"] (defScope s_is_among) := ⟨rfl, rfl, rfl, by decide +kernel, rfl, by decide +kernel, by decide +kernel⟩
theorem ok_is_among {f : Addr} {fd : FuncData} (F : FunD K "is_among" "is_among" (defArgs s_is_among) (defBody s_is_among) (defScope s_is_among) [] [] f fd) (T : Txb K mg base) : FnOk P WW K mg base (L2.CX P WW) 2 f fd ["thing", "least", "most"] (lSp K 3 sp_is_among) := by
  unfold sp_is_among
  refine fn_body (k := 1) (m := m_is_among) F sc_is_among (fun cdv A outer s H E w hr cx => ?_)
  have S := sc_is_among
  have hu64 := hr.units
  have hu1 := hu_of hr
  unfold m_is_among
  exact (jss_one (js_ret (je_and (je_call cx (Fn_is_whole T) T.g_is_whole (hr.mono (by decide)) (ja_cons (je_var (i := 0)) ja_nil)) (je_one (je_chain opN_le opN_le (je_var (i := 1)) (je_var (i := 0)) (je_var (i := 2)))))))
theorem fn_is_among {f : Addr} {fd : FuncData} (F : FunD K "is_among" "is_among" (defArgs s_is_among) (defBody s_is_among) (defScope s_is_among) [] [] f fd) (T : Txb K mg base) : Fn P WW K mg base 2 f 3 sp_is_among :=
  ⟨⟨fd, ["thing", "least", "most"], rfl, ok_is_among F T, F.bindsN fun _ _ _ _ _ _ us hl => match us, hl with | [_, _, _], _ => rfl⟩, F.kp⟩
theorem Fn_is_among (T : Txb K mg base) : Fn P WW K mg base 2 (He.ga K "is_among") 3 sp_is_among := by
  obtain ⟨fd, F⟩ := T.d_is_among
  exact fn_is_among F T
theorem sc_is_pair : FnScope ["thing", "least", "most"] ["thing", "least", "most"] (defScope s_is_pair) := ⟨rfl, rfl, rfl, by decide +kernel, rfl, by decide +kernel, by decide +kernel⟩
theorem ok_is_pair {f : Addr} {fd : FuncData} (F : FunD K "is_pair" "is_pair" (defArgs s_is_pair) (defBody s_is_pair) (defScope s_is_pair) [] [] f fd) (T : Txb K mg base) : FnOk P WW K mg base (L2.CX P WW) 3 f fd ["thing", "least", "most"] (lSp K 3 sp_is_pair) := by
  unfold sp_is_pair
  refine fn_body (k := 2) (m := m_is_pair) F sc_is_pair (fun cdv A outer s H E w hr cx => ?_)
  have S := sc_is_pair
  have hu64 := hr.units
  have hu1 := hu_of hr
  unfold m_is_pair
  exact (jss_cons (js_if (jt_w (jw_or (jt_not (jt_val (je_callB (callN_isi T.kf) T.f_isinstance (ja_cons (je_var (i := 0)) (ja_cons (je_tyB T.f_tuple) ja_nil))))) (jw_or1 (jt_cmp (opN_ne hu64) (je_callB callN_len T.f_len (ja_cons (je_var (i := 0)) ja_nil)) je_int (nomark _)))))
    (jss_one (js_ret je_bl))
    jss_nil)
    (jss_one (js_ret (je_and (je_call cx (Fn_is_among T) T.g_is_among (hr.mono (by decide)) (ja_cons (je_ix (ixN_seqv hu1) (je_var (i := 0)) je_int) (ja_cons (je_var (i := 1)) (ja_cons (je_var (i := 2)) ja_nil)))) (je_one (je_call cx (Fn_is_among T) T.g_is_among (hr.mono (by decide)) (ja_cons (je_ix (ixN_seqv hu1) (je_var (i := 0)) je_int) (ja_cons (je_var (i := 1)) (ja_cons (je_var (i := 2)) ja_nil)))))))))
theorem fn_is_pair {f : Addr} {fd : FuncData} (F : FunD K "is_pair" "is_pair" (defArgs s_is_pair) (defBody s_is_pair) (defScope s_is_pair) [] [] f fd) (T : Txb K mg base) : Fn P WW K mg base 3 f 3 sp_is_pair :=
  ⟨⟨fd, ["thing", "least", "most"], rfl, ok_is_pair F T, F.bindsN fun _ _ _ _ _ _ us hl => match us, hl with | [_, _, _], _ => rfl⟩, F.kp⟩
theorem Fn_is_pair (T : Txb K mg base) : Fn P WW K mg base 3 (He.ga K "is_pair") 3 sp_is_pair := by
  obtain ⟨fd, F⟩ := T.d_is_pair
  exact fn_is_pair F T
theorem sc_is_due : FnScope ["thing"] ["thing"] (defScope s_is_due) := ⟨rfl, rfl, rfl, by decide +kernel, rfl, by decide +kernel, by decide +kernel⟩
theorem ok_is_due {f : Addr} {fd : FuncData} (F : FunD K "is_due" "is_due" (defArgs s_is_due) (defBody s_is_due) (defScope s_is_due) [] [] f fd) (T : Txb K mg base) : FnOk P WW K mg base (L2.CX P WW) 4 f fd ["thing"] (lSp K 1 sp_is_due) := by
  unfold sp_is_due
  refine fn_body (k := 3) (m := m_is_due) F sc_is_due (fun cdv A outer s H E w hr cx => ?_)
  have S := sc_is_due
  have hu64 := hr.units
  have hu1 := hu_of hr
  unfold m_is_due
  exact (jss_one (js_ret (je_and (je_call cx (Fn_is_pair T) T.g_is_pair (hr.mono (by decide)) (ja_cons (je_var (i := 0)) (ja_cons je_int (ja_cons (je_gint T.c_MOST_BOTTOM) ja_nil)))) (je_and (je_cmp opN_ge (je_ix (ixN_seqv hu1) (je_var (i := 0)) je_int) je_int (nomark _)) (je_one (je_cmp opN_le (je_op opN_mul je_int (je_ix (ixN_seqv hu1) (je_var (i := 0)) je_int)) (je_ix (ixN_seqv hu1) (je_var (i := 0)) je_int) (nomark _)))))))
theorem fn_is_due {f : Addr} {fd : FuncData} (F : FunD K "is_due" "is_due" (defArgs s_is_due) (defBody s_is_due) (defScope s_is_due) [] [] f fd) (T : Txb K mg base) : Fn P WW K mg base 4 f 1 sp_is_due :=
  ⟨⟨fd, ["thing"], rfl, ok_is_due F T, F.bindsN fun _ _ _ _ _ _ us hl => match us, hl with | [_], _ => rfl⟩, F.kp⟩
theorem Fn_is_due (T : Txb K mg base) : Fn P WW K mg base 4 (He.ga K "is_due") 1 sp_is_due := by
  obtain ⟨fd, F⟩ := T.d_is_due
  exact fn_is_due F T
theorem sc_is_plain : FnScope ["thing"] ["thing"] (defScope s_is_plain) := ⟨rfl, rfl, rfl, by decide +kernel, rfl, by decide +kernel, by decide +kernel⟩
theorem ok_is_plain {f : Addr} {fd : FuncData} (F : FunD K "is_plain" "is_plain" (defArgs s_is_plain) (defBody s_is_plain) (defScope s_is_plain) [] [] f fd) (T : Txb K mg base) : FnOk P WW K mg base (L2.CX P WW) 5 f fd ["thing"] (lSp K 1 sp_is_plain) := by
  unfold sp_is_plain
  refine fn_body (k := 4) (m := m_is_plain) F sc_is_plain (fun cdv A outer s H E w hr cx => ?_)
  have S := sc_is_plain
  have hu64 := hr.units
  have hu1 := hu_of hr
  unfold m_is_plain
  exact (jss_cons (js_if (jt_w (jw_or (jt_not (jt_val (je_callB (callN_isi T.kf) T.f_isinstance (ja_cons (je_var (i := 0)) (ja_cons (je_tyB T.f_tuple) ja_nil))))) (jw_or (jt_not (jt_chain opN_le opN_le je_int (je_callB callN_len T.f_len (ja_cons (je_var (i := 0)) ja_nil)) je_int)) (jw_or1 (jt_not (jt_val (je_callB (callN_isi T.kf) T.f_isinstance (ja_cons (je_ix (ixN_seqv hu1) (je_var (i := 0)) je_int) (ja_cons (je_tyB T.f_str) ja_nil)))))))))
    (jss_one (js_ret je_bl))
    jss_nil)
    (jss_cons (js_if (jt_w (jw_or (jt_not (jt_val (je_call cx (Fn_is_pair T) T.g_is_pair (hr.mono (by decide)) (ja_cons (je_slice (je_var (i := 0)) (jo_some je_int) (jo_some je_int)) (ja_cons je_int (ja_cons (je_gint T.c_MOST) ja_nil)))))) (jw_or1 (jt_not (jt_val (je_call cx (Fn_is_due T) T.g_is_due (hr.mono (by decide)) (ja_cons (je_ix (ixN_seqv hu1) (je_var (i := 0)) je_int) ja_nil)))))))
    (jss_one (js_ret je_bl))
    jss_nil)
    (jss_cons (js_if (jt_cmp (opN_eq hu64) (je_ix (ixN_seqv hu1) (je_var (i := 0)) je_int) je_str (nomark _))
    (jss_one (js_ret (je_and (je_cmp (opN_eq hu64) (je_callB callN_len T.f_len (ja_cons (je_var (i := 0)) ja_nil)) je_int (nomark _)) (je_and (je_cmp opN_ge (je_ix (ixN_seqv hu1) (je_var (i := 0)) je_int) je_int (nomark _)) (je_one (je_cmp opN_ge (je_ix (ixN_seqv hu1) (je_var (i := 0)) je_int) je_int (nomark _)))))))
    jss_nil)
    (jss_cons (js_if (jt_cmp (opN_ne hu64) (je_callB callN_len T.f_len (ja_cons (je_var (i := 0)) ja_nil)) je_int (nomark _))
    (jss_one (js_ret je_bl))
    jss_nil)
    (jss_cons (js_if (jt_cmp (opN_eq hu64) (je_ix (ixN_seqv hu1) (je_var (i := 0)) je_int) je_str (nomark _))
    (jss_one (js_ret (je_call cx (Fn_is_pair T) T.g_is_pair (hr.mono (by decide)) (ja_cons (je_ix (ixN_seqv hu1) (je_var (i := 0)) je_int) (ja_cons je_int (ja_cons (je_gint T.c_MOST_RATE) ja_nil))))))
    jss_nil)
    (jss_cons (js_if (jt_w (jw_or (jt_cmp (opN_ne hu64) (je_ix (ixN_seqv hu1) (je_var (i := 0)) je_int) je_str (nomark _)) (jw_or1 (jt_not (jt_val (je_call cx (Fn_is_pair T) T.g_is_pair (hr.mono (by decide)) (ja_cons (je_ix (ixN_seqv hu1) (je_var (i := 0)) je_int) (ja_cons je_int (ja_cons (je_gint T.c_MOST) ja_nil)))))))))
    (jss_one (js_ret je_bl))
    jss_nil)
    (jss_one (js_ret (je_and (je_cmp opN_ge (je_op opN_add (je_ix (ixN_seqv hu1) (je_var (i := 0)) je_int) (je_ix (ixN_seqv hu1) (je_ix (ixN_seqv hu1) (je_var (i := 0)) je_int) je_int)) je_int (nomark _)) (je_one (je_cmp opN_ge (je_op opN_add (je_ix (ixN_seqv hu1) (je_var (i := 0)) je_int) (je_ix (ixN_seqv hu1) (je_ix (ixN_seqv hu1) (je_var (i := 0)) je_int) je_int)) je_int (nomark _))))))))))))
theorem fn_is_plain {f : Addr} {fd : FuncData} (F : FunD K "is_plain" "is_plain" (defArgs s_is_plain) (defBody s_is_plain) (defScope s_is_plain) [] [] f fd) (T : Txb K mg base) : Fn P WW K mg base 5 f 1 sp_is_plain :=
  ⟨⟨fd, ["thing"], rfl, ok_is_plain F T, F.bindsN fun _ _ _ _ _ _ us hl => match us, hl with | [_], _ => rfl⟩, F.kp⟩
theorem Fn_is_plain (T : Txb K mg base) : Fn P WW K mg base 5 (He.ga K "is_plain") 1 sp_is_plain := by
  obtain ⟨fd, F⟩ := T.d_is_plain
  exact fn_is_plain F T
theorem Fn_init_Product (T : Txb K mg base) : Fn P WW K mg base 1 (He.ma K (He.ga K "Product") "__init__") 2 sp_Maker___init__ := by
  obtain ⟨fd, F⟩ := T.d_Product_init
  exact fn_Maker___init__ F T
theorem Fn_init_Stretch (T : Txb K mg base) : Fn P WW K mg base 1 (He.ma K (He.ga K "Stretch") "__init__") 2 sp_Maker___init__ := by
  obtain ⟨fd, F⟩ := T.d_Stretch_init
  exact fn_Maker___init__ F T
theorem Fn_init_Sum (T : Txb K mg base) : Fn P WW K mg base 1 (He.ma K (He.ga K "Sum") "__init__") 2 sp_Maker___init__ := by
  obtain ⟨fd, F⟩ := T.d_Sum_init
  exact fn_Maker___init__ F T
theorem sc_maker_of : FnScope ["plain"] ["plain"] (defScope s_maker_of) := ⟨rfl, rfl, rfl, by decide +kernel, rfl, by decide +kernel, by decide +kernel⟩
theorem ok_maker_of {f : Addr} {fd : FuncData} (F : FunD K "maker_of" "maker_of" (defArgs s_maker_of) (defBody s_maker_of) (defScope s_maker_of) [] [] f fd) (T : Txb K mg base) : FnOk P WW K mg base (L2.CX P WW) 6 f fd ["plain"] (lSp K 1 sp_maker_of) := by
  unfold sp_maker_of
  refine fn_body (k := 5) (m := m_maker_of) F sc_maker_of (fun cdv A outer s H E w hr cx => ?_)
  have S := sc_maker_of
  have hu64 := hr.units
  have hu1 := hu_of hr
  unfold m_maker_of
  exact (jss_cons (js_if (jt_not (jt_val (je_call cx (Fn_is_plain T) T.g_is_plain (hr.mono (by decide)) (ja_cons (je_var (i := 0)) ja_nil))))
    (jss_one (js_raise cx T.x_BadMaker T.g_BadMaker))
    jss_nil)
    (jss_cons (js_if (jt_cmp (opN_eq hu64) (je_ix (ixN_seqv hu1) (je_var (i := 0)) je_int) je_str (nomark _))
    (jss_one (js_ret (je_make cx T.co_Product T.k_Product (Fn_init_Product T) T.g_Product (hr.mono (by decide)) (ja_cons (je_var (i := 0)) ja_nil))))
    jss_nil)
    (jss_cons (js_if (jt_cmp (opN_eq hu64) (je_ix (ixN_seqv hu1) (je_var (i := 0)) je_int) je_str (nomark _))
    (jss_one (js_ret (je_make cx T.co_Stretch T.k_Stretch (Fn_init_Stretch T) T.g_Stretch (hr.mono (by decide)) (ja_cons (je_var (i := 0)) ja_nil))))
    jss_nil)
    (jss_one (js_ret (je_make cx T.co_Sum T.k_Sum (Fn_init_Sum T) T.g_Sum (hr.mono (by decide)) (ja_cons (je_var (i := 0)) ja_nil)))))))
theorem fn_maker_of {f : Addr} {fd : FuncData} (F : FunD K "maker_of" "maker_of" (defArgs s_maker_of) (defBody s_maker_of) (defScope s_maker_of) [] [] f fd) (T : Txb K mg base) : Fn P WW K mg base 6 f 1 sp_maker_of :=
  ⟨⟨fd, ["plain"], rfl, ok_maker_of F T, F.bindsN fun _ _ _ _ _ _ us hl => match us, hl with | [_], _ => rfl⟩, F.kp⟩
theorem Fn_maker_of (T : Txb K mg base) : Fn P WW K mg base 6 (He.ga K "maker_of") 1 sp_maker_of := by
  obtain ⟨fd, F⟩ := T.d_maker_of
  exact fn_maker_of F T
theorem mk_Maker_plain (T : Txb K mg base) : MtK P WW K mg base "plain" mt_Maker_plain 2 := by
  refine ⟨fun c n sp h => ?_⟩
  unfold mt_Maker_plain at h
  split at h
  · rename_i e; subst e; cases h
    obtain ⟨fd, F⟩ := T.d_Product_plain
    exact ⟨_, T.m_Product_plain, (fn_Maker_plain F T).mono (by decide)⟩
  split at h
  · rename_i e; subst e; cases h
    obtain ⟨fd, F⟩ := T.d_Stretch_plain
    exact ⟨_, T.m_Stretch_plain, (fn_Maker_plain F T).mono (by decide)⟩
  split at h
  · rename_i e; subst e; cases h
    obtain ⟨fd, F⟩ := T.d_Sum_plain
    exact ⟨_, T.m_Sum_plain, (fn_Maker_plain F T).mono (by decide)⟩
  cases h
theorem sc_law : FnScope ["_law_script", "_law_k", "_law_state_here", "_law_plain_here", "_law_rumour_here", "_law_ware", "_law_count", "_law_many", "_law_found", "_law_odd", "_law_some", "_law_no_ware", "_law_other", "_law_maker", "_law_told_here"] ["_law_script"] (defScope s_law) := ⟨rfl, rfl, rfl, by decide +kernel, rfl, by decide +kernel, by decide +kernel⟩
theorem ok_law {fd : FuncData} (F : FunD K "law" "law" (defArgs s_law) (defBody s_law) (defScope s_law) [] [] (He.ga K "law") fd) (T : Txb K mg base) : FnOk P WW K mg base (L2.CX P WW) 9 (He.ga K "law") fd ["_law_script"] (lSp K 1 sp_law) := by
  unfold sp_law
  obtain ⟨fd__law_told, F__law_told⟩ := T.d__law_told
  refine fn_bodyL (k := 8) (m := m_law) F sc_law (T.lt ("law", lamQ "law") (by unfold LN; simp)) (fun cdv A outer s H E w LT hr cx => ?_)
  have S := sc_law
  have hu64 := hr.units
  have hu1 := hu_of hr
  unfold m_law
  unfold sp__law_told
  exact (jss_cons (js_forR2 cx T.f_range je_int (je_callB (callN_max2 cx.calm) T.f_max (ja_cons je_int (ja_cons (je_callB (callN_min2 cx.calm) T.f_min (ja_cons je_int (ja_cons (je_callB callN_len T.f_len (ja_cons (je_var (i := 0)) ja_nil)) ja_nil))) ja_nil))) (jg_name S.nd)
    (jss_cons (js_set S.nd (je_call cx (Fn__law_state T) T.g__law_state (hr.mono (by decide)) (ja_cons (je_var (i := 0)) (ja_cons (je_var (i := 1)) ja_nil))))
    (jss_cons (js_set S.nd (je_call cx (Fn__law_plain T) T.g__law_plain (hr.mono (by decide)) (ja_cons (je_var (i := 2)) (ja_cons je_int ja_nil))))
    (jss_cons (js_set S.nd (je_call cx (Fn__law_rumour T) T.g__law_rumour (hr.mono (by decide)) (ja_cons (je_var (i := 2)) (ja_cons (je_var (i := 3)) ja_nil))))
    (jss_cons (js_set S.nd (je_ix (ixN_seqv hu1) (je_lst (ja_cons je_str (ja_cons je_str ja_nil))) (je_call cx (Fn__law_draw T) T.g__law_draw (hr.mono (by decide)) (ja_cons (je_var (i := 2)) (ja_cons je_int ja_nil)))))
    (jss_cons (js_set S.nd (je_op opN_add je_int (je_call cx (Fn__law_draw T) T.g__law_draw (hr.mono (by decide)) (ja_cons (je_var (i := 2)) (ja_cons (je_ix (ixN_seqv hu1) (je_lst (ja_cons je_int (ja_cons (je_op opN_pow je_int je_int) ja_nil))) (je_call cx (Fn__law_draw T) T.g__law_draw (hr.mono (by decide)) (ja_cons (je_var (i := 2)) (ja_cons je_int ja_nil)))) ja_nil)))))
    (jss_cons (js_set S.nd (je_call cx (Fn__law_draw T) T.g__law_draw (hr.mono (by decide)) (ja_cons (je_var (i := 2)) (ja_cons (je_ix (ixN_seqv hu1) (je_lst (ja_cons je_int (ja_cons (je_op opN_add (je_op opN_pow je_int je_int) je_int) ja_nil))) (je_call cx (Fn__law_draw T) T.g__law_draw (hr.mono (by decide)) (ja_cons (je_var (i := 2)) (ja_cons je_int ja_nil)))) ja_nil))))
    (jss_cons (js_set S.nd (je_call cx (Fn_gain T) T.g_gain (hr.mono (by decide)) (ja_cons (je_var (i := 4)) (ja_cons (je_var (i := 5)) (ja_cons (je_var (i := 6)) (ja_cons (je_var (i := 7)) ja_nil))))))
    (jss_cons (js_if (jt_w (jw_or (jt_not (jt_val (je_callB (callN_isi T.kf) T.f_isinstance (ja_cons (je_var (i := 8)) (ja_cons (je_tyB T.f_int) ja_nil))))) (jw_or1 (jt_val (je_callB (callN_isi T.kf) T.f_isinstance (ja_cons (je_var (i := 8)) (ja_cons (je_tyB T.f_bool) ja_nil)))))))
    (jss_one (js_ret je_bl))
    jss_nil)
    (jss_cons (js_if (jt_cmp (opN_ne hu64) (je_var (i := 8)) (je_call cx (Fn__law_pays T) T.g__law_pays (hr.mono (by decide)) (ja_cons (je_var (i := 4)) (ja_cons (je_var (i := 5)) (ja_cons (je_var (i := 6)) (ja_cons (je_var (i := 7)) ja_nil))))) (nomark _))
    (jss_one (js_ret je_bl))
    jss_nil)
    (jss_cons (js_set S.nd (je_call cx (Fn__law_odd_rumour T) T.g__law_odd_rumour (hr.mono (by decide)) (ja_cons (je_var (i := 2)) ja_nil)))
    (jss_cons (js_set S.nd (je_lst (ja_cons je_non (ja_cons je_int (ja_cons je_str (ja_cons je_str (ja_cons je_str (ja_cons (je_lst (ja_cons je_str ja_nil)) (ja_cons (je_tup (ja_cons je_str ja_nil)) (ja_cons je_dic0 (ja_cons je_bl (ja_cons je_str ja_nil))))))))))))
    (jss_cons (js_set S.nd (je_ix (ixN_seqv hu1) (je_var (i := 10)) (je_call cx (Fn__law_draw T) T.g__law_draw (hr.mono (by decide)) (ja_cons (je_var (i := 2)) (ja_cons (je_callB callN_len T.f_len (ja_cons (je_var (i := 10)) ja_nil)) ja_nil)))))
    (jss_cons (js_set S.nd (je_ix (ixN_seqv hu1) (je_lst (ja_cons (je_var (i := 5)) (ja_cons (je_var (i := 11)) ja_nil))) (je_call cx (Fn__law_draw T) T.g__law_draw (hr.mono (by decide)) (ja_cons (je_var (i := 2)) (ja_cons je_int ja_nil)))))
    (jss_cons (js_set S.nd (je_call cx (Fn_maker_of T) T.g_maker_of (hr.mono (by decide)) (ja_cons (je_var (i := 3)) ja_nil)))
    (jss_cons (js_set S.nd (je_lst (ja_cons (je_lam (k := 6) cx F__law_told T.g__law_told (F__law_told.bindsN fun _ _ _ _ _ _ us hl => match us, hl with | [_], _ => rfl) sc__law_told LT (hr.mono (by decide)) (fun cdv A outer s H E w f act hr => act__law_told T cdv A outer s H E w f act (hr.mono (by decide))) (fun A outer s H E w f c1 hr cx => (je_call cx (Fn_gain T) T.g_gain (hr.mono (by decide)) (ja_cons (je_var (i := 9)) (ja_cons (je_var (i := 12)) (ja_cons (je_var (i := 6)) (ja_cons (je_var (i := 7)) ja_nil)))))) rfl rfl (by first | exact Or.inl rfl | exact Or.inr (Or.inl rfl)) (by rfl) rfl (fun _ _ _ _ _ => rfl)) ja_nil)))
    (jss_cons (js_expr (je_append (je_var (i := 14)) (ja_cons (je_lam (k := 6) cx F__law_told T.g__law_told (F__law_told.bindsN fun _ _ _ _ _ _ us hl => match us, hl with | [_], _ => rfl) sc__law_told LT (hr.mono (by decide)) (fun cdv A outer s H E w f act hr => act__law_told T cdv A outer s H E w f act (hr.mono (by decide))) (fun A outer s H E w f c1 hr cx => (je_call cx (Fn_gain T) T.g_gain (hr.mono (by decide)) (ja_cons (je_var (i := 4)) (ja_cons (je_var (i := 11)) (ja_cons (je_var (i := 6)) (ja_cons (je_var (i := 7)) ja_nil)))))) rfl rfl (by first | exact Or.inl rfl | exact Or.inr (Or.inl rfl)) (by rfl) rfl (fun _ _ _ _ _ => rfl)) ja_nil)))
    (jss_cons (js_expr (je_append (je_var (i := 14)) (ja_cons (je_lam (k := 6) cx F__law_told T.g__law_told (F__law_told.bindsN fun _ _ _ _ _ _ us hl => match us, hl with | [_], _ => rfl) sc__law_told LT (hr.mono (by decide)) (fun cdv A outer s H E w f act hr => act__law_told T cdv A outer s H E w f act (hr.mono (by decide))) (fun A outer s H E w f c1 hr cx => (je_call cx (Fn_best_deal T) T.g_best_deal (hr.mono (by decide)) (ja_cons (je_var (i := 13)) (ja_cons (je_var (i := 9)) ja_nil)))) rfl rfl (by first | exact Or.inl rfl | exact Or.inr (Or.inl rfl)) (by rfl) rfl (fun _ _ _ _ _ => rfl)) ja_nil)))
    (jss_one (js_if (jt_w (jw_or (jt_cmp (opN_ne hu64) (je_var (i := 14)) (je_lst (ja_cons je_str (ja_cons je_str (ja_cons je_str ja_nil)))) (nomark _)) (jw_or1 (jt_cmp (opN_ne hu64) (je_methK0 cx (mk_Maker_plain T) (hr.mono (by decide)) (je_var (i := 13)) ) (je_var (i := 3)) (nomark _)))))
    (jss_one (js_ret je_bl))
    jss_nil))))))))))))))))))))
    (jss_one (js_ret je_bl)))
theorem fn_law {fd : FuncData} (F : FunD K "law" "law" (defArgs s_law) (defBody s_law) (defScope s_law) [] [] (He.ga K "law") fd) (T : Txb K mg base) : Fn P WW K mg base 9 (He.ga K "law") 1 sp_law :=
  ⟨⟨fd, ["_law_script"], rfl, ok_law F T, F.bindsN fun _ _ _ _ _ _ us hl => match us, hl with | [_], _ => rfl⟩, F.kp⟩
theorem Fn_law (T : Txb K mg base) : Fn P WW K mg base 9 (He.ga K "law") 1 sp_law := by
  obtain ⟨fd, F⟩ := T.d_law
  exact fn_law F T
end
end K16

namespace K16
open PySem N L2
set_option maxHeartbeats 4000000
local macro_rules | `(tactic| simp_arith [$args,*]) => `(tactic| simp -implicitDefEqProofs only [↓u_mLam, ↓u_mAct, ↓u_mM1, ↓u_nJoin, ↓u_mOp, ↓u_mTst, ↓u_mVar, ↓u_mC, ↓u_mAnd, ↓u_mOr, ↓u_mNot, ↓u_mAndV, ↓u_mOrV, ↓u_mNotV, ↓u_mIf, ↓u_mChain, ↓u_mNil, ↓u_mCons, ↓u_mTup, ↓u_mLst, ↓u_mDic0, ↓u_nAdd, ↓u_nInt, ↓u_nInt0, ↓u_nIsN, ↓u_nNotN, ↓u_nEq, ↓u_nNe, ↓u_nNin, ↓u_nIx, ↓u_mNoPart, ↓u_mPart, ↓u_nSl, ↓u_mSl, ↓u_nRev, ↓u_mUn, ↓u_nNeg, ↓u_nFld, ↓u_sFldN, ↓u_mCallB, ↓u_nLen, ↓u_nMax2, ↓u_nMin2, ↓u_nAbs, ↓u_nInt1, ↓u_nStr1, ↓u_nList1, ↓u_nTuple1, ↓u_mCall, ↓u_mMeth, ↓u_mMake, ↓u_spOf, ↓u_sNext, ↓u_sSeq, ↓u_sBreak, ↓u_sCont, ↓u_sDrop, ↓u_sRet, ↓u_sIf, ↓u_gNm, ↓u_gsNil, ↓u_gsCons, ↓u_gTp, ↓u_sAsg, ↓u_sSet, ↓u_nSet, ↓u_gIx, ↓u_sAug, ↓u_nAdd', ↓u_nGet, ↓u_sAugS, ↓u_nWalk, ↓u_sFor, ↓u_sForR1, ↓u_sForR2, ↓u_sRaise, ↓u_sTryO, ↓u_sTryK, ↓u_nTupIndex, ↓u_mTupIndex, ↓u_nIndex, ↓u_mLm, ↓u_nAppend, ↓u_nIndexL, ↓u_mDisp, ↓u_sFldAugN, ↓u_nSub, ↓u_nMul, ↓u_nDiv, ↓u_nMod, ↓u_nPow, ↓u_nLt, ↓u_nLe, ↓u_nGt, ↓u_nGe, ↓u_nIn, ↓nth, ↓startN, ↓mPairs, ↓u_mLc, u_nwipe0, u_nwipe1, ↓u_mYes, ↓u_iWalk, ↓u_nWalkA, ↓u_iRg1, ↓u_iRg2, ↓u_nLstAt, ↓u_iEnumN, ↓u_iZipN, ↓u_sForI, ↓u_nSum, ↓u_nAll, ↓u_nMaxL, ↓u_nIsC, ↓u_nRevP, u_nMax1L, u_nMax1T, ↓u_sPar, lstOf, lenD, seqOf, dicOf, keyD, isNonD, eqT_ii, eqT_ss, eqT_bb, eqT_nn, eqT_ni, eqT_in, eqT_nb, eqT_bn, eqT_ns, eqT_sn, eqT_is, eqT_si, Nat.zero_add, Nat.reduceAdd, Nat.zero_le, sl_0, sm_0, sl_1, sm_1, sl_2, sm_2, sl_3, sm_3, sl_4, sm_4, sl_5, sm_5, sl_6, sm_6, sl_7, sm_7, sl_8, sm_8, sl_9, sm_9, sl_10, sm_10, sl_11, sm_11, sl_12, sm_12, List.set_cons_zero, List.set_cons_succ, List.map_cons, List.map_nil, List.length_cons, List.length_nil, true_and, $args,*])
local macro_rules | `(tactic| simp_arith! [$args,*]) => `(tactic| simp -implicitDefEqProofs only [u_runF, u_spOf, $args,*])
/-! ### makers -/
inductive Kd where | pr | st | su
structure Mk where
  k : Kd
  s : Int
  c : Int
  t : Int
  b : Int
  x : Int
  y : Int
def Mk.more (m : Mk) : List D := match m.k with
  | .pr => []
  | _ => [.tup [.int m.x, .int m.y]]
def Mk.word (m : Mk) : Str := match m.k with
  | .pr => "product"
  | .st => "stretch"
  | .su => "sum"
def Mk.cn (m : Mk) : Str := match m.k with
  | .pr => "Product"
  | .st => "Stretch"
  | .su => "Sum"
def Mk.d (m : Mk) : D := .tup (.str m.word :: .int m.s :: .int m.c :: .tup [.int m.t, .int m.b] :: m.more)
/-- a due -/
structure Due (t b : Int) : Prop where
  t0 : 0 ≤ t
  b1 : 1 ≤ b
  b2 : b ≤ 10000
  tb : 10 * t ≤ b
structure Mk.Ok (m : Mk) : Prop where
  s0 : 0 ≤ m.s
  s1 : m.s ≤ 1000000000000
  c0 : 0 ≤ m.c
  c1 : m.c ≤ 1000000000000
  due : Due m.t m.b
  pr : m.k = .pr → 1 ≤ m.s ∧ 1 ≤ m.c
  st : m.k = .st → 0 ≤ m.x ∧ m.x ≤ 1000000000000 ∧ 0 ≤ m.y ∧ m.y ≤ 1000000000000 ∧ 1 ≤ m.s + m.x ∧ 1 ≤ m.c + m.y
  su : m.k = .su → 1 ≤ m.x ∧ m.x ≤ 1000000 ∧ 1 ≤ m.y ∧ m.y ≤ 1000000
theorem is_whole_int {i : Int} {S : Sto} {Q : NQ} {E} {T : TgQ Q E} : runF sp_is_whole [.int i] S Q E T = Q (.bl true) S := by
  simp_arith! [sp_is_whole, m_is_whole]
  simp_arith [↓isi_int_int, ↓isi_int_bool]
  rfl
theorem is_among_int {i a b : Int} {S : Sto} {Q : NQ} {E} {T : TgQ Q E} : runF sp_is_among [.int i, .int a, .int b] S Q E T = Q (.bl (decide (a ≤ i) && decide (i ≤ b))) S := by
  simp_arith! [sp_is_among, m_is_among]
  simp_arith [↓is_whole_int, true_and]
  cases decide (a ≤ i) <;> rfl
theorem is_pair_int {i j a b : Int} {S : Sto} {Q : NQ} {E} {T : TgQ Q E} : runF sp_is_pair [.tup [.int i, .int j], .int a, .int b] S Q E T = Q (.bl ((decide (a ≤ i) && decide (i ≤ b)) && (decide (a ≤ j) && decide (j ≤ b)))) S := by
  simp_arith! [sp_is_pair, m_is_pair]
  simp_arith [↓isi_tup_tuple, ↓is_among_int, true_and, Bool.not_true, ↓atI_0, ↓atI_1, Nat.zero_add, Nat.reduceAdd, Int.cast_ofNat_Int, decide_true]
  generalize (decide (a ≤ i) && decide (i ≤ b)) = u
  cases u
  · rfl
  · rfl
theorem is_due_int {t b : Int} {S : Sto} {Q : NQ} {E} {T : TgQ Q E} : runF sp_is_due [.tup [.int t, .int b]] S Q E T = Q (.bl (((decide (0 ≤ t) && decide (t ≤ 10000)) && (decide (0 ≤ b) && decide (b ≤ 10000))) && (decide (1 ≤ b) && decide (10 * t ≤ b)))) S := by
  simp_arith! [sp_is_due, m_is_due]
  simp_arith [↓is_pair_int, true_and, ↓atI_0, ↓atI_1]
  have hm : MulOk 10 t := .inl (by decide)
  simp only [hm, true_and]
  cases (decide (0 ≤ t) && decide (t ≤ 10000)) <;> cases (decide (0 ≤ b) && decide (b ≤ 10000)) <;> cases decide (1 ≤ b) <;> rfl
theorem is_due_ok {t b : Int} (h : Due t b) {S : Sto} {Q : NQ} {E} {T : TgQ Q E} : runF sp_is_due [.tup [.int t, .int b]] S Q E T = Q (.bl true) S := by
  rw [is_due_int]
  obtain ⟨h1, h2, h3, h4⟩ := h
  have e1 : 0 ≤ b := by omega
  have e2 : t ≤ 10000 := by omega
  simp only [h1, h2, h3, h4, e1, e2, decide_true, Bool.and_self]
theorem is_plain_ok {m : Mk} (h : m.Ok) {S : Sto} {Q : NQ} {E} {T : TgQ Q E} : runF sp_is_plain [m.d] S Q E T = Q (.bl true) S := by
  obtain ⟨s0, s1, c0, c1, du, hp, hs, hu⟩ := h
  obtain ⟨k, s, c, t, b, x, y⟩ := m
  dsimp only at *
  simp_arith! [sp_is_plain, m_is_plain]
  unfold Mk.d
  cases k with
  | pr =>
    obtain ⟨h1, h2⟩ := hp rfl
    simp_arith [Mk.more, Mk.word, ↓isi_tup_tuple, ↓isi_str_str, ↓is_due_ok du, ↓is_pair_int, true_and, Bool.not_true, ↓atI_0, ↓atI_1, ↓atI_2, ↓atI_3, ↓atI_4, ↓cut_13, ofString_inj, decide_true, s0, s1, c0, c1, h1, h2, Bool.and_self, Nat.zero_add, Nat.reduceAdd, Int.cast_ofNat_Int, Int.reduceLE, Int.reduceEq, decide_false, Bool.not_false]
  | st =>
    obtain ⟨h1, h2, h3, h4, h5, h6⟩ := hs rfl
    have n1 : ("stretch" = "product") = False := by decide
    have n2 : ("stretch" = "sum") = False := by decide
    simp_arith [Mk.more, Mk.word, ↓isi_tup_tuple, ↓isi_str_str, ↓is_due_ok du, ↓is_pair_int, true_and, Bool.not_true, ↓atI_0, ↓atI_1, ↓atI_2, ↓atI_3, ↓atI_4, ↓cut_13, ofString_inj, decide_true, s0, s1, c0, c1, h1, h2, h3, h4, h5, h6, n1, n2, Bool.and_self, Nat.zero_add, Nat.reduceAdd, Int.cast_ofNat_Int, Int.reduceLE, Int.reduceEq, decide_false, Bool.not_false]
  | su =>
    obtain ⟨h1, h2, h3, h4⟩ := hu rfl
    have n1 : ("sum" = "product") = False := by decide
    simp_arith [Mk.more, Mk.word, ↓isi_tup_tuple, ↓isi_str_str, ↓is_due_ok du, ↓is_pair_int, true_and, Bool.not_true, ↓atI_0, ↓atI_1, ↓atI_2, ↓atI_3, ↓atI_4, ↓cut_13, ofString_inj, decide_true, s0, s1, c0, c1, h1, h2, h3, h4, n1, Bool.and_self, Nat.zero_add, Nat.reduceAdd, Int.cast_ofNat_Int, Int.reduceLE, Int.reduceEq, decide_false, Bool.not_false]

/-! ### wares -/
def wr (side : Int) : Str := if side = 0 then "salt" else "cloth"
theorem need_ware_ok {i : Int} (h : i = 0 ∨ i = 1) {S : Sto} {Q : NQ} {E} {T : TgQ Q E} : runF sp_need_ware [.str (wr i)] S Q E T = Q (.int i) S := by
  simp_arith! [sp_need_ware, m_need_ware]
  unfold wr c_WARES
  rcases h with rfl | rfl
  · simp_arith [↓isi_str_str, if_pos, Bool.not_true, flatD, eqF, List.all_cons, List.all_nil, List.any_cons, List.any_nil, ofString_beq, true_and, Bool.and_self, List.findIdx?_cons, ofString_inj, decide_true, if_true, beq_self_eq_true, Bool.true_or]
    rfl
  · have n1 : ((1 : Int) = 0) = False := by decide
    have n2 : ("salt" = "cloth") = False := by decide
    have n3 : ("salt" == "cloth") = false := by decide
    simp_arith [↓isi_str_str, n1, n2, n3, if_false, Bool.not_true, flatD, eqF, List.all_cons, List.all_nil, List.any_cons, List.any_nil, ofString_beq, true_and, Bool.and_self, List.findIdx?_cons, ofString_inj, decide_true, decide_false, if_true, beq_self_eq_true, Bool.true_or, Bool.or_true, Bool.false_or]
    rfl
theorem need_count_ok {i : Int} (h : 1 ≤ i) {S : Sto} {Q : NQ} {E} {T : TgQ Q E} : runF sp_need_count [.int i] S Q E T = Q .non S := by
  simp_arith! [sp_need_count, m_need_count]
  have e : decide (i < 1) = false := decide_eq_false (by omega)
  simp_arith [↓is_whole_int, true_and, Bool.not_true, e]
/-! ### a maker at its address -/
@[irreducible] def mFs (m : Mk) (q : Addr) : List (Str × D) := [("stock", .ref q), ("due", .tup [.int m.t, .int m.b]), ("more", .tup m.more), ("rest", .int (m.b - m.t)), ("parts", .int m.b)]
theorem mFs_stock {m : Mk} {q : Addr} : (mFs m q).lookup ("stock" : Str) = some (.ref q) := by unfold mFs; simp [List.lookup, ofString_beq]
theorem mFs_due {m : Mk} {q : Addr} : (mFs m q).lookup ("due" : Str) = some (.tup [.int m.t, .int m.b]) := by unfold mFs; simp [List.lookup, ofString_beq]
theorem mFs_more {m : Mk} {q : Addr} : (mFs m q).lookup ("more" : Str) = some (.tup m.more) := by unfold mFs; simp [List.lookup, ofString_beq]
theorem mFs_rest {m : Mk} {q : Addr} : (mFs m q).lookup ("rest" : Str) = some (.int (m.b - m.t)) := by unfold mFs; simp [List.lookup, ofString_beq]
theorem mFs_parts {m : Mk} {q : Addr} : (mFs m q).lookup ("parts" : Str) = some (.int m.b) := by unfold mFs; simp [List.lookup, ofString_beq]
theorem mFs_no {m : Mk} {q : Addr} {f : String} (h : f ≠ "stock" ∧ f ≠ "due" ∧ f ≠ "more" ∧ f ≠ "rest" ∧ f ≠ "parts") : (mFs m q).lookup (f : Str) = none := by
  obtain ⟨h1, h2, h3, h4, h5⟩ := h
  have h1 := beq_eq_false_iff_ne.mpr h1
  have h2 := beq_eq_false_iff_ne.mpr h2
  have h3 := beq_eq_false_iff_ne.mpr h3
  have h4 := beq_eq_false_iff_ne.mpr h4
  have h5 := beq_eq_false_iff_ne.mpr h5
  unfold mFs; simp only [List.lookup, ofString_beq, h1, h2, h3, h4, h5]
structure MkAt (p q : Addr) (m : Mk) (S : Sto) : Prop where
  ins : S p = some (.ins m.cn (mFs m q))
  lst : S q = some (.lst [.int m.s, .int m.c])
  ne : p ≠ q
theorem MkAt.up {p q : Addr} {m : Mk} {S S' : Sto} {A : List Addr} (h : MkAt p q m S) (u : Upd A S S') (hp : p ∉ A) (hq : q ∉ A) : MkAt p q m S' := ⟨u p _ hp h.ins, u q _ hq h.lst, h.ne⟩
def Mk.stk (m : Mk) (i : Int) : Int := if i = 0 then m.s else m.c
def Mk.px (m : Mk) : Int := match m.k with | .st => m.x | _ => 0
def Mk.py (m : Mk) : Int := match m.k with | .st => m.y | _ => 0
def Mk.gr (m : Mk) (i : Int) : Int := if i = 0 then m.s + m.px else m.c + m.py
def Mk.rt (m : Mk) (i : Int) : Int := if i = 0 then m.x else m.y
def Mk.got (m : Mk) (i n : Int) : Int := match m.k with
  | .su => n * (m.b - m.t) * m.rt (1 - i) / (m.b * m.rt i)
  | _ => m.gr (1 - i) * (n * (m.b - m.t)) / (m.gr i * m.b + n * (m.b - m.t))
def mn (a b : Int) : Int := if b < a then b else a
def Mk.comes (m : Mk) (i n : Int) : Int := mn (m.got i n) (m.stk (1 - i))
def Mk.deal (m : Mk) (i n : Int) : Mk := if i = 0 then { m with s := m.s + n, c := m.c - m.comes 0 n } else { m with c := m.c + n, s := m.s - m.comes 1 n }
def Sd (i : Int) : Prop := i = 0 ∨ i = 1
theorem at_sd {α : Type} {x y : α} {i : Int} (h : Sd i) : atI [x, y] i = some (if i = 0 then x else y) := by rcases h with rfl | rfl <;> rfl
theorem at_sd' {α : Type} {x y : α} {i : Int} (h : Sd i) : atI [x, y] (1 - i) = some (if 1 - i = 0 then x else y) := by rcases h with rfl | rfl <;> rfl
theorem int_if {c : Prop} [Decidable c] {x y : Int} : (if c then D.int x else D.int y) = D.int (if c then x else y) := by split <;> rfl
theorem haves_ok {p q : Addr} {m : Mk} {S : Sto} {Q : NQ} {E} {T : TgQ Q E} (h : MkAt p q m S) : runF sp_Maker_haves [.ref p] S Q E T = Q (.tup [.int m.s, .int m.c]) S := by
  simp_arith! [sp_Maker_haves, m_Maker_haves]
  simp_arith [h.ins, h.lst, mFs_stock, atI_0, atI_1]
theorem propped_ok {p q : Addr} {m : Mk} {S : Sto} {Q : NQ} {E} {T : TgQ Q E} (h : MkAt p q m S) (hk : m.k = .st) : runF sp_Stretch_propped [.ref p] S Q E T = Q (.tup [.int (m.s + m.px), .int (m.c + m.py)]) S := by
  simp_arith! [sp_Stretch_propped, m_Stretch_propped]
  have e1 : m.more = [.tup [.int m.x, .int m.y]] := by unfold Mk.more; rw [hk]
  have e2 : m.px = m.x := by unfold Mk.px; rw [hk]
  have e3 : m.py = m.y := by unfold Mk.py; rw [hk]
  simp_arith [h.ins, h.lst, mFs_stock, mFs_more, e1, e2, e3, atI_0, atI_1]
/-- what a deal asks for -/
structure Ask0 (m : Mk) (i n : Int) : Prop where
  ok : m.Ok
  sd : Sd i
  n1 : 1 ≤ n
  n2 : n ≤ 2000000000000
structure Asks (m : Mk) (i n : Int) : Prop extends Ask0 m i n where
  top : m.stk i + n ≤ 1000000000000
theorem Mk.Ok.px {m : Mk} (h : m.Ok) : 0 ≤ m.px ∧ m.px ≤ 1000000000000 ∧ 0 ≤ m.py ∧ m.py ≤ 1000000000000 := by
  have := h.st
  obtain ⟨k, s, c, t, b, x, y⟩ := m
  cases k
  · refine ⟨Int.le_refl _, ?_, Int.le_refl _, ?_⟩ <;> exact (by decide : (0 : Int) ≤ 1000000000000)
  · obtain ⟨h1, h2, h3, h4, _⟩ := this rfl
    exact ⟨h1, h2, h3, h4⟩
  · refine ⟨Int.le_refl _, ?_, Int.le_refl _, ?_⟩ <;> exact (by decide : (0 : Int) ≤ 1000000000000)
theorem Mk.Ok.gr {m : Mk} (h : m.Ok) (i : Int) : 0 ≤ m.gr i ∧ m.gr i ≤ 2000000000000 := by
  have h1 := h.s0; have h2 := h.s1; have h3 := h.c0; have h4 := h.c1; have h5 := h.px
  unfold Mk.gr
  split <;> omega
theorem Ask0.den {m : Mk} {i n : Int} (h : Ask0 m i n) : 0 < m.gr i * m.b + n * (m.b - m.t) ∧ m.gr i * m.b + n * (m.b - m.t) < 2 ^ 64 ∧ 0 ≤ n * (m.b - m.t) ∧ n * (m.b - m.t) ≤ 20000000000000000 := by
  have g := h.ok.gr i
  have n1 := h.n1; have n2 := h.n2
  obtain ⟨t0, b1, b2, tb⟩ := h.ok.due
  have r1 : 1 ≤ m.b - m.t := by omega
  have r2 : m.b - m.t ≤ 10000 := by omega
  have a1 : 1 * 1 ≤ n * (m.b - m.t) := Int.mul_le_mul n1 r1 (by decide) (by omega)
  have a2 : n * (m.b - m.t) ≤ 2000000000000 * 10000 := Int.mul_le_mul n2 r2 (by omega) (by decide)
  have a3 : 0 ≤ m.gr i * m.b := Int.mul_nonneg g.1 (by omega)
  have a4 : m.gr i * m.b ≤ 2000000000000 * 10000 := Int.mul_le_mul g.2 b2 (by omega) (by decide)
  omega
theorem prod_ok {p q : Addr} {m : Mk} {i n : Int} {S : Sto} {Q : NQ} {E} {T : TgQ Q E} (h : MkAt p q m S) (a : Asks m i n) : runF sp_product_coming [.ref p, .tup [.int (m.s + m.px), .int (m.c + m.py)], .int i, .int n] S Q E T = Q (.int (m.gr (1 - i) * (n * (m.b - m.t)) / (m.gr i * m.b + n * (m.b - m.t)))) S := by
  simp_arith! [sp_product_coming, m_product_coming]
  obtain ⟨t0, b1, b2, tb⟩ := a.ok.due
  have d := a.den
  have n1 := a.n1; have n2 := a.n2
  have e1 : N.MulOk n (m.b - m.t) := mul_ok_l (by omega) (by omega)
  have e2 : N.MulOk (m.gr (1 - i)) (n * (m.b - m.t)) := mul_ok_r (by omega) (by omega)
  have e3 : N.MulOk (m.gr i) m.b := mul_ok_r (by omega) (by omega)
  have e4 : DivOk (m.gr (1 - i) * (n * (m.b - m.t))) (m.gr i * m.b + n * (m.b - m.t)) := div_ok d.1 d.2.1
  have f1 : atI [D.int (m.s + m.px), D.int (m.c + m.py)] i = some (.int (m.gr i)) := by rw [at_sd a.sd, int_if]; rfl
  have f2 : atI [D.int (m.s + m.px), D.int (m.c + m.py)] (1 - i) = some (.int (m.gr (1 - i))) := by rw [at_sd' a.sd, int_if]; rfl
  simp_arith [h.ins, mFs_rest, mFs_parts, e1, e2, e3, e4, f1, f2]
/-! #### the methods by kind -/
theorem cn_pr {m : Mk} (h : m.k = .pr) : m.cn = "Product" := by unfold Mk.cn; rw [h]
theorem cn_st {m : Mk} (h : m.k = .st) : m.cn = "Stretch" := by unfold Mk.cn; rw [h]
theorem cn_su {m : Mk} (h : m.k = .su) : m.cn = "Sum" := by unfold Mk.cn; rw [h]
theorem mt_haves {m : Mk} : mt_Maker_haves m.cn = some (1, sp_Maker_haves) := by
  obtain ⟨k, s, c, t, b, x, y⟩ := m
  cases k <;> simp [Mk.cn, mt_Maker_haves, ofString_inj]
theorem mt_propped : mt_Maker_propped "Stretch" = some (1, sp_Stretch_propped) := by simp [mt_Maker_propped]
def Mk.fc (m : Mk) : NSp := match m.k with | .pr => sp_Product_coming | .st => sp_Stretch_coming | .su => sp_Sum_coming
theorem mt_coming {m : Mk} : mt_Maker_coming m.cn = some (3, m.fc) := by
  obtain ⟨k, s, c, t, b, x, y⟩ := m
  cases k <;> simp [Mk.cn, Mk.fc, mt_Maker_coming, ofString_inj]
theorem mt_is_dealt {m : Mk} : mt_Maker_is_dealt m.cn = some (3, sp_Maker_is_dealt) := by
  obtain ⟨k, s, c, t, b, x, y⟩ := m
  cases k <;> simp [Mk.cn, mt_Maker_is_dealt, ofString_inj]
theorem mt_told {m : Mk} : mt_Maker_told m.cn = some (3, sp_Maker_told) := by
  obtain ⟨k, s, c, t, b, x, y⟩ := m
  cases k <;> simp [Mk.cn, mt_Maker_told, ofString_inj]
theorem coming_ok {p q : Addr} {m : Mk} {i n : Int} {S : Sto} {Q : NQ} {E} {T : TgQ Q E} (h : MkAt p q m S) (a : Asks m i n) : runF m.fc [.ref p, .int i, .int n] S Q E T = Q (.int (m.got i n)) S := by
  have key : ∀ k, m.k = k → runF m.fc [.ref p, .int i, .int n] S Q E T = Q (.int (m.got i n)) S := by
    intro k hk
    cases k with
    | pr =>
      have e1 : m.px = 0 := by unfold Mk.px; rw [hk]
      have e2 : m.py = 0 := by unfold Mk.py; rw [hk]
      have e3 := @prod_ok p q m i n S
      simp only [e1, e2, Int.add_zero] at e3
      have e4 : m.got i n = m.gr (1 - i) * (n * (m.b - m.t)) / (m.gr i * m.b + n * (m.b - m.t)) := by unfold Mk.got; rw [hk]
      have e5 : m.fc = sp_Product_coming := by unfold Mk.fc; rw [hk]
      rw [e4, e5]
      simp_arith! [sp_Product_coming, m_Product_coming]
      simp_arith [h.ins, mt_haves, haves_ok h, e3 h a, mFs_no (m := m) (q := q) (f := "haves") (by decide)]
    | st =>
      have e4 : m.got i n = m.gr (1 - i) * (n * (m.b - m.t)) / (m.gr i * m.b + n * (m.b - m.t)) := by unfold Mk.got; rw [hk]
      have e5 : m.fc = sp_Stretch_coming := by unfold Mk.fc; rw [hk]
      rw [e4, e5]
      simp_arith! [sp_Stretch_coming, m_Stretch_coming]
      simp_arith [h.ins, cn_st hk, mt_propped, propped_ok h hk, prod_ok h a, mFs_no (m := m) (q := q) (f := "propped") (by decide)]
    | su =>
      have e4 : m.got i n = n * (m.b - m.t) * m.rt (1 - i) / (m.b * m.rt i) := by unfold Mk.got; rw [hk]
      have e5 : m.fc = sp_Sum_coming := by unfold Mk.fc; rw [hk]
      rw [e4, e5]
      have e6 : m.more = [.tup [.int m.x, .int m.y]] := by unfold Mk.more; rw [hk]
      have f1 : atI [D.int m.x, D.int m.y] i = some (.int (m.rt i)) := by rw [at_sd a.sd, int_if]; rfl
      have f2 : atI [D.int m.x, D.int m.y] (1 - i) = some (.int (m.rt (1 - i))) := by rw [at_sd' a.sd, int_if]; rfl
      obtain ⟨t0, b1, b2, tb⟩ := a.ok.due
      obtain ⟨x0, x1, y0, y1⟩ := a.ok.su hk
      have r : ∀ i, 1 ≤ m.rt i ∧ m.rt i ≤ 1000000 := by intro i; unfold Mk.rt; split <;> omega
      have n1 := a.n1; have n2 := a.n2
      have d1 : 1 * 1 ≤ m.b * m.rt i := Int.mul_le_mul b1 (r i).1 (by decide) (by omega)
      have d2 : m.b * m.rt i ≤ 10000 * 1000000 := Int.mul_le_mul b2 (r i).2 (by have := (r i).1; omega) (by decide)
      have g1 : N.MulOk n (m.b - m.t) := mul_ok_l (by omega) (by omega)
      have g2 : N.MulOk (n * (m.b - m.t)) (m.rt (1 - i)) := mul_ok_r (by have := (r (1 - i)).1; omega) (by have := (r (1 - i)).2; omega)
      have g3 : N.MulOk m.b (m.rt i) := mul_ok_l (by omega) (by omega)
      have g4 : DivOk (n * (m.b - m.t) * m.rt (1 - i)) (m.b * m.rt i) := div_ok (by omega) (by omega)
      simp_arith! [sp_Sum_coming, m_Sum_coming]
      simp_arith [h.ins, mFs_more, mFs_rest, mFs_parts, e6, atI_0, f1, f2, g1, g2, g3, g4]
  exact key _ rfl
theorem is_dealt_ok {p q : Addr} {m : Mk} {i n : Int} {S : Sto} {Q : NQ} {E} {T : TgQ Q E} (h : MkAt p q m S) (hs : Sd i) : runF sp_Maker_is_dealt [.ref p, .int i, .int n] S Q E T = Q (.bl (decide (m.stk i + n ≤ 1000000000000))) S := by
  simp_arith! [sp_Maker_is_dealt, m_Maker_is_dealt]
  have f1 : atI [D.int m.s, D.int m.c] i = some (.int (m.stk i)) := by rw [at_sd hs, int_if]; rfl
  simp_arith [h.ins, h.lst, mFs_stock, f1]
theorem told_ok {p q : Addr} {m : Mk} {i n : Int} {S : Sto} {Q : NQ} {E} {T : TgQ Q E} (h : MkAt p q m S) (a : Asks m i n) : runF sp_Maker_told [.ref p, .str (wr i), .int n] S Q E T = Q (.int (m.comes i n)) S := by
  simp_arith! [sp_Maker_told, m_Maker_told]
  have f2 : atI [D.int m.s, D.int m.c] (1 - i) = some (.int (m.stk (1 - i))) := by rw [at_sd' a.sd, int_if]; rfl
  have f3 : decide (m.stk i + n ≤ 1000000000000) = true := decide_eq_true a.top
  simp_arith [need_ware_ok a.sd, need_count_ok a.n1, h.ins, h.lst, mFs_stock, mt_is_dealt, mt_coming, is_dealt_ok h a.sd, f3, coming_ok h a, f2, mFs_no (m := m) (q := q) (f := "is_dealt") (by decide), mFs_no (m := m) (q := q) (f := "coming") (by decide), Bool.not_true]
  rfl
theorem deal_fs {m : Mk} {i n : Int} {q : Addr} : mFs (m.deal i n) q = mFs m q := by
  unfold Mk.deal
  by_cases hi : i = 0
  · rw [if_pos hi]; unfold mFs Mk.more; rfl
  · rw [if_neg hi]; unfold mFs Mk.more; rfl
theorem deal_cn {m : Mk} {i n : Int} : (m.deal i n).cn = m.cn := by
  unfold Mk.deal
  by_cases hi : i = 0
  · rw [if_pos hi]; rfl
  · rw [if_neg hi]; rfl
/-! ### the tuple of a maker -/
theorem eqT_d {m : Mk} {S : Sto} : eqT S m.d m.d = some true := by
  obtain ⟨k, s, c, t, b, x, y⟩ := m
  cases k
  · exact eqT_tup (ps := [.str "product", .int s, .int c, .tuple [.int t, .int b]]) rfl (by simp [PyData.canLayAll0, PyData.canLay0, str_ok]) (by simp [PyData.depthAll, PyData.depth])
  · exact eqT_tup (ps := [.str "stretch", .int s, .int c, .tuple [.int t, .int b], .tuple [.int x, .int y]]) rfl (by simp [PyData.canLayAll0, PyData.canLay0, str_ok]) (by simp [PyData.depthAll, PyData.depth])
  · exact eqT_tup (ps := [.str "sum", .int s, .int c, .tuple [.int t, .int b], .tuple [.int x, .int y]]) rfl (by simp [PyData.canLayAll0, PyData.canLay0, str_ok]) (by simp [PyData.depthAll, PyData.depth])
def Mk.fn (m : Mk) : NSp := match m.k with | .pr => sp_Maker_called | .st => sp_Stretch_called | .su => sp_Sum_called
theorem mt_called {m : Mk} : mt_Maker_called m.cn = some (1, m.fn) := by
  obtain ⟨k, s, c, t, b, x, y⟩ := m
  cases k <;> simp [Mk.cn, Mk.fn, mt_Maker_called, ofString_inj]
theorem called_ok {p : Addr} {m : Mk} {S : Sto} {Q : NQ} {E} {T : TgQ Q E} : runF m.fn [.ref p] S Q E T = Q (.str m.word) S := by
  obtain ⟨k, s, c, t, b, x, y⟩ := m
  cases k
  · show runF sp_Maker_called [.ref p] S Q E T = Q (.str "product") S
    simp_arith! [sp_Maker_called, m_Maker_called]
    simp_arith []
  · show runF sp_Stretch_called [.ref p] S Q E T = Q (.str "stretch") S
    simp_arith! [sp_Stretch_called, m_Stretch_called]
    simp_arith []
  · show runF sp_Sum_called [.ref p] S Q E T = Q (.str "sum") S
    simp_arith! [sp_Sum_called, m_Sum_called]
    simp_arith []
theorem mt_plain {m : Mk} : mt_Maker_plain m.cn = some (1, sp_Maker_plain) := by
  obtain ⟨k, s, c, t, b, x, y⟩ := m
  cases k <;> simp [Mk.cn, mt_Maker_plain, ofString_inj]
theorem more_len {m : Mk} : ((0 + 1 + 1 + 1 + 1 + m.more.length ≤ sizeLine) = True) := by
  refine eq_true ?_
  have : m.more.length ≤ 1 := by unfold Mk.more; split <;> simp
  have : (5 : Nat) ≤ sizeLine := by decide
  omega
theorem get_plain_ok {p q : Addr} {m : Mk} {S : Sto} {Q : NQ} {E} {T : TgQ Q E} (h : MkAt p q m S) : runF sp_Maker_plain [.ref p] S Q E T = Q m.d S := by
  simp_arith! [sp_Maker_plain, m_Maker_plain]
  unfold Mk.d
  have := @more_len m
  simp only [Nat.zero_add, Nat.reduceAdd] at this
  simp_arith [h.ins, h.lst, mt_called, called_ok, mFs_stock, mFs_due, mFs_more, atI_0, atI_1, mFs_no (m := m) (q := q) (f := "called") (by decide), List.cons_append, List.nil_append, this]
/-! ### numbers drawn -/
theorem mixed_ok {c k : Int} (h0 : 0 ≤ k) (h1 : k < 1000) {S : Sto} {Q : NQ} {E} {T : TgQ Q E} (h : ∀ v, 0 ≤ v → v < 2147483647 → Q (.int v) S) : runF sp__law_mixed [.int c, .int k] S Q E T := by
  simp_arith! [sp__law_mixed, m__law_mixed]
  have e1 : N.MulOk 2 k := .inl (by decide)
  have e2 : N.MulOk (2 * k) k := .inl (by omega)
  have e3 : 0 ≤ k * k ∧ k * k < 1000000 := ⟨Int.mul_nonneg h0 h0, by have := Int.mul_le_mul (by omega : k ≤ 999) (by omega : k ≤ 999) h0 (by omega : (0 : Int) ≤ 999); omega⟩
  have e4 : 2 * k * k = 2 * (k * k) := Int.mul_assoc _ _ _
  have e5 : N.MulOk c (48271 + 2 * k * k) := .inr (.inl (by omega))
  have e6 : N.MulOk 69621 k := .inl (by decide)
  have e7 : ∀ z, N.MulOk z 69621 := fun z => .inr (.inl (by decide))
  have e8 : (0 : Int) < 2147483647 := by decide
  have e9 : (0 : Int) < 2147483629 := by decide
  simp_arith [e1, e2, e5, e6, e7, e8, e9, true_and]
  have := mod_lt (i := (c * (48271 + 2 * k * k) + 69621 * k + 11) % 2147483647 * 69621) e9
  exact h _ this.1 (by omega)
structure Dr (a b : Addr) (ns : List Int) (S S' : Sto) : Prop where
  l : LSt a b ns S'
  u : Upd [a, b] S S'
theorem Dr.trans {a b : Addr} {ns : List Int} {S S1 S2 : Sto} (h : Dr a b ns S S1) (k : Dr a b ns S1 S2) : Dr a b ns S S2 := ⟨k.l, h.u.trans k.u⟩
theorem Dr.new {a b : Addr} {ns : List Int} {S S1 : Sto} {p : Addr} {o : Ob} (h : Dr a b ns S S1) (hp : S1 p = none) : Dr a b ns S (put S1 p o) := ⟨h.l.up (A := []) (Upd.new hp) (by simp) (by simp), h.u.trans (Upd.new hp)⟩
def mx (a b : Int) : Int := if b > a then b else a
theorem ok_pr {s c t b : Int} (s0 : 0 ≤ s) (s1 : s ≤ 1000000000000) (c0 : 0 ≤ c) (c1 : c ≤ 1000000000000) (du : Due t b) : (Mk.mk .pr (if s > 1 then s else 1) (if c > 1 then c else 1) t b 0 0).Ok := by
  refine ⟨?_, ?_, ?_, ?_, du, fun _ => ⟨?_, ?_⟩, nofun, nofun⟩ <;> dsimp only <;> split <;> omega
theorem ok_st {s c t b x y : Int} (s0 : 0 ≤ s) (s1 : s ≤ 1000000000000) (c0 : 0 ≤ c) (c1 : c ≤ 1000000000000) (x0 : 0 ≤ x) (x1 : x ≤ 1000000000000) (y0 : 0 ≤ y) (y1 : y ≤ 1000000000000) (du : Due t b) : (Mk.mk .st s c t b (if x > 1 - (if s < 1 then s else 1) then x else 1 - (if s < 1 then s else 1)) (if y > 1 - (if c < 1 then c else 1) then y else 1 - (if c < 1 then c else 1))).Ok := by
  refine ⟨s0, s1, c0, c1, du, nofun, fun _ => ⟨?_, ?_, ?_, ?_, ?_, ?_⟩, nofun⟩ <;> dsimp only <;> (repeat' split) <;> omega
theorem ok_su {s c t b x y : Int} (s0 : 0 ≤ s) (s1 : s ≤ 1000000000000) (c0 : 0 ≤ c) (c1 : c ≤ 1000000000000) (x0 : 0 ≤ x) (x1 : x ≤ 999999) (y0 : 0 ≤ y) (y1 : y ≤ 999999) (du : Due t b) : (Mk.mk .su s c t b (1 + x) (1 + y)).Ok := by
  refine ⟨s0, s1, c0, c1, du, nofun, nofun, fun _ => ⟨?_, ?_, ?_, ?_⟩⟩ <;> dsimp only <;> omega
/-! ### a maker is made -/
theorem init_ok {p : Addr} {m : Mk} {c : Str} {S : Sto} {Q : NQ} {E} {T : TgQ Q E} (h : S p = some (.ins c [])) (k : ∀ q S', S q = none → S' p = some (.ins c (mFs m q)) → S' q = some (.lst [.int m.s, .int m.c]) → Upd [p] S S' → Q .non S') : runF sp_Maker___init__ [.ref p, m.d] S Q E T := by
  simp_arith! [sp_Maker___init__, m_Maker___init__]
  unfold Mk.d
  have t : ∀ n, n < 12 → n < 1000 := by omega
  have z0 : (0 < 1000) = True := eq_true (by decide)
  have z1 : (1 < 1000) = True := eq_true (by decide)
  have z2 : (2 < 1000) = True := eq_true (by decide)
  have z3 : (3 < 1000) = True := eq_true (by decide)
  have z4 : (4 < 1000) = True := eq_true (by decide)
  have p1 : ∀ v, putD "stock" v [] = ([("stock", v)] : List (Str × D)) := fun v => rfl
  have p2 : ∀ v a, putD "due" v [("stock", a)] = ([("stock", a), ("due", v)] : List (Str × D)) := fun v a => by simp [putD, ofString_inj]
  have p3 : ∀ v a b, putD "more" v [("stock", a), ("due", b)] = ([("stock", a), ("due", b), ("more", v)] : List (Str × D)) := fun v a b => by simp [putD, ofString_inj]
  have p4 : ∀ v a b c, putD "rest" v [("stock", a), ("due", b), ("more", c)] = ([("stock", a), ("due", b), ("more", c), ("rest", v)] : List (Str × D)) := fun v a b c => by simp [putD, ofString_inj]
  have p5 : ∀ v a b c d, putD "parts" v [("stock", a), ("due", b), ("more", c), ("rest", d)] = ([("stock", a), ("due", b), ("more", c), ("rest", d), ("parts", v)] : List (Str × D)) := fun v a b c d => by simp [putD, ofString_inj]
  simp_arith [atI_0, atI_1, atI_2, atI_3]
  intro q hq
  have qp : q ≠ p := fun z => by rw [z, h] at hq; cases hq
  have la : ∀ o, put S q o p = some (.ins c []) := fun o => by rw [put_ne (Ne.symm qp), h]
  simp_arith [la, put_same, z0, z1, z2, z3, z4, p1, p2, p3, p4, p5, atI_0, atI_1, atI_2, atI_3, cut_4]
  refine k q _ hq (put_same.trans (by unfold mFs; rfl)) ?_ ?_
  · simp only [put_ne qp, put_same]
  · exact (Upd.new hq).trans ((Upd.at (by simp)).trans ((Upd.at (by simp)).trans ((Upd.at (by simp)).trans ((Upd.at (by simp)).trans (Upd.at (by simp))))))
theorem make_up {p q : Addr} {S S' : Sto} {o : Ob} (hp : S p = none) (u : Upd [p] (put S p o) S') : Keeps S S' := by
  intro a o' _ e
  have : a ≠ p := fun z => by rw [z, hp] at e; cases e
  exact u a o' (by simpa using this) (by rw [put_ne this]; exact e)
theorem maker_of_ok {m : Mk} (o : m.Ok) {S : Sto} {Q : NQ} {E} {T : TgQ Q E} (k : ∀ p q S', S p = none → S q = none → MkAt p q m S' → Keeps S S' → Q (.ref p) S') : runF sp_maker_of [m.d] S Q E T := by
  have fin : ∀ (E' : Str → Option Addr → Sto → Prop) (x : Addr), S x = none → ∀ T', runF sp_Maker___init__ [.ref x, m.d] (put S x (.ins m.cn [])) (fun v S2 => isNonD v = true ∧ Q (.ref x) S2) E' T' := by
    intro E' x hx T'
    refine init_ok put_same fun q S' hq e1 e2 u => ⟨rfl, ?_⟩
    have qx : q ≠ x := fun z => by rw [z, put_same] at hq; cases hq
    rw [put_ne qx] at hq
    exact k x q S' hx hq ⟨e1, e2, Ne.symm qx⟩ (make_up (q := q) hx u)
  simp_arith! [sp_maker_of, m_maker_of]
  obtain ⟨kd, s, c, t, b, x, y⟩ := m
  have n1 : ("stretch" = "product") = False := by decide
  have n2 : ("sum" = "product") = False := by decide
  have n3 : ("sum" = "stretch") = False := by decide
  have e0 : atI (match (Mk.mk kd s c t b x y).d with | .tup ds => ds | _ => []) 0 = some (.str (Mk.mk kd s c t b x y).word) := by unfold Mk.d; exact atI_0 _ _
  have pl := fun (Q : NQ) (E : Str → Option Addr → Sto → Prop) (T : TgQ Q E) => is_plain_ok o (S := S) (Q := Q) (E := E) (T := T)
  cases kd with
  | pr =>
    unfold Mk.d Mk.word Mk.more at *
    unfold Mk.cn at fin
    dsimp only at *
    simp_arith [pl, Bool.not_true, atI_0, ofString_inj, decide_true]
    exact fun x hx => fin _ x hx _
  | st =>
    unfold Mk.d Mk.word Mk.more at *
    unfold Mk.cn at fin
    dsimp only at *
    simp_arith [pl, Bool.not_true, atI_0, ofString_inj, decide_true, n1, decide_false]
    exact fun x hx => fin _ x hx _
  | su =>
    unfold Mk.d Mk.word Mk.more at *
    unfold Mk.cn at fin
    dsimp only at *
    simp_arith [pl, Bool.not_true, atI_0, ofString_inj, decide_true, n2, n3, decide_false]
    exact fun x hx => fin _ x hx _
/-! ### keeps, worth -/
def Mk.ws (m : Mk) : Int := match m.k with | .su => m.x | _ => m.s + m.px
def Mk.wc (m : Mk) : Int := match m.k with | .su => m.y | _ => m.c + m.py
def Mk.kp (m : Mk) : Int := match m.k with | .su => m.x * m.c + m.y * m.s | _ => (m.s + m.px) * (m.c + m.py)
theorem Mk.Ok.w1 {m : Mk} (h : m.Ok) : 1 ≤ m.ws ∧ 1 ≤ m.wc := by
  obtain ⟨s0, s1, c0, c1, du, hp, hs, hu⟩ := h
  obtain ⟨k, s, c, t, b, x, y⟩ := m
  cases k
  · have := hp rfl
    simp only [Mk.ws, Mk.wc, Mk.px, Mk.py] at *; omega
  · have := hs rfl
    simp only [Mk.ws, Mk.wc, Mk.px, Mk.py] at *; omega
  · have := hu rfl
    simp only [Mk.ws, Mk.wc, Mk.px, Mk.py] at *; omega
theorem Asks.got {m : Mk} {i n : Int} (h : Asks m i n) : 0 ≤ m.got i n ∧ (m.k ≠ .su → m.got i n < m.gr (1 - i)) := by
  have g := h.ok.gr
  have d := h.den
  obtain ⟨t0, b1, b2, tb⟩ := h.ok.due
  have hs := h.sd
  have key : ∀ k, m.k = k → 0 ≤ m.got i n ∧ (m.k ≠ .su → m.got i n < m.gr (1 - i)) := by
    intro k hk
    have w : k ≠ .su → 1 ≤ m.gr i ∧ 1 ≤ m.gr (1 - i) := by
      intro z
      have w := h.ok.w1
      have g1 : m.ws = m.s + m.px := by unfold Mk.ws; rw [hk]; cases k <;> first | rfl | exact absurd rfl z
      have g2 : m.wc = m.c + m.py := by unfold Mk.wc; rw [hk]; cases k <;> first | rfl | exact absurd rfl z
      rw [g1, g2] at w
      unfold Mk.gr
      rcases hs with rfl | rfl
      · rw [if_pos rfl, if_neg (by decide)]; exact w
      · rw [if_neg (by decide), if_pos (by decide)]; exact ⟨w.2, w.1⟩
    have pd : k ≠ .su → m.got i n = m.gr (1 - i) * (n * (m.b - m.t)) / (m.gr i * m.b + n * (m.b - m.t)) → 0 ≤ m.got i n ∧ (m.k ≠ .su → m.got i n < m.gr (1 - i)) := by
      intro z e
      obtain ⟨w1, w2⟩ := w z
      have d0 : 1 * 1 ≤ m.gr i * m.b := Int.mul_le_mul w1 b1 (by decide) (by omega)
      rw [e]
      exact ⟨share_nn (by omega) (by omega) d.2.2.1, fun _ => share_lt w2 (by omega) d.2.2.1⟩
    cases k with
    | pr => exact pd (by intro z; cases z) (by unfold Mk.got; rw [hk])
    | st => exact pd (by intro z; cases z) (by unfold Mk.got; rw [hk])
    | su =>
      refine ⟨?_, fun z => absurd hk z⟩
      obtain ⟨x0, x1, y0, y1⟩ := h.ok.su hk
      have r : ∀ i, 0 ≤ m.rt i := by intro i; unfold Mk.rt; split <;> omega
      have e4 : m.got i n = n * (m.b - m.t) * m.rt (1 - i) / (m.b * m.rt i) := by unfold Mk.got; rw [hk]
      rw [e4]
      exact Int.ediv_nonneg (Int.mul_nonneg d.2.2.1 (r _)) (Int.mul_nonneg (by omega) (r _))
  exact key _ rfl
theorem Asks.comes {m : Mk} {i n : Int} (h : Asks m i n) : 0 ≤ m.comes i n ∧ m.comes i n ≤ m.stk (1 - i) ∧ (m.k ≠ .su → m.comes i n < m.gr (1 - i)) := by
  have g := h.got
  have s0 := h.ok.s0; have c0 := h.ok.c0
  have st : 0 ≤ m.stk (1 - i) := by unfold Mk.stk; split <;> omega
  unfold Mk.comes mn
  split
  · refine ⟨st, Int.le_refl _, fun z => ?_⟩
    have := g.2 z; omega
  · exact ⟨g.1, by omega, g.2⟩
theorem Asks.ok' {m : Mk} {i n : Int} (h : Asks m i n) : (m.deal i n).Ok := by
  have g := h.comes
  have n1 := h.n1
  have tp := h.top
  obtain ⟨s0, s1, c0, c1, du, hp, hs, hu⟩ := h.ok
  have sd := h.sd
  have st0 : m.stk 0 = m.s := rfl
  have st1 : m.stk 1 = m.c := rfl
  have gr0 : m.gr 0 = m.s + m.px := rfl
  have gr1 : m.gr 1 = m.c + m.py := rfl
  rcases sd with rfl | rfl
  · have e : m.deal 0 n = { m with s := m.s + n, c := m.c - m.comes 0 n } := rfl
    have j : (1 : Int) - 0 = 1 := by decide
    rw [j, st1, gr1] at g
    rw [st0] at tp
    rw [e]
    refine ⟨?_, ?_, ?_, ?_, du, fun hk => ?_, fun hk => ?_, hu⟩ <;> dsimp only at *
    · omega
    · omega
    · omega
    · omega
    · have g3 := g.2.2 (by rw [hk]; intro z; cases z)
      have e2 : m.py = 0 := by unfold Mk.py; rw [hk]
      have := hp hk; omega
    · have g3 := g.2.2 (by rw [hk]; intro z; cases z)
      have e2 : m.py = m.y := by unfold Mk.py; rw [hk]
      have := hs hk; omega
  · have e : m.deal 1 n = { m with c := m.c + n, s := m.s - m.comes 1 n } := rfl
    have j : (1 : Int) - 1 = 0 := by decide
    rw [j, st0, gr0] at g
    rw [st1] at tp
    rw [e]
    refine ⟨?_, ?_, ?_, ?_, du, fun hk => ?_, fun hk => ?_, hu⟩ <;> dsimp only at *
    · omega
    · omega
    · omega
    · omega
    · have g3 := g.2.2 (by rw [hk]; intro z; cases z)
      have e2 : m.px = 0 := by unfold Mk.px; rw [hk]
      have := hp hk; omega
    · have g3 := g.2.2 (by rw [hk]; intro z; cases z)
      have e2 : m.px = m.x := by unfold Mk.px; rw [hk]
      have := hs hk; omega
theorem Mk.Ok.sb {m : Mk} (o : m.Ok) (i : Int) : 0 ≤ m.stk i ∧ m.stk i ≤ 1000000000000 := by
  have := o.s0; have := o.s1; have := o.c0; have := o.c1
  unfold Mk.stk; split <;> omega
/-! ### short words -/
theorem at_wares {i : Int} (h : Sd i) : atI (c_WARES.map D.str) i = some (.str (wr i)) := by rcases h with rfl | rfl <;> rfl
theorem md (m : Mk) : m.d = .tup (.str m.word :: .int m.s :: .int m.c :: .tup [.int m.t, .int m.b] :: m.more) := id rfl
theorem at_1s {m : Mk} {i : Int} {w : D} {r : List D} (h : Sd i) : atI (w :: .int m.s :: .int m.c :: r) (1 + i) = some (.int (m.stk i)) := by
  rcases h with rfl | rfl
  · exact atI_1 _ _ _
  · exact atI_2 _ _ _ _
theorem at_2s {m : Mk} {i : Int} {w : D} {r : List D} (h : Sd i) : atI (w :: .int m.s :: .int m.c :: r) (2 - i) = some (.int (m.stk (1 - i))) := by
  rcases h with rfl | rfl
  · exact atI_2 _ _ _ _
  · exact atI_1 _ _ _
theorem Mk.Ok.g1 {m : Mk} (h : m.Ok) (hk : m.k ≠ .su) (i : Int) : 1 ≤ m.gr i := by
  have w := h.w1
  have a : m.ws = m.s + m.px := by unfold Mk.ws; split <;> first | rfl | (rename_i z; exact absurd z hk)
  have b : m.wc = m.c + m.py := by unfold Mk.wc; split <;> first | rfl | (rename_i z; exact absurd z hk)
  unfold Mk.gr
  split <;> omega
theorem stk_set {m : Mk} {i n : Int} (sd : Sd i) : (m.deal i n).stk i = m.stk i + n ∧ (m.deal i n).stk (1 - i) = m.stk (1 - i) - m.comes i n := by
  rcases sd with rfl | rfl <;> exact ⟨rfl, rfl⟩
/-! ### what the law reckons -/
/-! ### a deal that is too much -/
theorem told_bad {p q : Addr} {m : Mk} {i n : Int} {S : Sto} {Q : NQ} {E} {T : TgQ Q E} (h : MkAt p q m S) (hs : Sd i) (hn : 1 ≤ n) (ht : ¬ m.stk i + n ≤ 1000000000000) : runF sp_Maker_told [.ref p, .str (wr i), .int n] S Q E T = E "TooMuch" none S := by
  simp_arith! [sp_Maker_told, m_Maker_told]
  have f3 : decide (m.stk i + n ≤ 1000000000000) = false := decide_eq_false ht
  simp_arith [need_ware_ok hs, need_count_ok hn, h.ins, h.lst, mFs_stock, mt_is_dealt, is_dealt_ok h hs, f3, mFs_no (m := m) (q := q) (f := "is_dealt") (by decide), Bool.not_false]
/-! #### worth -/
theorem ltN_mod {x y : Nat} : ((x : Int) % (y : Int)) = ((x % y : Nat) : Int) := rfl
theorem least_loop (Z : NEnds) (a b : Option D) (S : Sto) : ∀ (y x : Nat) (r : Option D), (∀ r', Z.nx [a, b, some (.int (Nat.gcd x y : Nat)), some (.int 0), r'] S) → ∃ n, whileN (mTst (mOp nGt (mVar 3) (mC (.int 0)))) (sSeq (sSet 4 (mOp nMod (mVar 2) (mVar 3))) (sSeq (sSet 2 (mVar 3)) (sSet 3 (mVar 4)))) Z n [a, b, some (.int x), some (.int y), r] S := by
  intro y
  induction y using Nat.strongRecOn with
  | _ y ih =>
    intro x r h
    by_cases hy : y = 0
    · subst hy
      refine ⟨1, ?_⟩
      have e : decide ((0 : Int) < ((0 : Nat) : Int)) = false := by decide
      rw [u_whileN]
      simp_arith [e]
      have := h r
      rwa [Nat.gcd_zero_right] at this
    · have y0 : 0 < y := Nat.pos_of_ne_zero hy
      obtain ⟨n, hn⟩ := ih (x % y) (Nat.mod_lt _ y0) y (some (.int ((x % y : Nat) : Int))) (fun r' => by
        have e : Nat.gcd y (x % y) = Nat.gcd x y := by rw [Nat.gcd_comm y, ← Nat.gcd_rec, Nat.gcd_comm]
        rw [e]; exact h r')
      refine ⟨n + 1, ?_⟩
      have e : decide ((0 : Int) < (y : Int)) = true := decide_eq_true (by omega)
      have e2 : (0 : Int) < (y : Int) := by omega
      rw [u_whileN]
      simp_arith [e, e2]
      exact hn
theorem nat_of {i : Int} (h : 0 ≤ i) : ∃ n : Nat, i = n := ⟨i.toNat, by omega⟩
theorem Mk.Ok.w2 {m : Mk} (h : m.Ok) : m.ws < 2 ^ 60 ∧ m.wc < 2 ^ 60 := by
  obtain ⟨s0, s1, c0, c1, du, hp, hs, hu⟩ := h
  obtain ⟨k, s, c, t, b, x, y⟩ := m
  cases k
  · simp only [Mk.ws, Mk.wc, Mk.px, Mk.py] at *; omega
  · have := hs rfl
    simp only [Mk.ws, Mk.wc, Mk.px, Mk.py] at *; omega
  · have := hu rfl
    simp only [Mk.ws, Mk.wc, Mk.px, Mk.py] at *; omega
def Mk.g (m : Mk) : Nat := Nat.gcd m.wc.toNat m.ws.toNat
theorem low_gcd {x y : Int} (x1 : 1 ≤ x) (y1 : 1 ≤ y) : ∃ u v : Nat, x / (Nat.gcd x.toNat y.toNat : Nat) = (u : Int) ∧ y / (Nat.gcd x.toNat y.toNat : Nat) = (v : Int) ∧ Nat.gcd u v = 1 ∧ (u : Int) * y = x * v ∧ 0 < v := by
  obtain ⟨n, rfl⟩ := nat_of (i := x) (by omega)
  obtain ⟨k, rfl⟩ := nat_of (i := y) (by omega)
  simp only [Int.toNat_natCast]
  have g0 : 0 < Nat.gcd n k := Nat.gcd_pos_of_pos_right _ (by omega)
  have d1 := Nat.gcd_dvd_left n k
  have d2 := Nat.gcd_dvd_right n k
  obtain ⟨u, hu⟩ := d1
  obtain ⟨v, hv⟩ := d2
  have e1 : n / Nat.gcd n k = u := by
    have := Nat.mul_div_cancel_left u g0
    rwa [← hu] at this
  have e2 : k / Nat.gcd n k = v := by
    have := Nat.mul_div_cancel_left v g0
    rwa [← hv] at this
  have e3 : Nat.gcd n k = Nat.gcd n k * Nat.gcd u v := by
    rw [← Nat.gcd_mul_left, ← hu, ← hv]
  have e4 : Nat.gcd u v = 1 := Nat.eq_of_mul_eq_mul_left g0 (by rw [← e3, Nat.mul_one])
  refine ⟨u, v, by rw [← e1]; rfl, by rw [← e2]; rfl, e4, ?_, Nat.pos_of_ne_zero fun z => by rw [z, Nat.mul_zero] at hv; omega⟩
  have : u * k = n * v := by
    have h1 : u * (Nat.gcd n k * v) = Nat.gcd n k * u * v := by rw [Nat.mul_left_comm, Nat.mul_assoc]
    rwa [← hu, ← hv] at h1
  exact_mod_cast this
/-! ### what is kept -/
theorem keep_pd {A B b r n out : Int} (hA : 0 ≤ A) (rb : r ≤ b) (hr : 1 ≤ r) (ho : 0 ≤ out) (h : out * (A * b + n * r) ≤ B * (n * r)) : out * (A + n) ≤ B * n := by
  have p1 : A * r ≤ A * b := Int.mul_le_mul_of_nonneg_left rb hA
  have p2 : out * (A * r + n * r) ≤ out * (A * b + n * r) := Int.mul_le_mul_of_nonneg_left (by omega) ho
  have p3 : out * (A * r + n * r) = (out * (A + n)) * r := by rw [← Int.add_mul, ← Int.mul_assoc]
  have p4 : B * (n * r) = (B * n) * r := (Int.mul_assoc _ _ _).symm
  rw [p3] at p2; rw [p4] at h
  exact Int.le_of_mul_le_mul_right (Int.le_trans p2 h) (by omega)
theorem keep_pd2 {A B n out : Int} (h : out * (A + n) ≤ B * n) : A * B ≤ (A + n) * (B - out) := by
  have e1 : (A + n) * (B - out) = A * B + n * B - (A + n) * out := by rw [Int.mul_sub, Int.add_mul]
  rw [e1, Int.mul_comm n B, Int.mul_comm (A + n) out]
  omega
theorem keep_su {b r n out R R' : Int} (rb : r ≤ b) (hb : 1 ≤ b) (hn : 1 ≤ n) (hR' : 1 ≤ R') (h : out * (b * R) ≤ n * r * R') : out * R ≤ n * R' := by
  have p1 : n * r ≤ n * b := Int.mul_le_mul_of_nonneg_left rb (by omega)
  have p2 : n * r * R' ≤ n * b * R' := Int.mul_le_mul_of_nonneg_right p1 (by omega)
  have p3 : out * (b * R) = (out * R) * b := by rw [Int.mul_comm b R, Int.mul_assoc]
  have p4 : n * b * R' = (n * R') * b := by rw [Int.mul_assoc, Int.mul_comm b R', Int.mul_assoc]
  rw [p3] at h; rw [p4] at p2
  exact Int.le_of_mul_le_mul_right (Int.le_trans h p2) (by omega)
theorem comes_le {m : Mk} {i n : Int} : m.comes i n ≤ m.got i n := by unfold Mk.comes mn; split <;> omega
/-- by the rule -/
theorem Asks.rule_pd {m : Mk} {i n : Int} (a : Asks m i n) (hk : m.k ≠ .su) : m.comes i n * (m.gr i + n) ≤ m.gr (1 - i) * n := by
  obtain ⟨t0, b1, b2, tb⟩ := a.ok.due
  have d := a.den
  have c := a.comes
  have e4 : m.got i n = m.gr (1 - i) * (n * (m.b - m.t)) / (m.gr i * m.b + n * (m.b - m.t)) := by unfold Mk.got; split <;> first | rfl | (rename_i z; exact absurd z hk)
  have l := @comes_le m i n
  rw [e4] at l
  refine keep_pd (r := m.b - m.t) (b := m.b) (a.ok.gr i).1 (by omega) (by omega) c.1 ?_
  exact (Int.le_ediv_iff_mul_le d.1).mp l
theorem Asks.rule_su {m : Mk} {i n : Int} (a : Asks m i n) (hk : m.k = .su) : m.comes i n * m.rt i ≤ n * m.rt (1 - i) := by
  obtain ⟨t0, b1, b2, tb⟩ := a.ok.due
  obtain ⟨x0, x1, y0, y1⟩ := a.ok.su hk
  have r : ∀ i, 1 ≤ m.rt i := by intro i; unfold Mk.rt; split <;> omega
  have e4 : m.got i n = n * (m.b - m.t) * m.rt (1 - i) / (m.b * m.rt i) := by unfold Mk.got; rw [hk]
  have l := @comes_le m i n
  rw [e4] at l
  refine keep_su (r := m.b - m.t) (b := m.b) (by omega) b1 a.n1 (r _) ?_
  exact (Int.le_ediv_iff_mul_le (Int.mul_pos (by omega) (by have := r i; omega))).mp l
theorem kp_su {m : Mk} (h : m.k = .su) : m.kp = m.x * m.c + m.y * m.s := by unfold Mk.kp; rw [h]
theorem kp_pd {m : Mk} (h : m.k ≠ .su) : m.kp = (m.s + m.px) * (m.c + m.py) := by unfold Mk.kp; split <;> first | rfl | (rename_i z; exact absurd z h)
theorem deal_0 {m : Mk} {n : Int} : m.deal 0 n = { m with s := m.s + n, c := m.c - m.comes 0 n } := rfl
theorem deal_1 {m : Mk} {n : Int} : m.deal 1 n = { m with c := m.c + n, s := m.s - m.comes 1 n } := rfl
theorem deal_k {m : Mk} {i n : Int} : (m.deal i n).k = m.k := by unfold Mk.deal; split <;> rfl
theorem Asks.keeps {m : Mk} {i n : Int} (a : Asks m i n) : m.kp ≤ (m.deal i n).kp := by
  by_cases hk : m.k = .su
  · have h := a.rule_su hk
    rw [kp_su hk, kp_su (by rw [deal_k, hk])]
    rcases a.sd with rfl | rfl
    · have j : (1 : Int) - 0 = 1 := by decide
      rw [j] at h
      have r0 : m.rt 0 = m.x := rfl
      have r1 : m.rt 1 = m.y := rfl
      rw [r0, r1] at h
      rw [deal_0]
      dsimp only
      rw [Int.mul_sub, Int.mul_add, Int.mul_comm m.x (m.comes 0 n), Int.mul_comm m.y n]
      omega
    · have j : (1 : Int) - 1 = 0 := by decide
      rw [j] at h
      have r0 : m.rt 0 = m.x := rfl
      have r1 : m.rt 1 = m.y := rfl
      rw [r0, r1] at h
      rw [deal_1]
      dsimp only
      rw [Int.mul_sub, Int.mul_add, Int.mul_comm m.y (m.comes 1 n), Int.mul_comm m.x n]
      omega
  · have h := a.rule_pd hk
    rw [kp_pd hk, kp_pd (by rw [deal_k]; exact hk)]
    have g0 : m.gr 0 = m.s + m.px := rfl
    have g1 : m.gr 1 = m.c + m.py := rfl
    rcases a.sd with rfl | rfl
    · have j : (1 : Int) - 0 = 1 := by decide
      rw [j, g0, g1] at h
      have q := keep_pd2 h
      have e1 : (m.deal 0 n).s + (m.deal 0 n).px = m.s + m.px + n := by rw [deal_0]; unfold Mk.px; dsimp only; omega
      have e2 : (m.deal 0 n).c + (m.deal 0 n).py = m.c + m.py - m.comes 0 n := by rw [deal_0]; unfold Mk.py; dsimp only; omega
      rw [e1, e2]; exact q
    · have j : (1 : Int) - 1 = 0 := by decide
      rw [j, g0, g1] at h
      have q := keep_pd2 h
      have e1 : (m.deal 1 n).s + (m.deal 1 n).px = m.s + m.px - m.comes 1 n := by rw [deal_1]; unfold Mk.px; dsimp only; omega
      have e2 : (m.deal 1 n).c + (m.deal 1 n).py = m.c + m.py + n := by rw [deal_1]; unfold Mk.py; dsimp only; omega
      rw [e1, e2, Int.mul_comm (m.s + m.px - m.comes 1 n), Int.mul_comm (m.s + m.px)]; exact q
/-- what never changes -/
structure Same (m m' : Mk) : Prop where
  k : m'.k = m.k
  t : m'.t = m.t
  b : m'.b = m.b
  x : m'.x = m.x
  y : m'.y = m.y
theorem Same.refl (m : Mk) : Same m m := ⟨rfl, rfl, rfl, rfl, rfl⟩
theorem Same.trans {m m1 m2 : Mk} (a : Same m m1) (b : Same m1 m2) : Same m m2 := ⟨b.k.trans a.k, b.t.trans a.t, b.b.trans a.b, b.x.trans a.x, b.y.trans a.y⟩
theorem Same.deal {m : Mk} {i n : Int} : Same m (m.deal i n) := by unfold Mk.deal; split <;> exact ⟨rfl, rfl, rfl, rfl, rfl⟩
theorem Same.px {m m' : Mk} (h : Same m m') : m'.px = m.px := by unfold Mk.px; rw [h.k, h.x]
theorem Same.py {m m' : Mk} (h : Same m m') : m'.py = m.py := by unfold Mk.py; rw [h.k, h.y]
theorem mul_strict {a b c d : Int} (h1 : a ≤ c) (h2 : b ≤ d) (a0 : 1 ≤ a) (b0 : 1 ≤ b) (h : c * d ≤ a * b) : a = c ∧ b = d := by
  have p1 : a * b ≤ c * b := Int.mul_le_mul_of_nonneg_right h1 (by omega)
  have p2 : c * b ≤ c * d := Int.mul_le_mul_of_nonneg_left h2 (by omega)
  have e1 : a * b = c * b := by omega
  have e2 : c * b = c * d := by omega
  exact ⟨Int.eq_of_mul_eq_mul_right (by omega) e1, Int.eq_of_mul_eq_mul_left (by omega) e2⟩
theorem nobody {m0 m : Mk} (h : Same m0 m) (o0 : m0.Ok) (o : m.Ok) (k : m0.kp ≤ m.kp) (hs : m.s ≤ m0.s) (hc : m.c ≤ m0.c) : m.s = m0.s ∧ m.c = m0.c := by
  by_cases hk : m0.k = .su
  · have hk' : m.k = .su := h.k.trans hk
    rw [kp_su hk, kp_su hk', h.x, h.y] at k
    obtain ⟨x0, x1, y0, y1⟩ := o0.su hk
    have p1 : m0.x * m.c ≤ m0.x * m0.c := Int.mul_le_mul_of_nonneg_left hc (by omega)
    have p2 : m0.y * m.s ≤ m0.y * m0.s := Int.mul_le_mul_of_nonneg_left hs (by omega)
    have e1 : m0.x * m.c = m0.x * m0.c := by omega
    have e2 : m0.y * m.s = m0.y * m0.s := by omega
    exact ⟨Int.eq_of_mul_eq_mul_left (by omega) e2, Int.eq_of_mul_eq_mul_left (by omega) e1⟩
  · have hk' : m.k ≠ .su := by rw [h.k]; exact hk
    rw [kp_pd hk, kp_pd hk', h.px, h.py] at k
    have g0 := o.g1 hk' 0; have g1 := o.g1 hk' 1
    have r0 : m.gr 0 = m.s + m.px := rfl
    have r1 : m.gr 1 = m.c + m.py := rfl
    rw [r0, h.px] at g0; rw [r1, h.py] at g1
    obtain ⟨a, b⟩ := mul_strict (a := m.s + m0.px) (b := m.c + m0.py) (c := m0.s + m0.px) (d := m0.c + m0.py) (by omega) (by omega) g0 g1 k
    exact ⟨by omega, by omega⟩
/-- the worth of salt falls where cloth comes in .. -/
theorem frac_le {u v u' v' c s c' s' : Int} (hs : 1 ≤ s) (hs' : 1 ≤ s') (hv : 0 < v) (hv' : 0 < v') (e : u * s = c * v) (e' : u' * s' = c' * v') (h : c' * s ≤ c * s') : u' * v ≤ u * v' := by
  have p : (c' * s) * (v * v') ≤ (c * s') * (v * v') := Int.mul_le_mul_of_nonneg_right h (Int.mul_nonneg (by omega) (by omega))
  have e1 : (c' * s) * (v * v') = (u' * v) * (s * s') := by
    calc (c' * s) * (v * v') = (c' * v') * (s * v) := by ac_rfl
      _ = (u' * s') * (s * v) := by rw [e']
      _ = (u' * v) * (s * s') := by ac_rfl
  have e2 : (c * s') * (v * v') = (u * v') * (s * s') := by
    calc (c * s') * (v * v') = (c * v) * (s' * v') := by ac_rfl
      _ = (u * s) * (s' * v') := by rw [e]
      _ = (u * v') * (s * s') := by ac_rfl
  rw [e1, e2] at p
  exact Int.le_of_mul_le_mul_right p (Int.mul_pos (by omega) (by omega))
theorem ws_su {m : Mk} (h : m.k = .su) : m.ws = m.x ∧ m.wc = m.y := by unfold Mk.ws Mk.wc; rw [h]; exact ⟨rfl, rfl⟩
theorem ws_pd {m : Mk} (h : m.k ≠ .su) : m.ws = m.s + m.px ∧ m.wc = m.c + m.py := by
  unfold Mk.ws Mk.wc
  split
  · rename_i z; exact absurd z h
  · exact ⟨rfl, rfl⟩
theorem Asks.goes {m : Mk} {i n : Int} (a : Asks m i n) : if i = 0 then (m.deal i n).wc * m.ws ≤ m.wc * (m.deal i n).ws else m.wc * (m.deal i n).ws ≤ (m.deal i n).wc * m.ws := by
  have n1 := a.n1
  have c := a.comes
  have w := a.ok.w1
  have w' := a.ok'.w1
  by_cases hk : m.k = .su
  · have e := ws_su hk
    have e' := ws_su (m := m.deal i n) (by rw [deal_k, hk])
    have s := @Same.deal m i n
    rw [e.1, e.2, e'.1, e'.2, s.x, s.y]
    split <;> exact Int.le_refl _
  · have e := ws_pd hk
    have e' := ws_pd (m := m.deal i n) (by rw [deal_k]; exact hk)
    have s := @Same.deal m i n
    rw [e.1, e.2] at w ⊢
    rw [e'.1, e'.2] at w' ⊢
    rcases a.sd with rfl | rfl
    · rw [if_pos rfl]
      have f1 : (m.deal 0 n).s = m.s + n := rfl
      have f2 : (m.deal 0 n).c = m.c - m.comes 0 n := rfl
      rw [s.px, s.py, f1, f2] at w' ⊢
      have p1 : (m.c - m.comes 0 n + m.py) * (m.s + m.px) ≤ (m.c + m.py) * (m.s + m.px) := Int.mul_le_mul_of_nonneg_right (by omega) (by omega)
      have p2 : (m.c + m.py) * (m.s + m.px) ≤ (m.c + m.py) * (m.s + n + m.px) := Int.mul_le_mul_of_nonneg_left (by omega) (by omega)
      omega
    · rw [if_neg (by decide)]
      have f1 : (m.deal 1 n).s = m.s - m.comes 1 n := rfl
      have f2 : (m.deal 1 n).c = m.c + n := rfl
      rw [s.px, s.py, f1, f2] at w' ⊢
      have p1 : (m.c + m.py) * (m.s - m.comes 1 n + m.px) ≤ (m.c + m.py) * (m.s + m.px) := Int.mul_le_mul_of_nonneg_left (by omega) (by omega)
      have p2 : (m.c + m.py) * (m.s + m.px) ≤ (m.c + n + m.py) * (m.s + m.px) := Int.mul_le_mul_of_nonneg_right (by omega) (by omega)
      omega
/-! ### a twin -/
/-! ### a deal that may be refused -/
theorem ct : catchOf CL "TooMuch" "MartError" = some true := by decide
/-! ### the least count -/
theorem ceil_le {t b n : Int} (h : 0 < b) : (t + b - 1) / b ≤ n ↔ t ≤ n * b := by
  have q : (t + b - 1) / b < n + 1 ↔ t + b - 1 < (n + 1) * b := Int.ediv_lt_iff_lt_mul h
  have e : (n + 1) * b = n * b + b := by rw [Int.add_mul, Int.one_mul]
  rw [e] at q
  omega
def cl (t b : Int) : Int := (t + b - 1) / b
def Mk.want (m : Mk) (i w : Int) : Option Int := match m.k with
  | .su => some (cl (w * m.b * m.rt i) ((m.b - m.t) * m.rt (1 - i)))
  | _ => if m.gr (1 - i) ≤ w then none else some (mx 1 (cl (w * m.gr i * m.b) ((m.b - m.t) * (m.gr (1 - i) - w))))
def Mk.least (m : Mk) (i w : Int) : Option Int := if m.stk (1 - i) < w then none else match m.want i w with
  | none => none
  | some f => if m.stk i + f ≤ 1000000000000 then some f else none
def optD : Option Int → D
  | none => .non
  | some f => .int f
theorem want_pd {w g0 g1 b r n : Int} (hw : 1 ≤ w) (h0 : 1 ≤ g0) (hb : 1 ≤ b) (hr : 1 ≤ r) (hn : 1 ≤ n) : w ≤ g1 * (n * r) / (g0 * b + n * r) ↔ ¬ g1 ≤ w ∧ mx 1 (cl (w * g0 * b) (r * (g1 - w))) ≤ n := by
  have p1 : 1 * 1 ≤ n * r := Int.mul_le_mul hn hr (by decide) (by omega)
  have p2 : 1 * 1 ≤ g0 * b := Int.mul_le_mul h0 hb (by decide) (by omega)
  have p3 : 1 * 1 ≤ w * (g0 * b) := Int.mul_le_mul hw (by omega) (by decide) (by omega)
  rw [Int.le_ediv_iff_mul_le (by omega), Int.mul_add]
  by_cases h : g1 ≤ w
  · have : g1 * (n * r) ≤ w * (n * r) := Int.mul_le_mul_of_nonneg_right h (by omega)
    constructor
    · intro z; omega
    · intro z; exact absurd h z.1
  · have q : 0 < r * (g1 - w) := Int.mul_pos (by omega) (by omega)
    have c := ceil_le (t := w * g0 * b) (n := n) q
    have e1 : w * g0 * b = w * (g0 * b) := Int.mul_assoc _ _ _
    have e2 : n * (r * (g1 - w)) = g1 * (n * r) - w * (n * r) := by rw [← Int.mul_assoc, Int.mul_comm, Int.sub_mul]
    have e3 : mx 1 (cl (w * g0 * b) (r * (g1 - w))) ≤ n ↔ cl (w * g0 * b) (r * (g1 - w)) ≤ n := by unfold mx; split <;> omega
    rw [e3]
    unfold cl
    rw [c, e1, e2]
    constructor
    · intro z; exact ⟨h, by omega⟩
    · intro z; omega
theorem want_iff {m : Mk} {i n w : Int} (a : Ask0 m i n) (hw : 1 ≤ w) : w ≤ m.got i n ↔ ∃ f, m.want i w = some f ∧ f ≤ n := by
  obtain ⟨t0, b1, b2, tb⟩ := a.ok.due
  have n1 := a.n1
  have pd : m.k ≠ .su → (w ≤ m.gr (1 - i) * (n * (m.b - m.t)) / (m.gr i * m.b + n * (m.b - m.t)) ↔ ∃ f, (if m.gr (1 - i) ≤ w then none else some (mx 1 (cl (w * m.gr i * m.b) ((m.b - m.t) * (m.gr (1 - i) - w))))) = some f ∧ f ≤ n) := by
    intro hk
    rw [want_pd hw (a.ok.g1 hk i) b1 (by omega) n1]
    by_cases h : m.gr (1 - i) ≤ w
    · rw [if_pos h]
      exact ⟨fun z => absurd h z.1, fun ⟨f, e, _⟩ => by cases e⟩
    · rw [if_neg h]
      exact ⟨fun z => ⟨_, rfl, z.2⟩, fun ⟨f, e, z⟩ => ⟨h, by cases e; exact z⟩⟩
  cases hk : m.k with
  | pr =>
    unfold Mk.got Mk.want
    rw [hk]
    exact pd (by rw [hk]; intro z; cases z)
  | st =>
    unfold Mk.got Mk.want
    rw [hk]
    exact pd (by rw [hk]; intro z; cases z)
  | su =>
    unfold Mk.got Mk.want
    rw [hk]
    dsimp only
    obtain ⟨x0, x1, y0, y1⟩ := a.ok.su hk
    have r : ∀ i, 1 ≤ m.rt i := by intro i; unfold Mk.rt; split <;> omega
    have p1 : 0 < m.b * m.rt i := Int.mul_pos (by omega) (by have := r i; omega)
    have p2 : 0 < (m.b - m.t) * m.rt (1 - i) := Int.mul_pos (by omega) (by have := r (1 - i); omega)
    have c := ceil_le (t := w * m.b * m.rt i) (n := n) p2
    rw [Int.le_ediv_iff_mul_le p1]
    have e1 : w * (m.b * m.rt i) = w * m.b * m.rt i := (Int.mul_assoc _ _ _).symm
    have e2 : n * (m.b - m.t) * m.rt (1 - i) = n * ((m.b - m.t) * m.rt (1 - i)) := Int.mul_assoc _ _ _
    rw [e1, e2]
    constructor
    · intro z; exact ⟨_, rfl, by unfold cl; exact c.mpr z⟩
    · rintro ⟨f, e, z⟩
      cases e
      exact c.mp z
theorem want_pos {m : Mk} {i w f : Int} (o : m.Ok) (hw : 1 ≤ w) (e : m.want i w = some f) : 1 ≤ f := by
  unfold Mk.want at e
  have key : ∀ c, 1 ≤ mx 1 c := by intro c; unfold mx; split <;> omega
  split at e
  · rename_i hk
    cases e
    obtain ⟨t0, b1, b2, tb⟩ := o.due
    obtain ⟨x0, x1, y0, y1⟩ := o.su hk
    have r : ∀ i, 1 ≤ m.rt i := by intro i; unfold Mk.rt; split <;> omega
    have p2 : 0 < (m.b - m.t) * m.rt (1 - i) := Int.mul_pos (by omega) (by have := r (1 - i); omega)
    have p3 : 0 < w * m.b * m.rt i := Int.mul_pos (Int.mul_pos (by omega) (by omega)) (by have := r i; omega)
    have c := ceil_le (t := w * m.b * m.rt i) (n := 0) p2
    rw [Int.zero_mul] at c
    unfold cl
    omega
  · split at e
    · cases e
    · cases e; exact key _
theorem comes_iff {m : Mk} {i n w : Int} (a : Ask0 m i n) (hw : 1 ≤ w) : w ≤ m.comes i n ↔ w ≤ m.stk (1 - i) ∧ ∃ f, m.want i w = some f ∧ f ≤ n := by
  rw [← want_iff a hw]
  unfold Mk.comes mn
  split <;> omega
theorem least_some {m : Mk} {i w f : Int} (o : m.Ok) (sd : Sd i) (hw : 1 ≤ w) (e : m.least i w = some f) : 1 ≤ f ∧ m.stk i + f ≤ 1000000000000 ∧ w ≤ m.comes i f ∧ (f ≠ 1 → m.comes i (f - 1) < w) := by
  unfold Mk.least at e
  have sb := o.sb i
  split at e
  · cases e
  · rename_i h1
    split at e
    · cases e
    · rename_i g eg
      split at e
      · rename_i h2
        cases e
        have f1 := want_pos o hw eg
        refine ⟨f1, h2, (comes_iff ⟨o, sd, f1, by omega⟩ hw).mpr ⟨by omega, _, eg, Int.le_refl _⟩, fun z => ?_⟩
        have := (comes_iff (m := m) (i := i) (n := f - 1) (w := w) ⟨o, sd, by omega, by omega⟩ hw).mp
        refine Int.not_le.mp fun y => ?_
        obtain ⟨_, f', e', l⟩ := this y
        rw [eg] at e'; cases e'; omega
      · cases e
theorem least_none {m : Mk} {i w n : Int} (o : m.Ok) (sd : Sd i) (hw : 1 ≤ w) (e : m.least i w = none) (hn : 1 ≤ n) (ht : m.stk i + n ≤ 1000000000000) : m.comes i n < w := by
  have sb := o.sb i
  refine Int.not_le.mp fun y => ?_
  obtain ⟨h1, f, h2, h3⟩ := (comes_iff ⟨o, sd, hn, by omega⟩ hw).mp y
  unfold Mk.least at e
  rw [if_neg (by omega), h2] at e
  dsimp only at e
  rw [if_pos (by omega)] at e
  cases e
theorem rounded_ok {t b : Int} {S : Sto} {Q : NQ} {E} {T : TgQ Q E} (h0 : 0 < b) (h1 : b < 2 ^ 64) : runF sp_rounded_up [.int t, .int b] S Q E T = Q (.int (cl t b)) S := by
  simp_arith! [sp_rounded_up, m_rounded_up]
  have d : DivOk (t + b - 1) b := div_ok h0 h1
  simp_arith [d]
  rfl
theorem prod_wanted_ok {p q : Addr} {m : Mk} {i w : Int} {S : Sto} {Q : NQ} {E} {T : TgQ Q E} (h : MkAt p q m S) (o : m.Ok) (sd : Sd i) (hw : 1 ≤ w) : runF sp_product_wanted [.ref p, .tup [.int (m.s + m.px), .int (m.c + m.py)], .int i, .int w] S Q E T = Q (optD (if m.gr (1 - i) ≤ w then none else some (mx 1 (cl (w * m.gr i * m.b) ((m.b - m.t) * (m.gr (1 - i) - w)))))) S := by
  simp_arith! [sp_product_wanted, m_product_wanted]
  obtain ⟨t0, b1, b2, tb⟩ := o.due
  have g := o.gr
  have f1 : atI [D.int (m.s + m.px), D.int (m.c + m.py)] i = some (.int (m.gr i)) := by rw [at_sd sd, int_if]; rfl
  have f2 : atI [D.int (m.s + m.px), D.int (m.c + m.py)] (1 - i) = some (.int (m.gr (1 - i))) := by rw [at_sd' sd, int_if]; rfl
  have e1 : N.MulOk w (m.gr i) := mul_ok_r (g i).1 (by have := (g i).2; omega)
  have e2 : N.MulOk (w * m.gr i) m.b := mul_ok_r (by omega) (by omega)
  have e3 : N.MulOk (m.b - m.t) (m.gr (1 - i) - w) := mul_ok_l (by omega) (by omega)
  by_cases hg : m.gr (1 - i) ≤ w
  · simp_arith [f2, hg, decide_true, if_true, optD]
  · have r1 : 0 < (m.b - m.t) * (m.gr (1 - i) - w) := Int.mul_pos (by omega) (by omega)
    have r2 : (m.b - m.t) * (m.gr (1 - i) - w) ≤ 10000 * 2000000000000 := Int.mul_le_mul (by omega) (by have := (g (1 - i)).2; omega) (by omega) (by decide)
    simp_arith [f2, hg, decide_false, if_false, f1, e1, e2, e3, h.ins, mFs_rest, mFs_parts, rounded_ok r1 (by omega), optD]
    rfl
def Mk.fwt (m : Mk) : NSp := match m.k with | .pr => sp_Product_wanted | .st => sp_Stretch_wanted | .su => sp_Sum_wanted
theorem mt_wanted {m : Mk} : mt_Maker_wanted m.cn = some (3, m.fwt) := by
  obtain ⟨k, s, c, t, b, x, y⟩ := m
  cases k <;> simp [Mk.cn, Mk.fwt, mt_Maker_wanted, ofString_inj]
theorem wanted_ok {p q : Addr} {m : Mk} {i w : Int} {S : Sto} {Q : NQ} {E} {T : TgQ Q E} (h : MkAt p q m S) (o : m.Ok) (sd : Sd i) (hw : 1 ≤ w) : runF m.fwt [.ref p, .int i, .int w] S Q E T = Q (optD (m.want i w)) S := by
  have key : ∀ k, m.k = k → runF m.fwt [.ref p, .int i, .int w] S Q E T = Q (optD (m.want i w)) S := by
    intro k hk
    cases k with
    | pr =>
      have e1 : m.px = 0 := by unfold Mk.px; rw [hk]
      have e2 : m.py = 0 := by unfold Mk.py; rw [hk]
      have e3 := @prod_wanted_ok p q m i w S
      simp only [e1, e2, Int.add_zero] at e3
      have e4 : m.want i w = if m.gr (1 - i) ≤ w then none else some (mx 1 (cl (w * m.gr i * m.b) ((m.b - m.t) * (m.gr (1 - i) - w)))) := by unfold Mk.want; rw [hk]
      have e5 : m.fwt = sp_Product_wanted := by unfold Mk.fwt; rw [hk]
      rw [e4, e5]
      simp_arith! [sp_Product_wanted, m_Product_wanted]
      simp_arith [h.ins, mt_haves, haves_ok h, e3 h o sd hw, mFs_no (m := m) (q := q) (f := "haves") (by decide)]
    | st =>
      have e4 : m.want i w = if m.gr (1 - i) ≤ w then none else some (mx 1 (cl (w * m.gr i * m.b) ((m.b - m.t) * (m.gr (1 - i) - w)))) := by unfold Mk.want; rw [hk]
      have e5 : m.fwt = sp_Stretch_wanted := by unfold Mk.fwt; rw [hk]
      rw [e4, e5]
      simp_arith! [sp_Stretch_wanted, m_Stretch_wanted]
      simp_arith [h.ins, cn_st hk, mt_propped, propped_ok h hk, prod_wanted_ok h o sd hw, mFs_no (m := m) (q := q) (f := "propped") (by decide)]
    | su =>
      have e4 : m.want i w = some (cl (w * m.b * m.rt i) ((m.b - m.t) * m.rt (1 - i))) := by unfold Mk.want; rw [hk]
      have e5 : m.fwt = sp_Sum_wanted := by unfold Mk.fwt; rw [hk]
      rw [e4, e5]
      have e6 : m.more = [.tup [.int m.x, .int m.y]] := by unfold Mk.more; rw [hk]
      have f1 : atI [D.int m.x, D.int m.y] i = some (.int (m.rt i)) := by rw [at_sd sd, int_if]; rfl
      have f2 : atI [D.int m.x, D.int m.y] (1 - i) = some (.int (m.rt (1 - i))) := by rw [at_sd' sd, int_if]; rfl
      obtain ⟨t0, b1, b2, tb⟩ := o.due
      obtain ⟨x0, x1, y0, y1⟩ := o.su hk
      have r : ∀ i, 1 ≤ m.rt i ∧ m.rt i ≤ 1000000 := by intro i; unfold Mk.rt; split <;> omega
      have d1 : 0 < (m.b - m.t) * m.rt (1 - i) := Int.mul_pos (by omega) (by have := (r (1 - i)).1; omega)
      have d2 : (m.b - m.t) * m.rt (1 - i) ≤ 10000 * 1000000 := Int.mul_le_mul (by omega) (r (1 - i)).2 (by have := (r (1 - i)).1; omega) (by decide)
      have g1 : N.MulOk w m.b := mul_ok_r (by omega) (by omega)
      have g2 : N.MulOk (w * m.b) (m.rt i) := mul_ok_r (by have := (r i).1; omega) (by have := (r i).2; omega)
      have g3 : N.MulOk (m.b - m.t) (m.rt (1 - i)) := mul_ok_l (by omega) (by omega)
      simp_arith! [sp_Sum_wanted, m_Sum_wanted]
      simp_arith [h.ins, mFs_more, mFs_rest, mFs_parts, e6, atI_0, f1, f2, g1, g2, g3, rounded_ok d1 (by omega), optD]
  exact key _ rfl
theorem mt_least_for {m : Mk} : mt_Maker_least_for m.cn = some (3, sp_Maker_least_for) := by
  obtain ⟨k, s, c, t, b, x, y⟩ := m
  cases k <;> simp [Mk.cn, mt_Maker_least_for, ofString_inj]
theorem least_for_ok {p q : Addr} {m : Mk} {i w : Int} {S : Sto} {Q : NQ} {E} {T : TgQ Q E} (h : MkAt p q m S) (o : m.Ok) (sd : Sd i) (hw : 1 ≤ w) : runF sp_Maker_least_for [.ref p, .str (wr i), .int w] S Q E T = Q (optD (m.least i w)) S := by
  simp_arith! [sp_Maker_least_for, m_Maker_least_for]
  have f2 : atI [D.int m.s, D.int m.c] (1 - i) = some (.int (m.stk (1 - i))) := by rw [at_sd' sd, int_if]; rfl
  have no1 := mFs_no (m := m) (q := q) (f := "wanted") (by decide)
  have no2 := mFs_no (m := m) (q := q) (f := "is_dealt") (by decide)
  unfold Mk.least
  by_cases h1 : m.stk (1 - i) < w
  · simp_arith [need_ware_ok sd, need_count_ok hw, h.ins, h.lst, mFs_stock, f2, h1, decide_true, if_true, optD]
  · cases hf : m.want i w with
    | none => simp_arith [need_ware_ok sd, need_count_ok hw, h.ins, h.lst, mFs_stock, f2, h1, decide_false, if_false, optD, mt_wanted, wanted_ok h o sd hw, hf, no1]
    | some f =>
      by_cases h2 : m.stk i + f ≤ 1000000000000
      · simp_arith [need_ware_ok sd, need_count_ok hw, h.ins, h.lst, mFs_stock, f2, h1, decide_false, if_false, optD, mt_wanted, wanted_ok h o sd hw, hf, no1, no2, mt_is_dealt, is_dealt_ok h sd, h2, decide_true, if_true, Bool.not_true]
      · simp_arith [need_ware_ok sd, need_count_ok hw, h.ins, h.lst, mFs_stock, f2, h1, decide_false, if_false, optD, mt_wanted, wanted_ok h o sd hw, hf, no1, no2, mt_is_dealt, is_dealt_ok h sd, h2, Bool.not_false]
/-! ### parted deals -/
def Mk.pp (m : Mk) (i : Int) : Int := if i = 0 then m.px else m.py
theorem gr_stk {m : Mk} {i : Int} : m.gr i = m.stk i + m.pp i := by unfold Mk.gr Mk.stk Mk.pp; split <;> rfl
theorem Same.pp {m m' : Mk} (h : Same m m') (i : Int) : m'.pp i = m.pp i := by unfold Mk.pp; rw [h.px, h.py]
theorem Same.rt {m m' : Mk} (h : Same m m') (i : Int) : m'.rt i = m.rt i := by unfold Mk.rt; rw [h.x, h.y]
structure Pd (m mt : Mk) (i t : Int) : Prop where
  o : mt.Ok
  s : Same m mt
  st : mt.stk i = m.stk i + t
  le : mt.stk (1 - i) ≤ m.stk (1 - i)
  su : m.k = .su → (m.stk (1 - i) - mt.stk (1 - i)) * (m.b * m.rt i) ≤ t * (m.b - m.t) * m.rt (1 - i)
  pd : m.k ≠ .su → m.gr (1 - i) * (m.gr i * m.b) ≤ mt.gr (1 - i) * (m.gr i * m.b + t * (m.b - m.t))
theorem Pd.refl {m : Mk} {i : Int} (o : m.Ok) : Pd m m i 0 := by
  refine ⟨o, .refl _, by omega, Int.le_refl _, fun _ => ?_, fun _ => ?_⟩
  · rw [Int.sub_self, Int.zero_mul, Int.zero_mul, Int.zero_mul]; exact Int.le_refl _
  · rw [Int.zero_mul, Int.add_zero]; exact Int.le_refl _
theorem got_su {m : Mk} {i n : Int} (hk : m.k = .su) : m.got i n = n * (m.b - m.t) * m.rt (1 - i) / (m.b * m.rt i) := by unfold Mk.got; rw [hk]
theorem got_pd {m : Mk} {i n : Int} (hk : m.k ≠ .su) : m.got i n = m.gr (1 - i) * (n * (m.b - m.t)) / (m.gr i * m.b + n * (m.b - m.t)) := by unfold Mk.got; split <;> first | rfl | (rename_i z; exact absurd z hk)
theorem Mk.Ok.rt1 {m : Mk} (o : m.Ok) (hk : m.k = .su) (i : Int) : 1 ≤ m.rt i ∧ m.rt i ≤ 1000000 := by
  obtain ⟨x0, x1, y0, y1⟩ := o.su hk
  unfold Mk.rt; split <;> omega
theorem Pd.step {m mt : Mk} {i t x : Int} (o : m.Ok) (h : Pd m mt i t) (ht : 0 ≤ t) (a : Asks mt i x) : Pd m (mt.deal i x) i (t + x) := by
  obtain ⟨e1, e2⟩ := stk_set (m := mt) (n := x) a.sd
  have c := a.comes
  have l := @comes_le mt i x
  obtain ⟨t0, b1, b2, tb⟩ := o.due
  refine ⟨a.ok', h.s.trans .deal, by rw [e1, h.st]; omega, by rw [e2]; have := h.le; omega, fun hk => ?_, fun hk => ?_⟩
  · have r := o.rt1 hk
    have hk' : mt.k = .su := h.s.k.trans hk
    rw [got_su hk', h.s.b, h.s.t, h.s.rt, h.s.rt] at l
    have q := (Int.le_ediv_iff_mul_le (Int.mul_pos (by omega) (by have := (r i).1; omega))).mp l
    have p := h.su hk
    rw [e2]
    have f1 : m.stk (1 - i) - (mt.stk (1 - i) - mt.comes i x) = (m.stk (1 - i) - mt.stk (1 - i)) + mt.comes i x := by omega
    rw [f1, Int.add_mul, Int.add_mul, Int.add_mul]
    omega
  · have hk' : mt.k ≠ .su := by rw [h.s.k]; exact hk
    have d := a.den
    rw [got_pd hk'] at l
    have q := (Int.le_ediv_iff_mul_le d.1).mp l
    rw [h.s.b, h.s.t] at q
    have p := h.pd hk
    have g1 : (mt.deal i x).gr (1 - i) = mt.gr (1 - i) - mt.comes i x := by rw [gr_stk, gr_stk, e2, (Same.deal).pp]; omega
    have g2 : mt.gr i = m.gr i + t := by rw [gr_stk, gr_stk, h.st, h.s.pp]; omega
    rw [g2] at q
    rw [g1, Int.sub_mul]
    have k1 : (m.gr i + t) * m.b = m.gr i * m.b + t * m.b := Int.add_mul _ _ _
    have k2 : t * (m.b - m.t) ≤ t * m.b := Int.mul_le_mul_of_nonneg_left (by omega) ht
    have k3 : (t + x) * (m.b - m.t) = t * (m.b - m.t) + x * (m.b - m.t) := Int.add_mul _ _ _
    have k4 : mt.comes i x * (m.gr i * m.b + (t + x) * (m.b - m.t)) ≤ mt.comes i x * ((m.gr i + t) * m.b + x * (m.b - m.t)) := Int.mul_le_mul_of_nonneg_left (by omega) c.1
    have k5 : mt.gr (1 - i) * (m.gr i * m.b + (t + x) * (m.b - m.t)) = mt.gr (1 - i) * (m.gr i * m.b + t * (m.b - m.t)) + mt.gr (1 - i) * (x * (m.b - m.t)) := by rw [k3, ← Int.mul_add]; congr 1; omega
    omega
theorem Pd.whole {m mt : Mk} {i n : Int} (h : Pd m mt i n) (a : Asks m i n) : m.stk (1 - i) - mt.stk (1 - i) ≤ m.comes i n := by
  obtain ⟨t0, b1, b2, tb⟩ := a.ok.due
  have sb := h.o.sb (1 - i)
  have key : m.stk (1 - i) - mt.stk (1 - i) ≤ m.got i n := by
    by_cases hk : m.k = .su
    · have r := a.ok.rt1 hk
      rw [got_su hk]
      exact (Int.le_ediv_iff_mul_le (Int.mul_pos (by omega) (by have := (r i).1; omega))).mpr (h.su hk)
    · rw [got_pd hk]
      refine (Int.le_ediv_iff_mul_le a.den.1).mpr ?_
      have p := h.pd hk
      have f : m.stk (1 - i) - mt.stk (1 - i) = m.gr (1 - i) - mt.gr (1 - i) := by rw [gr_stk, gr_stk, h.s.pp]; omega
      rw [f, Int.sub_mul, Int.mul_add]
      omega
  unfold Mk.comes mn
  split <;> omega
theorem kp_mono {m m' : Mk} (h : Same m m') (o : m.Ok) (o' : m'.Ok) (hs : m.s ≤ m'.s) (hc : m.c ≤ m'.c) : m.kp ≤ m'.kp := by
  by_cases hk : m.k = .su
  · have hk' : m'.k = .su := h.k.trans hk
    rw [kp_su hk, kp_su hk', h.x, h.y]
    obtain ⟨x0, x1, y0, y1⟩ := o.su hk
    have p1 : m.x * m.c ≤ m.x * m'.c := Int.mul_le_mul_of_nonneg_left hc (by omega)
    have p2 : m.y * m.s ≤ m.y * m'.s := Int.mul_le_mul_of_nonneg_left hs (by omega)
    omega
  · have hk' : m'.k ≠ .su := by rw [h.k]; exact hk
    rw [kp_pd hk, kp_pd hk', h.px, h.py]
    have px := o.px; have s0 := o.s0; have c0 := o.c0
    exact Int.mul_le_mul (by omega) (by omega) (by omega) (by omega)
theorem Pd.keeps {m mt : Mk} {i n : Int} (h : Pd m mt i n) (a : Asks m i n) : (m.deal i n).kp ≤ mt.kp := by
  obtain ⟨e1, e2⟩ := stk_set (m := m) (n := n) a.sd
  have w := h.whole a
  have st := h.st
  have s : Same (m.deal i n) mt := ⟨h.s.k.trans (Same.deal).k.symm, h.s.t.trans (Same.deal).t.symm, h.s.b.trans (Same.deal).b.symm, h.s.x.trans (Same.deal).x.symm, h.s.y.trans (Same.deal).y.symm⟩
  have q1 : (m.deal i n).stk i ≤ mt.stk i := by omega
  have q2 : (m.deal i n).stk (1 - i) ≤ mt.stk (1 - i) := by omega
  rcases a.sd with rfl | rfl
  · exact kp_mono s a.ok' h.o q1 q2
  · exact kp_mono s a.ok' h.o q2 q1
theorem Sd.fel {i : Int} (h : Sd i) : Sd (1 - i) := by unfold Sd at *; omega
theorem Asks.back {m : Mk} {i n : Int} (a : Asks m i n) (h1 : 1 ≤ m.comes i n) : Asks (m.deal i n) (1 - i) (m.comes i n) := by
  obtain ⟨e1, e2⟩ := stk_set (m := m) (n := n) a.sd
  have sb := a.ok.sb (1 - i)
  have c := a.comes
  exact ⟨⟨a.ok', a.sd.fel, h1, by omega⟩, by omega⟩
theorem Asks.back_le {m : Mk} {i n : Int} (a : Asks m i n) (h1 : 1 ≤ m.comes i n) : (m.deal i n).comes (1 - i) (m.comes i n) ≤ n := by
  have B := a.back h1
  obtain ⟨e1, e2⟩ := stk_set (m := m) (n := n) a.sd
  have j : 1 - (1 - i) = i := by omega
  by_cases hk : m.k = .su
  · have p := a.rule_su hk
    have q := B.rule_su ((Same.deal).k.trans hk)
    have r := a.ok.rt1 hk
    rw [j, (Same.deal).rt, (Same.deal).rt] at q
    exact Int.le_of_mul_le_mul_right (Int.le_trans q p) (by have := (r (1 - i)).1; omega)
  · have p := a.rule_pd hk
    have q := B.rule_pd (by rw [(Same.deal).k]; exact hk)
    have g := a.ok.g1 hk (1 - i)
    have g1 : (m.deal i n).gr (1 - i) + m.comes i n = m.gr (1 - i) := by rw [gr_stk, gr_stk, e2, (Same.deal).pp]; omega
    have g2 : (m.deal i n).gr i = m.gr i + n := by rw [gr_stk, gr_stk, e1, (Same.deal).pp]; omega
    rw [j, g1, g2, Int.mul_comm (m.gr i + n)] at q
    have e : (m.deal i n).comes (1 - i) (m.comes i n) * m.gr (1 - i) ≤ n * m.gr (1 - i) := by rw [Int.mul_comm n]; omega
    exact Int.le_of_mul_le_mul_right e (by omega)

/-! ### numbers drawn from a cell -/
theorem mixed2 {c k : Int} (c0 : 0 ≤ c) (c1 : c < 4294967296) (h0 : 0 ≤ k) (h1 : k < 4294967296) {S : Sto} {Q : NQ} {E} {T : TgQ Q E} (h : ∀ v, 0 ≤ v → v < 2147483647 → Q (.int v) S) : runF sp__law_mixed [.int c, .int k] S Q E T := by
  simp_arith! [sp__law_mixed, m__law_mixed]
  have e1 : N.MulOk 2 k := .inl (by decide)
  have e2 : N.MulOk (2 * k) k := .inr (.inl (by omega))
  have e5 : N.MulOk c (48271 + 2 * k * k) := .inl (by omega)
  have e6 : N.MulOk 69621 k := .inl (by decide)
  have e7 : ∀ z, N.MulOk z 69621 := fun z => .inr (.inl (by decide))
  have e8 : (0 : Int) < 2147483647 := by decide
  have e9 : (0 : Int) < 2147483629 := by decide
  simp_arith [e1, e2, e5, e6, e7, e8, e9, true_and]
  have := mod_lt (i := (c * (48271 + 2 * k * k) + 69621 * k + 11) % 2147483647 * 69621) e9
  exact h _ this.1 (by omega)
theorem mixed3 {c k : Int} (h0 : 0 ≤ k) (h1 : k < 1000) {S : Sto} {Q : NQ} {E} {T : TgQ Q E} (h : ∀ v, 0 ≤ v → v < 2147483647 → Q (.int v) S) : runF sp__law_mixed [.int c, .int k] S Q E T := by
  simp_arith! [sp__law_mixed, m__law_mixed]
  have e1 : N.MulOk 2 k := .inl (by decide)
  have e2 : N.MulOk (2 * k) k := .inl (by omega)
  have e3 : 0 ≤ k * k ∧ k * k < 1000000 := ⟨Int.mul_nonneg h0 h0, by have := Int.mul_le_mul (by omega : k ≤ 999) (by omega : k ≤ 999) h0 (by omega : (0 : Int) ≤ 999); omega⟩
  have e4 : 2 * k * k = 2 * (k * k) := Int.mul_assoc _ _ _
  have e5 : N.MulOk c (48271 + 2 * k * k) := .inr (.inl (by omega))
  have e6 : N.MulOk 69621 k := .inl (by decide)
  have e7 : ∀ z, N.MulOk z 69621 := fun z => .inr (.inl (by decide))
  have e8 : (0 : Int) < 2147483647 := by decide
  have e9 : (0 : Int) < 2147483629 := by decide
  simp_arith [e1, e2, e5, e6, e7, e8, e9, true_and]
  have := mod_lt (i := (c * (48271 + 2 * k * k) + 69621 * k + 11) % 2147483647 * 69621) e9
  exact h _ this.1 (by omega)
@[irreducible] def sD (f : Bool) (l s n : Int) : List (Key × D) := [(.inr "free", .bl f), (.inr "left", .int l), (.inr "seed", .int s), (.inr "at", .int n)]
theorem sD_free {f : Bool} {l s n : Int} : dget (sD f l s n) (.inr "free") = some (.bl f) := by unfold sD; rfl
theorem sD_left {f : Bool} {l s n : Int} : dget (sD f l s n) (.inr "left") = some (.int l) := by unfold sD; rfl
theorem sD_seed {f : Bool} {l s n : Int} : dget (sD f l s n) (.inr "seed") = some (.int s) := by unfold sD; rfl
theorem sD_at {f : Bool} {l s n : Int} : dget (sD f l s n) (.inr "at") = some (.int n) := by unfold sD; rfl
theorem sD_put_at {f : Bool} {l s n m : Int} : dput (sD f l s n) (.inr "at") (.int m) = sD f l s m := by unfold sD; rfl
theorem sD_put_left {f : Bool} {l s n m : Int} : dput (sD f l s n) (.inr "left") (.int m) = sD f m s n := by unfold sD; rfl
theorem sD_len {f : Bool} {l s n : Int} : ((sD f l s n).length < sizeLine) = True := by unfold sD; simp; decide
theorem sD_mk {f : Bool} {l s n : Int} : mergeD [] [(.inr "free", .bl f), (.inr "left", .int l), (.inr "seed", .int s), (.inr "at", .int n)] = sD f l s n := by unfold sD; rfl
/-- a state from which k numbers can still be drawn -/
structure St2 (a : Addr) (k : Nat) (S : Sto) : Prop where
  ex : ∃ f l s n, S a = some (.dic (sD f l s n)) ∧ 0 ≤ s ∧ s < 2147483647 ∧ 0 ≤ n ∧ n + k ≤ 1000000000
theorem St2.up {a : Addr} {k : Nat} {S S' : Sto} {A : List Addr} (h : St2 a k S) (u : Upd A S S') (na : a ∉ A) : St2 a k S' := by
  obtain ⟨f, l, s, n, h1, h2⟩ := h
  exact ⟨f, l, s, n, u a _ na h1, h2⟩
theorem St2.less {a : Addr} {k j : Nat} {S : Sto} (h : St2 a k S) (e : j ≤ k) : St2 a j S := by
  obtain ⟨f, l, s, n, h1, h2, h3, h4, h5⟩ := h
  exact ⟨f, l, s, n, h1, h2, h3, h4, by omega⟩
theorem St2.fresh {a p : Addr} {k : Nat} {S : Sto} (h : St2 a k S) (hp : S p = none) : p ≠ a := by
  obtain ⟨f, l, s, n, h1, _⟩ := h
  exact fun z => by rw [z, h1] at hp; cases hp
theorem draw_ok {a : Addr} {k : Nat} {m : Int} {S : Sto} {Q : NQ} {E} {T : TgQ Q E} (h : St2 a (k + 1) S) (m1 : 1 ≤ m) (m2 : m < 2 ^ 64) (kk : ∀ v S', 0 ≤ v → v < m → St2 a k S' → Upd [a] S S' → Q (.int v) S') : runF sp__law_draw [.ref a, .int m] S Q E T := by
  obtain ⟨f, l, s, n, h1, s0, s1, n0, n1⟩ := h
  simp_arith! [sp__law_draw, m__law_draw]
  have m0 : 0 < m := by omega
  have dm : DivOk l m := div_ok m0 m2
  have u1 : Upd [a] S (put S a (.dic (sD f l s (n + 1)))) := Upd.at (by simp)
  have i4 : ∀ i, N.MulOk i 2147483647 := fun i => mul_ok_r (by decide) (by decide)
  have i5 : ∀ i, DivOk i 64 := fun i => div_ok (by decide) (by decide)
  simp_arith [h1, sD_at, sD_put_at, sD_len, put_same, sD_free, sD_left, sD_seed]
  cases f with
  | false =>
    simp_arith [sD_seed, sD_at, put_same]
    refine mixed2 s0 (by omega) (by omega) (by omega) fun v v0 v1 => ?_
    simp_arith [sD_seed, sD_at, put_same]
    refine mixed2 v0 (by omega) (by omega) (by omega) fun x x0 x1 => ?_
    simp_arith [sD_seed, sD_at, put_same, i4]
    refine mixed2 x0 (by omega) (by omega) (by omega) fun y y0 y1 => ?_
    simp_arith [i5, m0]
    have := mod_lt (i := (x * 2147483647 + y) / 64) m0
    exact kk _ _ this.1 this.2 ⟨false, l, s, n + 1, put_same, s0, s1, by omega, by omega⟩ u1
  | true =>
    by_cases hl : 0 < l
    · simp_arith [hl, decide_true, sD_left, put_same, m0, dm, sD_put_left, sD_len]
      have := mod_lt (i := l) m0
      exact kk _ _ this.1 this.2 ⟨true, l / m, s, n + 1, put_same, s0, s1, by omega, by omega⟩ (u1.trans (Upd.at (by simp)))
    · simp_arith [hl, decide_false, sD_seed, sD_at, put_same]
      refine mixed2 s0 (by omega) (by omega) (by omega) fun v v0 v1 => ?_
      simp_arith [sD_seed, sD_at, put_same]
      refine mixed2 v0 (by omega) (by omega) (by omega) fun x x0 x1 => ?_
      simp_arith [sD_seed, sD_at, put_same, i4]
      refine mixed2 x0 (by omega) (by omega) (by omega) fun y y0 y1 => ?_
      simp_arith [i5, m0]
      have := mod_lt (i := (x * 2147483647 + y) / 64) m0
      exact kk _ _ this.1 this.2 ⟨true, l, s, n + 1, put_same, s0, s1, by omega, by omega⟩ u1
theorem state_ok {ns : List Int} {j : Int} {S : Sto} {Q : NQ} {E} {T : TgQ Q E} (h0 : 0 ≤ j) (h1 : j < 1000) (hl : ns.length ≤ 63) (k : ∀ a S', S a = none → St2 a 1000000 S' → Keeps S S' → Q (.ref a) S') : runF sp__law_state [.rol (ns.map D.int), .int j] S Q E T := by
  simp_arith! [sp__law_state, m__law_state]
  have e0 : PowOk 10 18 := ⟨by decide, by decide, by decide⟩
  have cell : ∀ (Q : NQ) (E : Str → Option Addr → Sto → Prop) (T : TgQ Q E), (∀ c, Q (.int c) S) → runF sp__law_cell_at [.rol (ns.map D.int), .int j] S Q E T := by
    intro Q E T hq
    simp_arith! [sp__law_cell_at, m__law_cell_at]
    simp_arith [List.length_map]
    by_cases hj : j < ns.length
    · obtain ⟨v, f1, -⟩ := idx_some h0 hj
      simp_arith [hj, decide_true, f1]
      exact hq v
    · simp_arith [hj, decide_false]
      exact hq 0
  try simp_arith []
  refine cell _ _ _ fun c => ?_
  simp_arith [e0]
  intro a ha
  try simp_arith []
  refine mixed3 h0 h1 fun v v0 v1 => ?_
  simp_arith [put_same, Nat.reduceLeDiff, sD_mk]
  have e : put (put S a (.dic [])) a (.dic (sD (decide (10 ^ Int.toNat 18 ≤ c)) (if c < 0 then -c else c) v 0)) a = some (.dic (sD (decide (10 ^ Int.toNat 18 ≤ c)) (if c < 0 then -c else c) v 0)) := put_same
  exact k a _ ha ⟨_, _, _, _, e, v0, v1, by decide, by decide⟩ (by rw [put_put]; exact Upd.new ha)

/-! ### makers drawn -/
/-- a list of few numbers by a drawn place -/
theorem at_pick {xs : List Int} {i : Int} {P : Int → Prop} (h0 : 0 ≤ i) (h1 : i < xs.length) (h : ∀ x ∈ xs, P x) : ∃ x, atI (xs.map D.int) i = some (.int x) ∧ P x := by
  refine ⟨xs[i.toNat]'(by omega), ?_, h _ (List.getElem_mem _)⟩
  rw [atI_nat' h0, List.getElem?_map, List.getElem?_eq_getElem (by omega)]
  rfl
theorem due2_ok {a : Addr} {k : Nat} {S : Sto} {Q : NQ} {E} {T : TgQ Q E} (h : St2 a (k + 3) S) (kk : ∀ t b S', Due t b → St2 a k S' → Upd [a] S S' → Q (.tup [.int t, .int b]) S') : runF sp__law_due [.ref a] S Q E T := by
  simp_arith! [sp__law_due, m__law_due]
  try simp_arith []
  refine draw_ok h (by decide) (by decide) fun v S1 v0 v1 h1 u1 => ?_
  by_cases hv : v < 4
  · simp_arith [hv, decide_true]
    intro p hp
    have hpa := h1.fresh hp
    simp_arith [put_same]
    have h2 := (h1.up (A := []) (Upd.new (o := .lst [.tup [.int 0, .int 1], .tup [.int 1, .int 10], .tup [.int 3, .int 1000], .tup [.int 0, .int 10000]]) hp) (by simp)).less (j := k) (by omega)
    have u2 := u1.trans (Upd.new (A := [a]) (o := .lst [.tup [.int 0, .int 1], .tup [.int 1, .int 10], .tup [.int 3, .int 1000], .tup [.int 0, .int 10000]]) hp)
    have c : v = 0 ∨ v = 1 ∨ v = 2 ∨ v = 3 := by omega
    rcases c with rfl | rfl | rfl | rfl
    · exact kk _ _ _ ⟨by decide, by decide, by decide, by decide⟩ h2 u2
    · exact kk _ _ _ ⟨by decide, by decide, by decide, by decide⟩ h2 u2
    · exact kk _ _ _ ⟨by decide, by decide, by decide, by decide⟩ h2 u2
    · exact kk _ _ _ ⟨by decide, by decide, by decide, by decide⟩ h2 u2
  · have d10 : ∀ i, DivOk i 10 := fun i => div_ok (by decide) (by decide)
    simp_arith [hv, decide_false]
    by_cases h4 : v = 4
    · simp_arith [h4, decide_true, d10]
      refine draw_ok (k := k + 1) (m := 10000 / 10 + 1) (h1.less (by omega)) (by decide) (by decide) fun t S2 t0 t1 h2 u2 => ?_
      try simp_arith []
      exact kk _ _ _ ⟨t0, by decide, by decide, by omega⟩ (h2.less (by omega)) (u1.trans u2)
    · simp_arith [h4, decide_false]
      refine draw_ok (k := k + 1) h1 (by decide) (by decide) fun b S2 b0 b1 h2 u2 => ?_
      simp_arith [d10]
      refine draw_ok h2 (by omega) (by omega) fun t S3 t0 t1 h3 u3 => ?_
      try simp_arith []
      exact kk _ _ _ ⟨t0, by omega, by omega, by omega⟩ h3 ((u1.trans u2).trans u3)
theorem ok2_pr {s c t b : Int} (s0 : 0 ≤ s) (s1 : s ≤ 1000000000000) (c0 : 0 ≤ c) (c1 : c ≤ 1000000000000) (du : Due t b) : (Mk.mk .pr (if s > 1 then s else 1) (if c > 1 then c else 1) t b 0 0).Ok := ok_pr s0 s1 c0 c1 du
theorem ok2_st {s c t b x y : Int} (s0 : 0 ≤ s) (s1 : s ≤ 1000000000000) (c0 : 0 ≤ c) (c1 : c ≤ 1000000000000) (x0 : 0 ≤ x) (x1 : x ≤ 1000000000000) (y0 : 0 ≤ y) (y1 : y ≤ 1000000000000) (du : Due t b) : (Mk.mk .st s c t b (if (if decide (s = 0) = true then 1 else 0) > x then (if decide (s = 0) = true then 1 else 0) else x) (if (if decide (c = 0) = true then 1 else 0) > y then (if decide (c = 0) = true then 1 else 0) else y)).Ok := by
  refine ⟨s0, s1, c0, c1, du, nofun, fun _ => ⟨?_, ?_, ?_, ?_, ?_, ?_⟩, nofun⟩ <;> dsimp only <;> simp only [decide_eq_true_eq] <;> (repeat' split) <;> omega
theorem plain2_ok {a : Addr} {k : Nat} {S : Sto} {Q : NQ} {E} {T : TgQ Q E} {most : Int} (h0 : 1 ≤ most) (h1 : most ≤ 1000000000000) (h : St2 a (k + 9) S) (kk : ∀ (m : Mk) S', m.Ok → m.s ≤ most → m.c ≤ most → St2 a k S' → Upd [a] S S' → Q m.d S') : runF sp__law_plain [.ref a, .int most] S Q E T := by
  simp_arith! [sp__law_plain, m__law_plain]
  have e5 : PowOk 10 12 := ⟨by decide, by decide, by decide⟩
  have e6 : (10 : Int) ^ (12 : Int).toNat = 1000000000000 := by decide
  try simp_arith []
  refine draw_ok (k := k + 8) h (by decide) (by decide) fun v S1 v0 v1 g1 u1 => ?_
  try simp_arith []
  refine draw_ok (k := k + 7) g1 (by omega) (by omega) fun s S2 s0 s1 g2 u2 => ?_
  try simp_arith []
  refine draw_ok (k := k + 6) g2 (by omega) (by omega) fun c S3 c0 c1 g3 u3 => ?_
  try simp_arith []
  refine due2_ok (k := k + 3) g3 fun t b S4 du g4 u4 => ?_
  have u14 := ((u1.trans u2).trans u3).trans u4
  by_cases w0 : v = 0
  · simp_arith [w0, decide_true]
    exact kk _ _ (ok_pr s0 (by omega) c0 (by omega) du) (by dsimp only; split <;> omega) (by dsimp only; split <;> omega) (g4.less (by omega)) u14
  by_cases w1 : v = 1
  · simp_arith [w0, w1, decide_true, decide_false, e5, e6]
    intro p hp
    have hpa := g4.fresh hp
    have g5 : St2 a (k + 3) (put S4 p (.lst [.int 2, .int (most + 1), .int 1000000, .int 1000000000000])) := g4.up (A := []) (Upd.new hp) (by simp)
    refine draw_ok (k := k + 2) g5 (by decide) (by decide) fun i S5 i0 i1 g6 u6 => ?_
    have lp := u6 p _ (by simp [hpa]) put_same
    obtain ⟨z, ez, z1, z2⟩ := at_pick (xs := [2, most + 1, 1000000, 1000000000000]) (i := i) (P := fun z => 1 ≤ z ∧ z ≤ 1000000000001) i0 (by simpa using i1) (by
      intro x hx
      simp only [List.mem_cons, List.not_mem_nil, or_false] at hx
      rcases hx with rfl | rfl | rfl | rfl <;> omega)
    simp only [List.map_cons, List.map_nil] at ez
    simp_arith [lp, ez]
    refine draw_ok (k := k + 1) g6 z1 (by omega) fun x S6 x0 x1 g7 u7 => ?_
    try simp_arith []
    refine draw_ok (k := k) g7 z1 (by omega) fun y S7 y0 y1 g8 u8 => ?_
    simp_arith []
    exact kk _ _ (ok2_st s0 (by omega) c0 (by omega) x0 (by omega) y0 (by omega) du) (by dsimp only; omega) (by dsimp only; omega) g8 (u14.trans (((Upd.new hp).trans u6).trans (u7.trans u8)))
  · simp_arith [w0, w1, decide_false]
    intro p hp
    have hpa := g4.fresh hp
    have g5 : St2 a (k + 3) (put S4 p (.lst [.int 1, .int 9, .int 1000000])) := g4.up (A := []) (Upd.new hp) (by simp)
    refine draw_ok (k := k + 2) g5 (by decide) (by decide) fun i S5 i0 i1 g6 u6 => ?_
    have lp := u6 p _ (by simp [hpa]) put_same
    obtain ⟨z, ez, z1, z2⟩ := at_pick (xs := [1, 9, 1000000]) (i := i) (P := fun z => 1 ≤ z ∧ z ≤ 1000000) i0 (by simpa using i1) (by
      intro x hx
      simp only [List.mem_cons, List.not_mem_nil, or_false] at hx
      rcases hx with rfl | rfl | rfl <;> omega)
    simp only [List.map_cons, List.map_nil] at ez
    simp_arith [lp, ez]
    refine draw_ok (k := k + 1) g6 z1 (by omega) fun x S6 x0 x1 g7 u7 => ?_
    try simp_arith []
    refine draw_ok (k := k) g7 z1 (by omega) fun y S7 y0 y1 g8 u8 => ?_
    try simp_arith []
    exact kk _ _ (ok_su s0 (by omega) c0 (by omega) x0 (by omega) y0 (by omega) du) (by dsimp only; omega) (by dsimp only; omega) g8 (u14.trans (((Upd.new hp).trans u6).trans (u7.trans u8)))
/-! ### what the law reckons -/
theorem wr_ne {i : Int} (sd : Sd i) : decide (wr i = "salt") = decide (i = 0) := by
  have n2 : ("cloth" = "salt") = False := by decide
  rcases sd with rfl | rfl
  · unfold wr; rfl
  · have n1 : ((1 : Int) = 0) = False := by decide
    unfold wr
    simp only [n1, if_false, ofString_inj, n2]
theorem rcv {p : Addr} {S : Sto} {L : List D} : (∃ p1 ds, D.ref p = D.ref p1 ∧ put S p (.lst L) p1 = some (.lst ds)) = True := eq_true ⟨p, _, rfl, put_same⟩
theorem natI {i : Int} (sd : Sd i) : ((i.toNat : Nat) : Int) = i := by rcases sd with rfl | rfl <;> rfl
theorem fdI {i : Int} (sd : Sd i) : List.findIdx? (fun d => eqF d (.str (wr i))) [.str "salt", .str "cloth"] = some i.toNat := by
  have q1 : ((Str.ofString "salt") == Str.ofString "cloth") = false := by rw [ofString_beq]; decide
  rcases sd with rfl | rfl
  · have e : wr 0 = "salt" := rfl
    rw [e]
    simp only [eqF, List.findIdx?_cons, beq_self_eq_true, if_true]
    rfl
  · have e : wr 1 = "cloth" := rfl
    rw [e]
    simp only [eqF, List.findIdx?_cons, beq_self_eq_true, if_true, q1, Bool.false_eq_true, if_false, List.findIdx?_nil, Option.map_some]
    rfl
theorem word_st {m : Mk} : decide (m.word = "stretch") = (match m.k with | .st => true | _ => false) := by
  have n1 : ("product" = "stretch") = False := by decide
  have n2 : ("sum" = "stretch") = False := by decide
  unfold Mk.word
  cases m.k <;> simp only [ofString_inj, n1, n2, decide_true, decide_false]
theorem word_su {m : Mk} : decide (m.word = "sum") = (match m.k with | .su => true | _ => false) := by
  have n1 : ("product" = "sum") = False := by decide
  have n2 : ("stretch" = "sum") = False := by decide
  unfold Mk.word
  cases m.k <;> simp only [ofString_inj, n1, n2, decide_true, decide_false]
theorem sides_ok {m : Mk} {i : Int} {S : Sto} {Q : NQ} {E} {T : TgQ Q E} (sd : Sd i) (k : ∀ S', Keeps S S' → Q (.tup [.int (m.gr i), .int (m.gr (1 - i)), .int (m.stk (1 - i))]) S') : runF sp__law_sides [m.d, .str (wr i)] S Q E T := by
  simp_arith! [sp__law_sides, m__law_sides]
  have t1 : atI [D.int m.s, D.int m.c] i = some (.int (m.stk i)) := by rw [at_sd sd, int_if]; rfl
  have t2 : atI [D.int m.s, D.int m.c] (1 - i) = some (.int (m.stk (1 - i))) := by rw [at_sd' sd, int_if]; rfl
  rw [md m]
  simp_arith []
  intro p hp
  simp_arith [put_same, rcv, fdI sd, natI sd, flatD, List.all_cons, List.all_nil, Bool.and_self, cut_13, atI_0, word_st]
  have K : Keeps S (put S p (.lst [.str "salt", .str "cloth"])) := Upd.new hp
  have k' := k _ K
  have pp : m.gr i = m.stk i + m.pp i := gr_stk
  have pp' : m.gr (1 - i) = m.stk (1 - i) + m.pp (1 - i) := gr_stk
  rw [pp, pp'] at k'
  cases hk : m.k with
  | st =>
    have mo : m.more = [.tup [.int m.x, .int m.y]] := by unfold Mk.more; rw [hk]
    have x1 : m.px = m.x := by unfold Mk.px; rw [hk]
    have x2 : m.py = m.y := by unfold Mk.py; rw [hk]
    have c1 : atI [D.int m.x, D.int m.y] i = some (.int (m.pp i)) := by rw [at_sd sd, int_if]; unfold Mk.pp; rw [x1, x2]
    have c2 : atI [D.int m.x, D.int m.y] (1 - i) = some (.int (m.pp (1 - i))) := by rw [at_sd' sd, int_if]; unfold Mk.pp; rw [x1, x2]
    simp_arith [mo, atI_4, t1, t2, c1, c2]
    exact k'
  | pr =>
    have x1 : m.px = 0 := by unfold Mk.px; rw [hk]
    have x2 : m.py = 0 := by unfold Mk.py; rw [hk]
    have c1 : atI [D.int 0, D.int 0] i = some (.int (m.pp i)) := by rw [at_sd sd, int_if]; unfold Mk.pp; rw [x1, x2]
    have c2 : atI [D.int 0, D.int 0] (1 - i) = some (.int (m.pp (1 - i))) := by rw [at_sd' sd, int_if]; unfold Mk.pp; rw [x1, x2]
    simp_arith [t1, t2, c1, c2]
    exact k'
  | su =>
    have x1 : m.px = 0 := by unfold Mk.px; rw [hk]
    have x2 : m.py = 0 := by unfold Mk.py; rw [hk]
    have c1 : atI [D.int 0, D.int 0] i = some (.int (m.pp i)) := by rw [at_sd sd, int_if]; unfold Mk.pp; rw [x1, x2]
    have c2 : atI [D.int 0, D.int 0] (1 - i) = some (.int (m.pp (1 - i))) := by rw [at_sd' sd, int_if]; unfold Mk.pp; rw [x1, x2]
    simp_arith [t1, t2, c1, c2]
    exact k'

/-! ### what comes, by the second law's words -/
theorem c13 (a b c : D) (r : List D) : cutD (a :: b :: c :: r) (some 1) (some 3) = [b, c] := cut_13 a b c r
/-- a count of any size -/
structure AskW (m : Mk) (i n : Int) : Prop where
  ok : m.Ok
  sd : Sd i
  n1 : 1 ≤ n
  n2 : n ≤ 2 ^ 200
theorem Ask0.w {m : Mk} {i n : Int} (a : Ask0 m i n) : AskW m i n := ⟨a.ok, a.sd, a.n1, by have := a.n2; omega⟩
theorem div_okW {i j : Int} (h0 : 0 < j) (h1 : j < 2 ^ 300) : DivOk i j := ⟨h0, Nat.lt_of_lt_of_le (by omega : j.natAbs < 2 ^ 300) (Nat.pow_le_pow_right (by decide) (by decide))⟩
theorem AskW.den {m : Mk} {i n : Int} (h : AskW m i n) : 0 < m.gr i * m.b + n * (m.b - m.t) ∧ m.gr i * m.b + n * (m.b - m.t) < 2 ^ 300 ∧ 0 ≤ n * (m.b - m.t) ∧ m.gr i * m.b ≤ 20000000000000000 ∧ 0 ≤ m.gr i * m.b := by
  have g := h.ok.gr i
  have n1 := h.n1; have n2 := h.n2
  obtain ⟨t0, b1, b2, tb⟩ := h.ok.due
  have r1 : 1 ≤ m.b - m.t := by omega
  have r2 : m.b - m.t ≤ 10000 := by omega
  have a1 : 1 * 1 ≤ n * (m.b - m.t) := Int.mul_le_mul n1 r1 (by decide) (by omega)
  have a2 : n * (m.b - m.t) ≤ 2 ^ 200 * 10000 := Int.mul_le_mul n2 r2 (by omega) (by decide)
  have a3 : 0 ≤ m.gr i * m.b := Int.mul_nonneg g.1 (by omega)
  have a4 : m.gr i * m.b ≤ 2000000000000 * 10000 := Int.mul_le_mul g.2 b2 (by omega) (by decide)
  omega
/-! ### rumours -/
structure Ru (r s : Int) : Prop where
  r1 : 1 ≤ r
  r2 : r ≤ 1000000
  s1 : 1 ≤ s
  s2 : s ≤ 1000000
def pay (r s i n w : Int) : Int := if i = 0 then w * r - n * s else w * s - n * r
theorem need_rumour_ok {r s : Int} (h : Ru r s) {S : Sto} {Q : NQ} {E} {T : TgQ Q E} (k : ∀ S', Keeps S S' → Q .non S') : runF sp_need_rumour [.tup [.int r, .int s]] S Q E T := by
  obtain ⟨r1, r2, s1, s2⟩ := h
  simp_arith! [sp_need_rumour, m_need_rumour]
  have e : decide (((0 + 1 + 1 : Nat) : Int) = 2) = true := by decide
  simp_arith [isi_tup_tuple, Bool.not_true, e]
  intro p hp
  refine runC_pure (fun _ => some (.bl true)) (fun _ => trivial) (by show 2 ≤ sizeLine; decide) ?_ ?_
  · intro z hz l Y N hY
    obtain ⟨j, rfl, j1, j2⟩ : ∃ j, z = .int j ∧ 1 ≤ j ∧ j ≤ 1000000 := by
      simp only [List.mem_cons, List.not_mem_nil, or_false] at hz
      rcases hz with rfl | rfl
      · exact ⟨_, rfl, r1, r2⟩
      · exact ⟨_, rfl, s1, s2⟩
    simp_arith [is_whole_int, j1, j2, decide_true]
    exact hY
  · have e : List.filterMap (fun _ => some (D.bl true)) [D.int r, D.int s] = [true, true].map D.bl := rfl
    rw [e]
    simp_arith [put_same]
    rw [show blsOf [D.bl true, D.bl true] = some [true, true] from rfl]
    exact k _ (Upd.new hp)
theorem gain_ok {r s i n w : Int} (h : Ru r s) (sd : Sd i) {S : Sto} {Q : NQ} {E} {T : TgQ Q E} (k : ∀ S', Keeps S S' → Q (.int (pay r s i n w)) S') : runF sp_gain [.tup [.int r, .int s], .str (wr i), .int n, .int w] S Q E T := by
  simp_arith! [sp_gain, m_gain]
  try simp_arith []
  refine need_rumour_ok h fun S1 K1 => ?_
  obtain ⟨r1, r2, s1, s2⟩ := h
  have k' := k S1 K1
  have m1 : ∀ z, N.MulOk z r := fun z => mul_ok_r (by omega) (by omega)
  have m2 : ∀ z, N.MulOk z s := fun z => mul_ok_r (by omega) (by omega)
  simp_arith [need_ware_ok sd, atI_0, atI_1, wr_ne sd, m1, m2]
  rcases sd with rfl | rfl
  · exact k'
  · exact k'
@[irreducible] def wD (x y : Int) : List (Key × D) := [(.inr "salt", .int x), (.inr "cloth", .int y)]
theorem wD_mk {x y : Int} : mergeD [] [(.inr "salt", .int x), (.inr "cloth", .int y)] = wD x y := by unfold wD; rfl
theorem wD_at {x y i : Int} (sd : Sd i) : dget (wD x y) (.inr (wr i)) = some (.int (if i = 0 then x else y)) := by
  unfold wD
  rcases sd with rfl | rfl <;> rfl
theorem at_fel {i : Int} (sd : Sd i) : atI [D.str "cloth", D.str "salt"] i = some (.str (wr (1 - i))) := by rcases sd with rfl | rfl <;> rfl
theorem pays_ok {r s i n w : Int} (h : Ru r s) (sd : Sd i) {S : Sto} {Q : NQ} {E} {T : TgQ Q E} (k : ∀ S', Keeps S S' → Q (.int (pay r s i n w)) S') : runF sp__law_pays [.tup [.int r, .int s], .str (wr i), .int n, .int w] S Q E T := by
  simp_arith! [sp__law_pays, m__law_pays]
  obtain ⟨r1, r2, s1, s2⟩ := h
  have m1 : ∀ z, N.MulOk z r := fun z => mul_ok_r (by omega) (by omega)
  have m2 : ∀ z, N.MulOk z s := fun z => mul_ok_r (by omega) (by omega)
  simp_arith [atI_0, atI_1]
  intro p hp
  simp_arith [put_same, Nat.reduceLeDiff, wD_mk]
  intro a ha
  have pa : p ≠ a := fun z => by rw [← z, put_same] at ha; cases ha
  try simp_arith []
  intro b hb
  have pb : p ≠ b := fun z => by rw [← z, put_ne pa, put_same] at hb; cases hb
  have ab : a ≠ b := fun z => by rw [← z, put_same] at hb; cases hb
  have g1 : put (put (put (put S p (.dic [])) p (.dic (wD s r))) a (.lst [.str "cloth", .str "salt"])) b (.lst [.str "salt", .str "cloth"]) p = some (.dic (wD s r)) := by rw [put_ne pb, put_ne pa, put_same]
  have g2 : put (put (put (put S p (.dic [])) p (.dic (wD s r))) a (.lst [.str "cloth", .str "salt"])) b (.lst [.str "salt", .str "cloth"]) a = some (.lst [.str "cloth", .str "salt"]) := by rw [put_ne ab, put_same]
  have K : Keeps S (put (put (put (put S p (.dic [])) p (.dic (wD s r))) a (.lst [.str "cloth", .str "salt"])) b (.lst [.str "salt", .str "cloth"])) := by
    rw [put_put] at ha hb ⊢
    exact ((Upd.new hp).trans (Upd.new ha)).trans (Upd.new hb)
  simp_arith [put_same, rcv, fdI sd, natI sd, flatD, List.all_cons, List.all_nil, Bool.and_self, g1, g2, at_fel sd, wD_at sd, wD_at sd.fel]
  have k' := k _ K
  rcases sd with rfl | rfl
  · exact ⟨m1 _, m2 _, k'⟩
  · exact ⟨m2 _, m1 _, k'⟩

/-! ### rumours drawn -/
theorem ru_part {x M : Int} (h0 : 0 ≤ x) (h1 : x ≤ M) : (if x / (1 + M / 800000) > 1 then x / (1 + M / 800000) else 1) ≤ 800000 ∧ 1 ≤ (if x / (1 + M / 800000) > 1 then x / (1 + M / 800000) else 1) := by
  have l1 : M < 800000 * (1 + M / 800000) := by omega
  have l0 : 0 < 1 + M / 800000 := by omega
  have : x / (1 + M / 800000) < 800000 := by
    rw [Int.ediv_lt_iff_lt_mul l0]
    omega
  split <;> omega
theorem rumour_ok {a : Addr} {k : Nat} {m : Mk} {S : Sto} {Q : NQ} {E} {T : TgQ Q E} (h : St2 a (k + 6) S) (o : m.Ok) (kk : ∀ r s S', Ru r s → St2 a k S' → Upd [a] S S' → Q (.tup [.int r, .int s]) S') : runF sp__law_rumour [.ref a, m.d] S Q E T := by
  simp_arith! [sp__law_rumour, m__law_rumour]
  try simp_arith []
  refine draw_ok (k := k + 5) h (by decide) (by decide) fun v S1 v0 v1 h1 u1 => ?_
  by_cases hv : v = 0
  · simp_arith [hv, decide_true]
    intro p hp
    have hpa := h1.fresh hp
    have h2 : St2 a (k + 5) (put S1 p (.lst [.int 9, .int 1000, .int 1000000])) := h1.up (A := []) (Upd.new hp) (by simp)
    refine draw_ok (k := k + 4) h2 (by decide) (by decide) fun i S3 i0 i1 h3 u3 => ?_
    have lp := u3 p _ (by simp [hpa]) put_same
    obtain ⟨z, ez, z1, z2⟩ := at_pick (xs := [9, 1000, 1000000]) (i := i) (P := fun z => 1 ≤ z ∧ z ≤ 1000000) i0 (by simpa using i1) (by
      intro x hx
      simp only [List.mem_cons, List.not_mem_nil, or_false] at hx
      rcases hx with rfl | rfl | rfl <;> omega)
    simp only [List.map_cons, List.map_nil] at ez
    simp_arith [lp, ez]
    refine draw_ok (k := k + 3) h3 z1 (by omega) fun x S4 x0 x1 h4 u4 => ?_
    try simp_arith []
    refine draw_ok (k := k + 2) h4 z1 (by omega) fun y S5 y0 y1 h5 u5 => ?_
    try simp_arith []
    exact kk _ _ _ ⟨by omega, by omega, by omega, by omega⟩ (h5.less (by omega)) ((u1.trans (Upd.new hp)).trans ((u3.trans u4).trans u5))
  · have d8 : ∀ i, DivOk i 800000 := fun i => div_ok (by decide) (by decide)
    have d1 : ∀ i, DivOk i 1000 := fun i => div_ok (by decide) (by decide)
    -- behind the two parts
    have rest : ∀ (x y : Int) (S2 : Sto), 0 ≤ x → 0 ≤ y → x ≤ 2000000000000 → y ≤ 2000000000000 → St2 a (k + 5) S2 → Upd [a] S S2 → ∀ p, S2 p = none → 
        ∀ v S4, 0 ≤ v → v < 2 → St2 a (k + 4) S4 → Upd [a] (put S2 p (.lst [.int (if x / (1 + (if y > x then y else x) / 800000) > 1 then x / (1 + (if y > x then y else x) / 800000) else 1), .int (if y / (1 + (if y > x then y else x) / 800000) > 1 then y / (1 + (if y > x then y else x) / 800000) else 1)])) S4 →
        ∃ f g : Int, S4 p = some (.lst [.int f, .int g]) ∧ p ≠ a ∧ (∀ d, 0 ≤ d → d < 300 → ∃ c : Int, atI [D.int f, D.int g] v = some (.int c) ∧ N.MulOk c (900 + d) ∧ ixN (0 + 1 + 1) v = some v.toNat ∧ ∃ r s, [D.int f, D.int g].set v.toNat (.int (1 + c * (900 + d) / 1000)) = [.int r, .int s] ∧ Ru r s) := by
      intro x y S2 x0 y0 x1 y1 h2 u2 p hp v S4 v0 v1 h4 u4
      have hpa := h2.fresh hp
      have lp := u4 p _ (by simp [hpa]) put_same
      have f1 := ru_part (x := x) (M := if y > x then y else x) x0 (by split <;> omega)
      have f2 := ru_part (x := y) (M := if y > x then y else x) y0 (by split <;> omega)
      generalize (if x / (1 + (if y > x then y else x) / 800000) > 1 then x / (1 + (if y > x then y else x) / 800000) else 1) = f at *
      generalize (if y / (1 + (if y > x then y else x) / 800000) > 1 then y / (1 + (if y > x then y else x) / 800000) else 1) = g at *
      refine ⟨f, g, lp, hpa, fun d d0 d1 => ?_⟩
      have key : ∀ c : Int, 1 ≤ c → c ≤ 800000 → N.MulOk c (900 + d) ∧ 1 ≤ 1 + c * (900 + d) / 1000 ∧ 1 + c * (900 + d) / 1000 ≤ 1000000 := by
        intro c c0 c1
        have a1 : c * (900 + d) ≤ 800000 * 1199 := Int.mul_le_mul c1 (by omega) (by omega) (by decide)
        have a0 : 0 ≤ c * (900 + d) := Int.mul_nonneg (by omega) (by omega)
        exact ⟨mul_ok_l (by omega) (by omega), by omega, by omega⟩
      have c : v = 0 ∨ v = 1 := by omega
      rcases c with rfl | rfl
      · obtain ⟨q1, q2, q3⟩ := key f f1.2 f1.1
        exact ⟨f, rfl, q1, by decide, _, _, rfl, ⟨q2, q3, f2.2, by omega⟩⟩
      · obtain ⟨q1, q2, q3⟩ := key g f2.2 f2.1
        exact ⟨g, rfl, q1, by decide, _, _, rfl, ⟨f1.2, by omega, q2, q3⟩⟩
    simp_arith [hv, decide_false]
    refine sides_ok (i := 0) (.inl rfl) fun S2 K2 => ?_
    have h2 := h1.up K2 (by simp)
    have u2 := u1.trans (K2.up (A := [a]))
    have gg := o.gr 0
    have gg' := o.gr (1 - 0)
    rw [md m]
    simp_arith [atI_0, word_su]
    cases hk : m.k with
    | su =>
      have mo : m.more = [.tup [.int m.x, .int m.y]] := by unfold Mk.more; rw [hk]
      obtain ⟨x0, x1, y0, y1⟩ := o.su hk
      have l0 : 0 < 1 + (if m.y > m.x then m.y else m.x) / 800000 := by split <;> omega
      have dd : ∀ i, DivOk i (1 + (if m.y > m.x then m.y else m.x) / 800000) := fun i => div_ok l0 (by split <;> omega)
      simp_arith [mo, atI_4, d8, dd]
      intro p hp
      have h3 := fun o => h2.up (A := []) (Upd.new (o := o) hp) (by simp)
      refine draw_ok (k := k + 4) (h3 _) (by decide) (by decide) fun v S4 v0 v1 h4 u4 => ?_
      obtain ⟨f, g, lp, hpa, q⟩ := rest m.x m.y S2 (by omega) (by omega) (by omega) (by omega) h2 u2 p hp v S4 v0 v1 h4 u4
      obtain ⟨c0, e0, -⟩ := q 0 (by decide) (by decide)
      simp_arith [lp, e0]
      refine draw_ok (k := k + 3) h4 (by decide) (by decide) fun d S5 d0 d1' h5 u5 => ?_
      have lp5 := u5 p _ (by simp [hpa]) lp
      obtain ⟨c, e1, e2, e3, r, s, e4, ru⟩ := q d d0 d1'
      rw [e0] at e1; cases e1
      simp_arith [e2, d1, lp5, e3, e4, put_same]
      exact kk _ _ _ ru ((h5.up (A := [p]) (Upd.at (by simp)) (by simpa using Ne.symm hpa)).less (by omega)) (((u2.trans (Upd.new hp)).trans (u4.trans u5)).putF (u2.fresh' hp (by simpa using hpa)))
    | pr =>
      have l0 : 0 < 1 + (if m.gr (1 - 0) > m.gr 0 then m.gr (1 - 0) else m.gr 0) / 800000 := by split <;> omega
      have dd : ∀ i, DivOk i (1 + (if m.gr (1 - 0) > m.gr 0 then m.gr (1 - 0) else m.gr 0) / 800000) := fun i => div_ok l0 (by split <;> omega)
      simp_arith [d8, dd]
      intro p hp
      have h3 := fun o => h2.up (A := []) (Upd.new (o := o) hp) (by simp)
      refine draw_ok (k := k + 4) (h3 _) (by decide) (by decide) fun v S4 v0 v1 h4 u4 => ?_
      obtain ⟨f, g, lp, hpa, q⟩ := rest (m.gr 0) (m.gr (1 - 0)) S2 (by omega) (by omega) (by omega) (by omega) h2 u2 p hp v S4 v0 v1 h4 u4
      obtain ⟨c0, e0, -⟩ := q 0 (by decide) (by decide)
      simp_arith [lp, e0]
      refine draw_ok (k := k + 3) h4 (by decide) (by decide) fun d S5 d0 d1' h5 u5 => ?_
      have lp5 := u5 p _ (by simp [hpa]) lp
      obtain ⟨c, e1, e2, e3, r, s, e4, ru⟩ := q d d0 d1'
      rw [e0] at e1; cases e1
      simp_arith [e2, d1, lp5, e3, e4, put_same]
      exact kk _ _ _ ru ((h5.up (A := [p]) (Upd.at (by simp)) (by simpa using Ne.symm hpa)).less (by omega)) (((u2.trans (Upd.new hp)).trans (u4.trans u5)).putF (u2.fresh' hp (by simpa using hpa)))
    | st =>
      have l0 : 0 < 1 + (if m.gr (1 - 0) > m.gr 0 then m.gr (1 - 0) else m.gr 0) / 800000 := by split <;> omega
      have dd : ∀ i, DivOk i (1 + (if m.gr (1 - 0) > m.gr 0 then m.gr (1 - 0) else m.gr 0) / 800000) := fun i => div_ok l0 (by split <;> omega)
      simp_arith [d8, dd]
      intro p hp
      have h3 := fun o => h2.up (A := []) (Upd.new (o := o) hp) (by simp)
      refine draw_ok (k := k + 4) (h3 _) (by decide) (by decide) fun v S4 v0 v1 h4 u4 => ?_
      obtain ⟨f, g, lp, hpa, q⟩ := rest (m.gr 0) (m.gr (1 - 0)) S2 (by omega) (by omega) (by omega) (by omega) h2 u2 p hp v S4 v0 v1 h4 u4
      obtain ⟨c0, e0, -⟩ := q 0 (by decide) (by decide)
      simp_arith [lp, e0]
      refine draw_ok (k := k + 3) h4 (by decide) (by decide) fun d S5 d0 d1' h5 u5 => ?_
      have lp5 := u5 p _ (by simp [hpa]) lp
      obtain ⟨c, e1, e2, e3, r, s, e4, ru⟩ := q d d0 d1'
      rw [e0] at e1; cases e1
      simp_arith [e2, d1, lp5, e3, e4, put_same]
      exact kk _ _ _ ru ((h5.up (A := [p]) (Upd.at (by simp)) (by simpa using Ne.symm hpa)).less (by omega)) (((u2.trans (Upd.new hp)).trans (u4.trans u5)).putF (u2.fresh' hp (by simpa using hpa)))
/-! ### the best deal, by both -/

/-! ### things of known kinds -/
def Kn (S : Sto) : D → Prop
  | .non => True
  | .bl _ => True
  | .int _ => True
  | .str _ => True
  | .tup _ => True
  | .ref a => (∃ ds, S a = some (.lst ds)) ∨ ∃ ks, S a = some (.dic ks)
  | _ => False
def isI : D → Bool | .int _ => true | .bl _ => true | _ => false
def isB : D → Bool | .bl _ => true | _ => false
def isS : D → Bool | .str _ => true | _ => false
def isTu : D → Bool | .tup _ => true | _ => false
theorem kn_int {S : Sto} {d : D} (h : Kn S d) (Q : NQ) : nIsi CL [d, .ty "int"] S Q = Q (.bl (isI d)) S := by
  cases d with
  | non => exact isi_non_int S Q
  | bl b => exact isi_bl_int b S Q
  | int i => exact isi_int_int i S Q
  | str x => exact isi_str_int x S Q
  | tup ds => exact isi_tup_int ds S Q
  | ref a => rcases h with ⟨ds, h⟩ | ⟨ds, h⟩ <;> first | exact isi_lst_int ds Q h | exact isi_dic_int ds Q h
  | _ => exact h.elim
theorem kn_bool {S : Sto} {d : D} (h : Kn S d) (Q : NQ) : nIsi CL [d, .ty "bool"] S Q = Q (.bl (isB d)) S := by
  cases d with
  | non => exact isi_non_bool S Q
  | bl b => exact isi_bl_bool b S Q
  | int i => exact isi_int_bool i S Q
  | str x => exact isi_str_bool x S Q
  | tup ds => exact isi_tup_bool ds S Q
  | ref a => rcases h with ⟨ds, h⟩ | ⟨ds, h⟩ <;> first | exact isi_lst_bool ds Q h | exact isi_dic_bool ds Q h
  | _ => exact h.elim
theorem kn_str {S : Sto} {d : D} (h : Kn S d) (Q : NQ) : nIsi CL [d, .ty "str"] S Q = Q (.bl (isS d)) S := by
  cases d with
  | non => exact isi_non_str S Q
  | bl b => exact isi_bl_str b S Q
  | int i => exact isi_int_str i S Q
  | str x => exact isi_str_str x S Q
  | tup ds => exact isi_tup_str ds S Q
  | ref a => rcases h with ⟨ds, h⟩ | ⟨ds, h⟩ <;> first | exact isi_lst_str ds Q h | exact isi_dic_str ds Q h
  | _ => exact h.elim
theorem kn_tuple {S : Sto} {d : D} (h : Kn S d) (Q : NQ) : nIsi CL [d, .ty "tuple"] S Q = Q (.bl (isTu d)) S := by
  cases d with
  | non => exact isi_non_tuple S Q
  | bl b => exact isi_bl_tuple b S Q
  | int i => exact isi_int_tuple i S Q
  | str x => exact isi_str_tuple x S Q
  | tup ds => exact isi_tup_tuple ds S Q
  | ref a => rcases h with ⟨ds, h⟩ | ⟨ds, h⟩ <;> first | exact isi_lst_tuple ds Q h | exact isi_dic_tuple ds Q h
  | _ => exact h.elim
/-- a number from a to b -/
def inR (d : D) (a b : Int) : Bool := match d with
  | .int i => decide (a ≤ i) && decide (i ≤ b)
  | _ => false
theorem is_whole_kn {S : Sto} {d : D} (h : Kn S d) {Q : NQ} {E} {T : TgQ Q E} : runF sp_is_whole [d] S Q E T = Q (.bl (isI d && !isB d)) S := by
  simp_arith! [sp_is_whole, m_is_whole]
  simp_arith [kn_int h, kn_bool h]
  cases isI d <;> rfl
theorem is_among_kn {S : Sto} {d : D} {a b : Int} (h : Kn S d) {Q : NQ} {E} {T : TgQ Q E} : runF sp_is_among [d, .int a, .int b] S Q E T = Q (.bl (inR d a b)) S := by
  simp_arith! [sp_is_among, m_is_among]
  simp_arith [is_whole_kn h]
  cases d with
  | int i =>
    simp_arith [isI, isB, Bool.not_false, Bool.and_self, inR]
    cases decide (a ≤ i) <;> rfl
  | bl b => rfl
  | _ => rfl
def pairB (d : D) (a b : Int) : Bool := match d with
  | .tup [x, y] => inR x a b && inR y a b
  | _ => false
/-- a thing whose parts are known -/
def Kn2 (S : Sto) (d : D) : Prop := Kn S d ∧ ∀ ds, d = .tup ds → ds.length ≤ sizeLine ∧ ∀ x ∈ ds, Kn S x
theorem Kn2.up {S S' : Sto} {d : D} (u : Keeps S S') (h : Kn2 S d) : Kn2 S' d := by
  have key : ∀ d, Kn S d → Kn S' d := by
    intro d h
    cases d with
    | ref a =>
      rcases h with ⟨ds, h⟩ | ⟨ds, h⟩
      · exact .inl ⟨ds, u a _ (by simp) h⟩
      · exact .inr ⟨ds, u a _ (by simp) h⟩
    | _ => exact h
  exact ⟨key _ h.1, fun ds e => ⟨(h.2 ds e).1, fun x hx => key x ((h.2 ds e).2 x hx)⟩⟩
theorem is_pair_kn {S : Sto} {d : D} {a b : Int} (h : Kn2 S d) {Q : NQ} {E} {T : TgQ Q E} : runF sp_is_pair [d, .int a, .int b] S Q E T = Q (.bl (pairB d a b)) S := by
  simp_arith! [sp_is_pair, m_is_pair]
  simp_arith [kn_tuple h.1]
  cases d with
  | tup ds =>
    have k := (h.2 ds rfl).2
    simp_arith [isTu, Bool.not_true]
    match ds, k with
    | [], _ => rfl
    | [x], _ => rfl
    | [x, y], k =>
      have e : decide (((0 + 1 + 1 : Nat) : Int) = 2) = true := by decide
      simp_arith [e, Bool.not_true, atI_0, atI_1, is_among_kn (k x (by simp)), is_among_kn (k y (by simp)), pairB]
      cases inR x a b <;> rfl
    | x :: y :: z :: r, _ =>
      have e : decide ((((x :: y :: z :: r).length : Nat) : Int) = 2) = false := decide_eq_false (by simp only [List.length_cons]; omega)
      simp only [e, Bool.not_false]
      rfl
  | _ => rfl
theorem pairB_true {d : D} {a b : Int} (h : pairB d a b = true) : ∃ x y, d = .tup [.int x, .int y] ∧ a ≤ x ∧ x ≤ b ∧ a ≤ y ∧ y ≤ b := by
  unfold pairB at h
  split at h
  · rename_i x y
    rw [Bool.and_eq_true] at h
    obtain ⟨h1, h2⟩ := h
    unfold inR at h1 h2
    split at h1
    · split at h2
      · rw [Bool.and_eq_true, decide_eq_true_eq, decide_eq_true_eq] at h1 h2
        exact ⟨_, _, rfl, h1.1, h1.2, h2.1, h2.2⟩
      · cases h2
    · cases h1
  · cases h
theorem pairB_int {x y a b : Int} : pairB (.tup [.int x, .int y]) a b = ((decide (a ≤ x) && decide (x ≤ b)) && (decide (a ≤ y) && decide (y ≤ b))) := rfl
def dueB (d : D) : Bool := match d with
  | .tup [.int t, .int b] => ((decide (0 ≤ t) && decide (t ≤ 10000)) && (decide (0 ≤ b) && decide (b ≤ 10000))) && (decide (1 ≤ b) && decide (10 * t ≤ b))
  | _ => false
theorem dueB_true {d : D} (h : dueB d = true) : ∃ t b, d = .tup [.int t, .int b] ∧ Due t b := by
  unfold dueB at h
  split at h
  · simp only [Bool.and_eq_true, decide_eq_true_eq] at h
    obtain ⟨⟨⟨h1, h2⟩, h3, h4⟩, h5, h6⟩ := h
    exact ⟨_, _, rfl, h1, h5, h4, h6⟩
  · cases h
theorem dueB_pair {d : D} (h : pairB d 0 10000 = false) : dueB d = false := by
  cases e : dueB d with
  | false => rfl
  | true =>
    obtain ⟨t, b, rfl, du⟩ := dueB_true e
    obtain ⟨t0, b1, b2, tb⟩ := du
    rw [pairB_int] at h
    have e1 : t ≤ 10000 := by omega
    have e2 : 0 ≤ b := by omega
    simp only [t0, e1, e2, b2, decide_true, Bool.and_self, Bool.true_eq_false] at h
theorem is_due_kn {S : Sto} {d : D} (h : Kn2 S d) {Q : NQ} {E} {T : TgQ Q E} : runF sp_is_due [d] S Q E T = Q (.bl (dueB d)) S := by
  cases hp : pairB d 0 10000 with
  | false =>
    simp_arith! [sp_is_due, m_is_due]
    simp_arith [is_pair_kn h, hp, dueB_pair hp]
  | true =>
    obtain ⟨t, b, rfl, -⟩ := pairB_true hp
    rw [is_due_int]; rfl
def Kn3 (S : Sto) (d : D) : Prop := Kn S d ∧ ∀ ds, d = .tup ds → ds.length ≤ sizeLine ∧ ∀ x ∈ ds, Kn2 S x
theorem kn_pair {S : Sto} {x y : D} (h1 : Kn S x) (h2 : Kn S y) : Kn2 S (.tup [x, y]) := ⟨trivial, fun ds e => by
  cases e
  refine ⟨(by show 2 ≤ sizeLine; decide), fun z hz => ?_⟩
  simp only [List.mem_cons, List.not_mem_nil, or_false] at hz
  rcases hz with rfl | rfl
  · exact h1
  · exact h2⟩
abbrev NoM (d : D) : Prop := ¬ ∃ m : Mk, m.Ok ∧ d = m.d
theorem isS_true {d : D} (h : isS d = true) : ∃ z, d = .str z := by
  cases d with
  | str z => exact ⟨z, rfl⟩
  | _ => cases h
theorem is_plain_no {S : Sto} {d : D} (h : Kn3 S d) (n : NoM d) {Q : NQ} {E} {T : TgQ Q E} : runF sp_is_plain [d] S Q E T = Q (.bl false) S := by
  simp_arith! [sp_is_plain, m_is_plain]
  simp_arith [kn_tuple h.1]
  cases d with
  | tup ds =>
    have k := (h.2 ds rfl).2
    simp_arith [isTu, Bool.not_true]
    have l0 : ∀ j : Nat, j < 4 → decide ((4 : Int) ≤ (j : Int)) = false := fun j hj => decide_eq_false (by omega)
    match ds, k, n with
    | [], _, _ => rfl
    | [x], _, _ => rfl
    | [x, y], _, _ => rfl
    | [x, y, z], _, _ => rfl
    | [x, y, z, u], k, n =>
      have e1 : decide ((4 : Int) ≤ ((0 + 1 + 1 + 1 + 1 : Nat) : Int)) = true := by decide
      have e2 : decide (((0 + 1 + 1 + 1 + 1 : Nat) : Int) ≤ 5) = true := by decide
      have e3 : decide (((0 + 1 + 1 + 1 + 1 : Nat) : Int) = 4) = true := by decide
      have e5 : decide (((0 + 1 + 1 + 1 + 1 : Nat) : Int) = 5) = false := by decide
      simp_arith [e1, e2, Bool.not_true, atI_0, kn_str (k x (by simp)).1]
      cases hs : isS x with
      | false => rfl
      | true =>
        obtain ⟨w, rfl⟩ := isS_true hs
        simp_arith [Bool.not_true, cut_13, is_pair_kn (kn_pair (k y (by simp)).1 (k z (by simp)).1)]
        cases hp : pairB (.tup [y, z]) 0 1000000000000 with
        | false => rfl
        | true =>
          obtain ⟨s, c, e, s0, s1, c0, c1⟩ := pairB_true hp
          cases e
          simp_arith [Bool.not_true, atI_3, is_due_kn (k u (by simp))]
          cases hd : dueB u with
          | false => rfl
          | true =>
            obtain ⟨t, b, rfl, du⟩ := dueB_true hd
            simp_arith [Bool.not_true, atI_0]
            by_cases hw : w = "product"
            · subst hw
              simp_arith [decide_true, e3, atI_1, atI_2]
              by_cases h1 : 1 ≤ s
              · by_cases h2 : 1 ≤ c
                · exact absurd ⟨⟨.pr, s, c, t, b, 0, 0⟩, ⟨s0, s1, c0, c1, du, fun _ => ⟨h1, h2⟩, nofun, nofun⟩, rfl⟩ n
                · simp only [h1, h2, decide_true, decide_false]
              · simp only [h1, decide_false]
            · simp only [hw, decide_false]
              simp_arith [e5, Bool.not_false]
    | [x, y, z, u, v], k, n =>
      have e1 : decide ((4 : Int) ≤ ((0 + 1 + 1 + 1 + 1 + 1 : Nat) : Int)) = true := by decide
      have e2 : decide (((0 + 1 + 1 + 1 + 1 + 1 : Nat) : Int) ≤ 5) = true := by decide
      have e3 : decide (((0 + 1 + 1 + 1 + 1 + 1 : Nat) : Int) = 4) = false := by decide
      have e5 : decide (((0 + 1 + 1 + 1 + 1 + 1 : Nat) : Int) = 5) = true := by decide
      simp_arith [e1, e2, Bool.not_true, atI_0, kn_str (k x (by simp)).1]
      cases hs : isS x with
      | false => rfl
      | true =>
        obtain ⟨w, rfl⟩ := isS_true hs
        simp_arith [Bool.not_true, cut_13, is_pair_kn (kn_pair (k y (by simp)).1 (k z (by simp)).1)]
        cases hp : pairB (.tup [y, z]) 0 1000000000000 with
        | false => rfl
        | true =>
          obtain ⟨s, c, e, s0, s1, c0, c1⟩ := pairB_true hp
          cases e
          simp_arith [Bool.not_true, atI_3, is_due_kn (k u (by simp))]
          cases hd : dueB u with
          | false => rfl
          | true =>
            obtain ⟨t, b, rfl, du⟩ := dueB_true hd
            simp_arith [Bool.not_true, atI_0]
            by_cases hw : w = "product"
            · subst hw
              simp_arith [decide_true, e3]
            · by_cases hw2 : w = "sum"
              · subst hw2
                simp only [hw, decide_false]
                simp_arith [e5, Bool.not_true, atI_0, decide_true, atI_4, is_pair_kn (k v (by simp))]
                cases hv : pairB v 1 1000000 with
                | false => rfl
                | true =>
                  obtain ⟨p, q, rfl, p0, p1, q0, q1⟩ := pairB_true hv
                  exact absurd ⟨⟨.su, s, c, t, b, p, q⟩, ⟨s0, s1, c0, c1, du, nofun, nofun, fun _ => ⟨p0, p1, q0, q1⟩⟩, rfl⟩ n
              · by_cases hw3 : w = "stretch"
                · subst hw3
                  simp only [hw, decide_false]
                  simp_arith [e5, Bool.not_true, atI_0, hw2, decide_false, decide_true, atI_4, is_pair_kn (k v (by simp))]
                  cases hv : pairB v 0 1000000000000 with
                  | false => rfl
                  | true =>
                    obtain ⟨p, q, rfl, p0, p1, q0, q1⟩ := pairB_true hv
                    simp_arith [Bool.not_true, atI_0, atI_1, atI_2, atI_4]
                    by_cases h1 : 1 ≤ s + p
                    · by_cases h2 : 1 ≤ c + q
                      · exact absurd ⟨⟨.st, s, c, t, b, p, q⟩, ⟨s0, s1, c0, c1, du, nofun, fun _ => ⟨p0, p1, q0, q1, h1, h2⟩, nofun⟩, rfl⟩ n
                      · simp only [h1, h2, decide_true, decide_false]
                    · simp only [h1, decide_false]
                · simp only [hw, decide_false]
                  simp_arith [e5, Bool.not_true, atI_0, hw2, hw3, decide_false, Bool.not_false]
    | x :: y :: z :: u :: v :: o :: r, _, _ =>
      have e1 : decide ((4 : Int) ≤ (((x :: y :: z :: u :: v :: o :: r).length : Nat) : Int)) = true := decide_eq_true (by simp only [List.length_cons]; omega)
      have e2 : decide ((((x :: y :: z :: u :: v :: o :: r).length : Nat) : Int) ≤ 5) = false := decide_eq_false (by simp only [List.length_cons]; omega)
      simp only [e1, e2, Bool.not_false]
  | _ => rfl
theorem Kn3.up {S S' : Sto} {d : D} (u : Keeps S S') (h : Kn3 S d) : Kn3 S' d := by
  have key : Kn S' d := (Kn2.up (d := .tup [d]) u ⟨trivial, fun ds e => by cases e; exact ⟨(by show 1 ≤ sizeLine; decide), fun z hz => by simp only [List.mem_cons, List.not_mem_nil, or_false] at hz; rw [hz]; exact h.1⟩⟩).2 [d] rfl |>.2 d (by simp)
  exact ⟨key, fun ds e => ⟨(h.2 ds e).1, fun x hx => ((h.2 ds e).2 x hx).up u⟩⟩
theorem inR_true {d : D} {a b : Int} (h : inR d a b = true) : ∃ i, d = .int i ∧ a ≤ i ∧ i ≤ b := by
  unfold inR at h
  split at h
  · rw [Bool.and_eq_true, decide_eq_true_eq, decide_eq_true_eq] at h
    exact ⟨_, rfl, h.1, h.2⟩
  · cases h
theorem beq_dec {a b : Str} : (a == b) = decide (b = a) := by
  by_cases h : a = b
  · subst h; simp
  · have h' : ¬ b = a := fun z => h z.symm
    rw [beq_eq_false_iff_ne.mpr h, decide_eq_false h']
theorem at_mem {xs : List D} {i : Int} (h0 : 0 ≤ i) (h1 : i < xs.length) : ∃ x, x ∈ xs ∧ atI xs i = some x := by
  refine ⟨xs[i.toNat]'(by omega), List.getElem_mem _, ?_⟩
  rw [atI_nat' h0, List.getElem?_eq_getElem (by omega)]
theorem kn2_flat {S : Sto} {d : D} (h : Kn S d) (n : isTu d = false) : Kn2 S d := ⟨h, fun ds e => by rw [e] at n; cases n⟩
theorem kn3_of {S : Sto} {d : D} (h : Kn2 S d) (n : ∀ ds, d = .tup ds → ∀ x ∈ ds, isTu x = false) : Kn3 S d := ⟨h.1, fun ds e => ⟨(h.2 ds e).1, fun x hx => kn2_flat ((h.2 ds e).2 x hx) (n ds e x hx)⟩⟩
theorem mem_cut {xs : List D} {lo hi : Option Int} {x : D} (h : x ∈ cutD xs lo hi) : x ∈ xs := by
  unfold cutD at h
  exact List.mem_of_mem_drop (List.mem_of_mem_take h)
theorem cut_len {xs : List D} {lo hi : Option Int} : (cutD xs lo hi).length ≤ xs.length := by
  unfold cutD
  rw [List.length_take, List.length_drop]
  omega
def Mk.items (m : Mk) : List D := .str m.word :: .int m.s :: .int m.c :: .tup [.int m.t, .int m.b] :: m.more
theorem Mk.items_len (m : Mk) : m.items.length ≤ 5 := by
  have : m.more.length ≤ 1 := by unfold Mk.more; split <;> simp
  unfold Mk.items
  simp only [List.length_cons]
  omega
theorem Mk.items_kn (m : Mk) {S : Sto} : ∀ x ∈ m.items, Kn2 S x := by
  intro x hx
  unfold Mk.items at hx
  simp only [List.mem_cons] at hx
  rcases hx with rfl | rfl | rfl | rfl | hx
  · exact kn2_flat trivial rfl
  · exact kn2_flat trivial rfl
  · exact kn2_flat trivial rfl
  · exact kn_pair trivial trivial
  · unfold Mk.more at hx
    split at hx
    · simp at hx
    · simp only [List.mem_cons, List.not_mem_nil, or_false] at hx
      rw [hx]; exact kn_pair trivial trivial
theorem kn3_tup {S : Sto} {ds : List D} (h : ∀ x ∈ ds, Kn2 S x) (l : ds.length ≤ 12) : Kn3 S (.tup ds) := ⟨trivial, fun es e => by
  cases e
  have : (64 : Nat) ≤ sizeLine := by decide
  exact ⟨by omega, h⟩⟩
/-! ### a tuple with one thing otherwise -/
theorem at_any {xs : List D} {i : Int} {P : D → Prop} (h0 : 0 ≤ i) (h1 : i < xs.length) (h : ∀ x ∈ xs, P x) : match atI xs i with | some d => P d | none => False := by
  obtain ⟨x, hx, e⟩ := at_mem h0 h1
  rw [e]; exact h x hx
theorem kn_lst {S : Sto} {a : Addr} {ds : List D} (h : S a = some (.lst ds)) : Kn2 S (.ref a) := kn2_flat (.inl ⟨ds, h⟩) rfl
theorem kn_dic {S : Sto} {a : Addr} {ds : List (Key × D)} (h : S a = some (.dic ds)) : Kn2 S (.ref a) := kn2_flat (.inr ⟨ds, h⟩) rfl
theorem kn_few {S : Sto} {ds : List D} (l : ds.length ≤ 12) (h : ∀ x ∈ ds, Kn S x) : Kn2 S (.tup ds) := ⟨trivial, fun es e => by
  cases e
  have : (64 : Nat) ≤ sizeLine := by decide
  exact ⟨by omega, h⟩⟩
theorem Kn3.of2 {S : Sto} {d : D} (h : Kn2 S d) (n : isTu d = false) : Kn3 S d := ⟨h.1, fun ds e => by rw [e] at n; cases n⟩
theorem mod_len {n k : Int} {l : Nat} (hk : 0 < k) (e : k = l) : 0 ≤ n % k ∧ n % k < l := by have := mod_lt (i := n) hk; omega
/-! ### refusals -/
theorem need_ware_no {S : Sto} {d : D} (h : Kn S d) (n : ∀ z, d = .str z → z ≠ "salt" ∧ z ≠ "cloth") {Q : NQ} {E} {T : TgQ Q E} : runF sp_need_ware [d] S Q E T = E "BadWare" none S := by
  simp_arith! [sp_need_ware, m_need_ware]
  simp_arith [kn_str h]
  cases d with
  | str z =>
    obtain ⟨n1, n2⟩ := n z rfl
    have e1 : ((Str.ofString "salt") == z) = false := beq_eq_false_iff_ne.mpr (Ne.symm n1)
    have e2 : ((Str.ofString "cloth") == z) = false := beq_eq_false_iff_ne.mpr (Ne.symm n2)
    unfold c_WARES
    simp_arith [isS, Bool.not_true, flatD, eqF, List.all_cons, List.all_nil, List.any_cons, List.any_nil, e1, e2, Bool.or_self, Bool.not_false, Bool.and_self]
  | _ => simp_arith [isS, Bool.not_false]

/-! ### what a deed tells, or the word of its refusal -/
def wordOf (c : Str) : Str :=
  if c = "BadMaker" then "maker" else if c = "BadWare" then "ware" else if c = "BadCount" then "count" else if c = "TooMuch" then "much" else if c = "BadShares" then "shares" else if c = "NoText" then "text"
  else if c = "NoName" then "name" else if c = "TooLittle" then "little" else if c = "BadRumour" then "rumour" else if c = "NoParting" then "parting" else "line"
def wordF : D → Option D := fun x => match x with
  | .tup [.str w, .bl true] => some (.str w)
  | _ => none
theorem word_list {c : Str} (hc : c ∈ CL) : List.filterMap wordF [.tup [.str "maker", .bl (isT (.cls c) (.cls "BadMaker"))], .tup [.str "ware", .bl (isT (.cls c) (.cls "BadWare"))], .tup [.str "count", .bl (isT (.cls c) (.cls "BadCount"))], .tup [.str "much", .bl (isT (.cls c) (.cls "TooMuch"))], .tup [.str "shares", .bl (isT (.cls c) (.cls "BadShares"))], .tup [.str "text", .bl (isT (.cls c) (.cls "NoText"))], .tup [.str "name", .bl (isT (.cls c) (.cls "NoName"))], .tup [.str "little", .bl (isT (.cls c) (.cls "TooLittle"))], .tup [.str "rumour", .bl (isT (.cls c) (.cls "BadRumour"))], .tup [.str "parting", .bl (isT (.cls c) (.cls "NoParting"))], .tup [.str "line", .bl (isT (.cls c) (.cls "NoLine"))], .tup [.str "bare", .bl (!true)]] = [.str (wordOf c)] ∧ (wordOf c).length ≤ 10 := by
  simp only [CL, List.mem_cons, List.not_mem_nil, or_false] at hc
  rcases hc with rfl | rfl | rfl | rfl | rfl | rfl | rfl | rfl | rfl | rfl | rfl <;> exact ⟨rfl, by decide⟩
theorem join1 {a x : Str} : Txt.join a [x] = x := by
  first | rfl | (cases x; rfl)
theorem word_ok {x : Addr} {c : Str} {S : Sto} {Q : NQ} {E} {T : TgQ Q E} (h : S x = some (.exc c none)) (hc : c ∈ CL) (k : ∀ S', Keeps S S' → Q (.str (wordOf c)) S') : runF sp__law_word [.ref x] S Q E T := by
  have h3 : (T1 CL).contains (.cls c) = true := by
    simp only [CL, List.mem_cons, List.not_mem_nil, or_false] at hc
    rcases hc with rfl | rfl | rfl | rfl | rfl | rfl | rfl | rfl | rfl | rfl | rfl <;> decide
  obtain ⟨wl, w10⟩ := word_list hc
  have i0 := fun (S' : Sto) (h : S' x = some (.exc c none)) (Q : NQ) => isi_exc (x := "BadMaker") Q h h3 (by decide)
  generalize isT (.cls c) (.cls "BadMaker") = b0 at i0 wl
  have i1 := fun (S' : Sto) (h : S' x = some (.exc c none)) (Q : NQ) => isi_exc (x := "BadWare") Q h h3 (by decide)
  generalize isT (.cls c) (.cls "BadWare") = b1 at i1 wl
  have i2 := fun (S' : Sto) (h : S' x = some (.exc c none)) (Q : NQ) => isi_exc (x := "BadCount") Q h h3 (by decide)
  generalize isT (.cls c) (.cls "BadCount") = b2 at i2 wl
  have i3 := fun (S' : Sto) (h : S' x = some (.exc c none)) (Q : NQ) => isi_exc (x := "TooMuch") Q h h3 (by decide)
  generalize isT (.cls c) (.cls "TooMuch") = b3 at i3 wl
  have i4 := fun (S' : Sto) (h : S' x = some (.exc c none)) (Q : NQ) => isi_exc (x := "BadShares") Q h h3 (by decide)
  generalize isT (.cls c) (.cls "BadShares") = b4 at i4 wl
  have i5 := fun (S' : Sto) (h : S' x = some (.exc c none)) (Q : NQ) => isi_exc (x := "NoText") Q h h3 (by decide)
  generalize isT (.cls c) (.cls "NoText") = b5 at i5 wl
  have i6 := fun (S' : Sto) (h : S' x = some (.exc c none)) (Q : NQ) => isi_exc (x := "NoName") Q h h3 (by decide)
  generalize isT (.cls c) (.cls "NoName") = b6 at i6 wl
  have i7 := fun (S' : Sto) (h : S' x = some (.exc c none)) (Q : NQ) => isi_exc (x := "TooLittle") Q h h3 (by decide)
  generalize isT (.cls c) (.cls "TooLittle") = b7 at i7 wl
  have i8 := fun (S' : Sto) (h : S' x = some (.exc c none)) (Q : NQ) => isi_exc (x := "BadRumour") Q h h3 (by decide)
  generalize isT (.cls c) (.cls "BadRumour") = b8 at i8 wl
  have i9 := fun (S' : Sto) (h : S' x = some (.exc c none)) (Q : NQ) => isi_exc (x := "NoParting") Q h h3 (by decide)
  generalize isT (.cls c) (.cls "NoParting") = b9 at i9 wl
  have i10 := fun (S' : Sto) (h : S' x = some (.exc c none)) (Q : NQ) => isi_exc (x := "NoLine") Q h h3 (by decide)
  generalize isT (.cls c) (.cls "NoLine") = b10 at i10 wl
  have ic := fun (S' : Sto) (h : S' x = some (.exc c none)) (Q : NQ) => isi_excV Q h h3
  simp_arith! [sp__law_word, m__law_word]
  simp_arith [i0 S h, i1 S h]
  intro p hp
  have px : p ≠ x := fun z => by rw [z, h] at hp; cases hp
  have K1 : Keeps S (put S p (.lst [.tup [.str "maker", .bl b0], .tup [.str "ware", .bl b1]])) := Upd.new hp
  have g1 : put S p (.lst [.tup [.str "maker", .bl b0], .tup [.str "ware", .bl b1]]) p = some (.lst [.tup [.str "maker", .bl b0], .tup [.str "ware", .bl b1]]) := put_same
  have h1 : put S p (.lst [.tup [.str "maker", .bl b0], .tup [.str "ware", .bl b1]]) x = some (.exc c none) := by rw [put_ne (Ne.symm px)]; exact h
  generalize put S p (.lst [.tup [.str "maker", .bl b0], .tup [.str "ware", .bl b1]]) = S1 at *
  simp_arith [i2 S1 h1, i3 S1 h1]
  intro q1 hq1
  have qx1 : q1 ≠ x := fun z => by rw [z, h1] at hq1; cases hq1
  have qp1 : q1 ≠ p := fun z => by rw [z, g1] at hq1; cases hq1
  have e1 : put S1 q1 (.lst [.tup [.str "count", .bl b2], .tup [.str "much", .bl b3]]) p = some (.lst [.tup [.str "maker", .bl b0], .tup [.str "ware", .bl b1]]) := by rw [put_ne (Ne.symm qp1)]; exact g1
  have K2 : Keeps S (put (put S1 q1 (.lst [.tup [.str "count", .bl b2], .tup [.str "much", .bl b3]])) p (.lst ([.tup [.str "maker", .bl b0], .tup [.str "ware", .bl b1]] ++ [.tup [.str "count", .bl b2], .tup [.str "much", .bl b3]]))) := (K1.trans (Upd.new hq1)).putF hp
  have g2 : (put (put S1 q1 (.lst [.tup [.str "count", .bl b2], .tup [.str "much", .bl b3]])) p (.lst ([.tup [.str "maker", .bl b0], .tup [.str "ware", .bl b1]] ++ [.tup [.str "count", .bl b2], .tup [.str "much", .bl b3]]))) p = some (.lst [.tup [.str "maker", .bl b0], .tup [.str "ware", .bl b1], .tup [.str "count", .bl b2], .tup [.str "much", .bl b3]]) := put_same
  have h2 : (put (put S1 q1 (.lst [.tup [.str "count", .bl b2], .tup [.str "much", .bl b3]])) p (.lst ([.tup [.str "maker", .bl b0], .tup [.str "ware", .bl b1]] ++ [.tup [.str "count", .bl b2], .tup [.str "much", .bl b3]]))) x = some (.exc c none) := by rw [put_ne (Ne.symm px), put_ne (Ne.symm qx1)]; exact h1
  simp_arith [e1, put_same, i4 (put (put S1 q1 (.lst [.tup [.str "count", .bl b2], .tup [.str "much", .bl b3]])) p (.lst ([.tup [.str "maker", .bl b0], .tup [.str "ware", .bl b1]] ++ [.tup [.str "count", .bl b2], .tup [.str "much", .bl b3]]))) h2, i5 (put (put S1 q1 (.lst [.tup [.str "count", .bl b2], .tup [.str "much", .bl b3]])) p (.lst ([.tup [.str "maker", .bl b0], .tup [.str "ware", .bl b1]] ++ [.tup [.str "count", .bl b2], .tup [.str "much", .bl b3]]))) h2]
  try refine ⟨by show 2 + 2 ≤ sizeLine; decide, ?_⟩
  generalize put (put S1 q1 (.lst [.tup [.str "count", .bl b2], .tup [.str "much", .bl b3]])) p (.lst ([.tup [.str "maker", .bl b0], .tup [.str "ware", .bl b1]] ++ [.tup [.str "count", .bl b2], .tup [.str "much", .bl b3]])) = S2 at *
  intro q2 hq2
  have qx2 : q2 ≠ x := fun z => by rw [z, h2] at hq2; cases hq2
  have qp2 : q2 ≠ p := fun z => by rw [z, g2] at hq2; cases hq2
  have e2 : put S2 q2 (.lst [.tup [.str "shares", .bl b4], .tup [.str "text", .bl b5]]) p = some (.lst [.tup [.str "maker", .bl b0], .tup [.str "ware", .bl b1], .tup [.str "count", .bl b2], .tup [.str "much", .bl b3]]) := by rw [put_ne (Ne.symm qp2)]; exact g2
  have K3 : Keeps S (put (put S2 q2 (.lst [.tup [.str "shares", .bl b4], .tup [.str "text", .bl b5]])) p (.lst ([.tup [.str "maker", .bl b0], .tup [.str "ware", .bl b1], .tup [.str "count", .bl b2], .tup [.str "much", .bl b3]] ++ [.tup [.str "shares", .bl b4], .tup [.str "text", .bl b5]]))) := (K2.trans (Upd.new hq2)).putF hp
  have g3 : (put (put S2 q2 (.lst [.tup [.str "shares", .bl b4], .tup [.str "text", .bl b5]])) p (.lst ([.tup [.str "maker", .bl b0], .tup [.str "ware", .bl b1], .tup [.str "count", .bl b2], .tup [.str "much", .bl b3]] ++ [.tup [.str "shares", .bl b4], .tup [.str "text", .bl b5]]))) p = some (.lst [.tup [.str "maker", .bl b0], .tup [.str "ware", .bl b1], .tup [.str "count", .bl b2], .tup [.str "much", .bl b3], .tup [.str "shares", .bl b4], .tup [.str "text", .bl b5]]) := put_same
  have h3 : (put (put S2 q2 (.lst [.tup [.str "shares", .bl b4], .tup [.str "text", .bl b5]])) p (.lst ([.tup [.str "maker", .bl b0], .tup [.str "ware", .bl b1], .tup [.str "count", .bl b2], .tup [.str "much", .bl b3]] ++ [.tup [.str "shares", .bl b4], .tup [.str "text", .bl b5]]))) x = some (.exc c none) := by rw [put_ne (Ne.symm px), put_ne (Ne.symm qx2)]; exact h2
  simp_arith [e2, put_same, i6 (put (put S2 q2 (.lst [.tup [.str "shares", .bl b4], .tup [.str "text", .bl b5]])) p (.lst ([.tup [.str "maker", .bl b0], .tup [.str "ware", .bl b1], .tup [.str "count", .bl b2], .tup [.str "much", .bl b3]] ++ [.tup [.str "shares", .bl b4], .tup [.str "text", .bl b5]]))) h3, i7 (put (put S2 q2 (.lst [.tup [.str "shares", .bl b4], .tup [.str "text", .bl b5]])) p (.lst ([.tup [.str "maker", .bl b0], .tup [.str "ware", .bl b1], .tup [.str "count", .bl b2], .tup [.str "much", .bl b3]] ++ [.tup [.str "shares", .bl b4], .tup [.str "text", .bl b5]]))) h3]
  try refine ⟨by show 4 + 2 ≤ sizeLine; decide, ?_⟩
  generalize put (put S2 q2 (.lst [.tup [.str "shares", .bl b4], .tup [.str "text", .bl b5]])) p (.lst ([.tup [.str "maker", .bl b0], .tup [.str "ware", .bl b1], .tup [.str "count", .bl b2], .tup [.str "much", .bl b3]] ++ [.tup [.str "shares", .bl b4], .tup [.str "text", .bl b5]])) = S3 at *
  intro q3 hq3
  have qx3 : q3 ≠ x := fun z => by rw [z, h3] at hq3; cases hq3
  have qp3 : q3 ≠ p := fun z => by rw [z, g3] at hq3; cases hq3
  have e3 : put S3 q3 (.lst [.tup [.str "name", .bl b6], .tup [.str "little", .bl b7]]) p = some (.lst [.tup [.str "maker", .bl b0], .tup [.str "ware", .bl b1], .tup [.str "count", .bl b2], .tup [.str "much", .bl b3], .tup [.str "shares", .bl b4], .tup [.str "text", .bl b5]]) := by rw [put_ne (Ne.symm qp3)]; exact g3
  have K4 : Keeps S (put (put S3 q3 (.lst [.tup [.str "name", .bl b6], .tup [.str "little", .bl b7]])) p (.lst ([.tup [.str "maker", .bl b0], .tup [.str "ware", .bl b1], .tup [.str "count", .bl b2], .tup [.str "much", .bl b3], .tup [.str "shares", .bl b4], .tup [.str "text", .bl b5]] ++ [.tup [.str "name", .bl b6], .tup [.str "little", .bl b7]]))) := (K3.trans (Upd.new hq3)).putF hp
  have g4 : (put (put S3 q3 (.lst [.tup [.str "name", .bl b6], .tup [.str "little", .bl b7]])) p (.lst ([.tup [.str "maker", .bl b0], .tup [.str "ware", .bl b1], .tup [.str "count", .bl b2], .tup [.str "much", .bl b3], .tup [.str "shares", .bl b4], .tup [.str "text", .bl b5]] ++ [.tup [.str "name", .bl b6], .tup [.str "little", .bl b7]]))) p = some (.lst [.tup [.str "maker", .bl b0], .tup [.str "ware", .bl b1], .tup [.str "count", .bl b2], .tup [.str "much", .bl b3], .tup [.str "shares", .bl b4], .tup [.str "text", .bl b5], .tup [.str "name", .bl b6], .tup [.str "little", .bl b7]]) := put_same
  have h4 : (put (put S3 q3 (.lst [.tup [.str "name", .bl b6], .tup [.str "little", .bl b7]])) p (.lst ([.tup [.str "maker", .bl b0], .tup [.str "ware", .bl b1], .tup [.str "count", .bl b2], .tup [.str "much", .bl b3], .tup [.str "shares", .bl b4], .tup [.str "text", .bl b5]] ++ [.tup [.str "name", .bl b6], .tup [.str "little", .bl b7]]))) x = some (.exc c none) := by rw [put_ne (Ne.symm px), put_ne (Ne.symm qx3)]; exact h3
  simp_arith [e3, put_same, i8 (put (put S3 q3 (.lst [.tup [.str "name", .bl b6], .tup [.str "little", .bl b7]])) p (.lst ([.tup [.str "maker", .bl b0], .tup [.str "ware", .bl b1], .tup [.str "count", .bl b2], .tup [.str "much", .bl b3], .tup [.str "shares", .bl b4], .tup [.str "text", .bl b5]] ++ [.tup [.str "name", .bl b6], .tup [.str "little", .bl b7]]))) h4, i9 (put (put S3 q3 (.lst [.tup [.str "name", .bl b6], .tup [.str "little", .bl b7]])) p (.lst ([.tup [.str "maker", .bl b0], .tup [.str "ware", .bl b1], .tup [.str "count", .bl b2], .tup [.str "much", .bl b3], .tup [.str "shares", .bl b4], .tup [.str "text", .bl b5]] ++ [.tup [.str "name", .bl b6], .tup [.str "little", .bl b7]]))) h4]
  try refine ⟨by show 6 + 2 ≤ sizeLine; decide, ?_⟩
  generalize put (put S3 q3 (.lst [.tup [.str "name", .bl b6], .tup [.str "little", .bl b7]])) p (.lst ([.tup [.str "maker", .bl b0], .tup [.str "ware", .bl b1], .tup [.str "count", .bl b2], .tup [.str "much", .bl b3], .tup [.str "shares", .bl b4], .tup [.str "text", .bl b5]] ++ [.tup [.str "name", .bl b6], .tup [.str "little", .bl b7]])) = S4 at *
  intro q4 hq4
  have qx4 : q4 ≠ x := fun z => by rw [z, h4] at hq4; cases hq4
  have qp4 : q4 ≠ p := fun z => by rw [z, g4] at hq4; cases hq4
  have e4 : put S4 q4 (.lst [.tup [.str "rumour", .bl b8], .tup [.str "parting", .bl b9]]) p = some (.lst [.tup [.str "maker", .bl b0], .tup [.str "ware", .bl b1], .tup [.str "count", .bl b2], .tup [.str "much", .bl b3], .tup [.str "shares", .bl b4], .tup [.str "text", .bl b5], .tup [.str "name", .bl b6], .tup [.str "little", .bl b7]]) := by rw [put_ne (Ne.symm qp4)]; exact g4
  have K5 : Keeps S (put (put S4 q4 (.lst [.tup [.str "rumour", .bl b8], .tup [.str "parting", .bl b9]])) p (.lst ([.tup [.str "maker", .bl b0], .tup [.str "ware", .bl b1], .tup [.str "count", .bl b2], .tup [.str "much", .bl b3], .tup [.str "shares", .bl b4], .tup [.str "text", .bl b5], .tup [.str "name", .bl b6], .tup [.str "little", .bl b7]] ++ [.tup [.str "rumour", .bl b8], .tup [.str "parting", .bl b9]]))) := (K4.trans (Upd.new hq4)).putF hp
  have g5 : (put (put S4 q4 (.lst [.tup [.str "rumour", .bl b8], .tup [.str "parting", .bl b9]])) p (.lst ([.tup [.str "maker", .bl b0], .tup [.str "ware", .bl b1], .tup [.str "count", .bl b2], .tup [.str "much", .bl b3], .tup [.str "shares", .bl b4], .tup [.str "text", .bl b5], .tup [.str "name", .bl b6], .tup [.str "little", .bl b7]] ++ [.tup [.str "rumour", .bl b8], .tup [.str "parting", .bl b9]]))) p = some (.lst [.tup [.str "maker", .bl b0], .tup [.str "ware", .bl b1], .tup [.str "count", .bl b2], .tup [.str "much", .bl b3], .tup [.str "shares", .bl b4], .tup [.str "text", .bl b5], .tup [.str "name", .bl b6], .tup [.str "little", .bl b7], .tup [.str "rumour", .bl b8], .tup [.str "parting", .bl b9]]) := put_same
  have h5 : (put (put S4 q4 (.lst [.tup [.str "rumour", .bl b8], .tup [.str "parting", .bl b9]])) p (.lst ([.tup [.str "maker", .bl b0], .tup [.str "ware", .bl b1], .tup [.str "count", .bl b2], .tup [.str "much", .bl b3], .tup [.str "shares", .bl b4], .tup [.str "text", .bl b5], .tup [.str "name", .bl b6], .tup [.str "little", .bl b7]] ++ [.tup [.str "rumour", .bl b8], .tup [.str "parting", .bl b9]]))) x = some (.exc c none) := by rw [put_ne (Ne.symm px), put_ne (Ne.symm qx4)]; exact h4
  simp_arith [e4, put_same, i10 (put (put S4 q4 (.lst [.tup [.str "rumour", .bl b8], .tup [.str "parting", .bl b9]])) p (.lst ([.tup [.str "maker", .bl b0], .tup [.str "ware", .bl b1], .tup [.str "count", .bl b2], .tup [.str "much", .bl b3], .tup [.str "shares", .bl b4], .tup [.str "text", .bl b5], .tup [.str "name", .bl b6], .tup [.str "little", .bl b7]] ++ [.tup [.str "rumour", .bl b8], .tup [.str "parting", .bl b9]]))) h5, ic (put (put S4 q4 (.lst [.tup [.str "rumour", .bl b8], .tup [.str "parting", .bl b9]])) p (.lst ([.tup [.str "maker", .bl b0], .tup [.str "ware", .bl b1], .tup [.str "count", .bl b2], .tup [.str "much", .bl b3], .tup [.str "shares", .bl b4], .tup [.str "text", .bl b5], .tup [.str "name", .bl b6], .tup [.str "little", .bl b7]] ++ [.tup [.str "rumour", .bl b8], .tup [.str "parting", .bl b9]]))) h5]
  try refine ⟨by show 8 + 2 ≤ sizeLine; decide, ?_⟩
  generalize put (put S4 q4 (.lst [.tup [.str "rumour", .bl b8], .tup [.str "parting", .bl b9]])) p (.lst ([.tup [.str "maker", .bl b0], .tup [.str "ware", .bl b1], .tup [.str "count", .bl b2], .tup [.str "much", .bl b3], .tup [.str "shares", .bl b4], .tup [.str "text", .bl b5], .tup [.str "name", .bl b6], .tup [.str "little", .bl b7]] ++ [.tup [.str "rumour", .bl b8], .tup [.str "parting", .bl b9]])) = S5 at *
  intro q5 hq5
  have qx5 : q5 ≠ x := fun z => by rw [z, h5] at hq5; cases hq5
  have qp5 : q5 ≠ p := fun z => by rw [z, g5] at hq5; cases hq5
  have e5 : put S5 q5 (.lst [.tup [.str "line", .bl b10], .tup [.str "bare", .bl (!true)]]) p = some (.lst [.tup [.str "maker", .bl b0], .tup [.str "ware", .bl b1], .tup [.str "count", .bl b2], .tup [.str "much", .bl b3], .tup [.str "shares", .bl b4], .tup [.str "text", .bl b5], .tup [.str "name", .bl b6], .tup [.str "little", .bl b7], .tup [.str "rumour", .bl b8], .tup [.str "parting", .bl b9]]) := by rw [put_ne (Ne.symm qp5)]; exact g5
  have K6 : Keeps S (put (put S5 q5 (.lst [.tup [.str "line", .bl b10], .tup [.str "bare", .bl (!true)]])) p (.lst ([.tup [.str "maker", .bl b0], .tup [.str "ware", .bl b1], .tup [.str "count", .bl b2], .tup [.str "much", .bl b3], .tup [.str "shares", .bl b4], .tup [.str "text", .bl b5], .tup [.str "name", .bl b6], .tup [.str "little", .bl b7], .tup [.str "rumour", .bl b8], .tup [.str "parting", .bl b9]] ++ [.tup [.str "line", .bl b10], .tup [.str "bare", .bl (!true)]]))) := (K5.trans (Upd.new hq5)).putF hp
  have g6 : (put (put S5 q5 (.lst [.tup [.str "line", .bl b10], .tup [.str "bare", .bl (!true)]])) p (.lst ([.tup [.str "maker", .bl b0], .tup [.str "ware", .bl b1], .tup [.str "count", .bl b2], .tup [.str "much", .bl b3], .tup [.str "shares", .bl b4], .tup [.str "text", .bl b5], .tup [.str "name", .bl b6], .tup [.str "little", .bl b7], .tup [.str "rumour", .bl b8], .tup [.str "parting", .bl b9]] ++ [.tup [.str "line", .bl b10], .tup [.str "bare", .bl (!true)]]))) p = some (.lst [.tup [.str "maker", .bl b0], .tup [.str "ware", .bl b1], .tup [.str "count", .bl b2], .tup [.str "much", .bl b3], .tup [.str "shares", .bl b4], .tup [.str "text", .bl b5], .tup [.str "name", .bl b6], .tup [.str "little", .bl b7], .tup [.str "rumour", .bl b8], .tup [.str "parting", .bl b9], .tup [.str "line", .bl b10], .tup [.str "bare", .bl (!true)]]) := put_same
  have h6 : (put (put S5 q5 (.lst [.tup [.str "line", .bl b10], .tup [.str "bare", .bl (!true)]])) p (.lst ([.tup [.str "maker", .bl b0], .tup [.str "ware", .bl b1], .tup [.str "count", .bl b2], .tup [.str "much", .bl b3], .tup [.str "shares", .bl b4], .tup [.str "text", .bl b5], .tup [.str "name", .bl b6], .tup [.str "little", .bl b7], .tup [.str "rumour", .bl b8], .tup [.str "parting", .bl b9]] ++ [.tup [.str "line", .bl b10], .tup [.str "bare", .bl (!true)]]))) x = some (.exc c none) := by rw [put_ne (Ne.symm px), put_ne (Ne.symm qx5)]; exact h5
  simp_arith [e5, put_same]
  try refine ⟨by show 10 + 2 ≤ sizeLine; decide, ?_⟩
  generalize put (put S5 q5 (.lst [.tup [.str "line", .bl b10], .tup [.str "bare", .bl (!true)]])) p (.lst ([.tup [.str "maker", .bl b0], .tup [.str "ware", .bl b1], .tup [.str "count", .bl b2], .tup [.str "much", .bl b3], .tup [.str "shares", .bl b4], .tup [.str "text", .bl b5], .tup [.str "name", .bl b6], .tup [.str "little", .bl b7], .tup [.str "rumour", .bl b8], .tup [.str "parting", .bl b9]] ++ [.tup [.str "line", .bl b10], .tup [.str "bare", .bl (!true)]])) = S6 at *
  try simp_arith [g6]
  intro r hr
  have rp : r ≠ p := fun z => by rw [z, g6] at hr; cases hr
  simp only [List.cons_append, List.nil_append]
  refine ⟨by rw [put_ne (Ne.symm rp)]; exact g6, ?_⟩
  refine runC_pure wordF (fun l => by rw [put_ne (Ne.symm rp)]; exact g6) (by show 12 ≤ sizeLine; decide) ?_ ?_
  · intro y hy l Y N hY
    obtain ⟨w, b, rfl⟩ : ∃ w b, y = .tup [.str w, .bl b] := by
      simp only [List.mem_cons, List.not_mem_nil, or_false] at hy
      rcases hy with rfl | rfl | rfl | rfl | rfl | rfl | rfl | rfl | rfl | rfl | rfl | rfl <;> exact ⟨_, _, rfl⟩
    cases b with
    | true =>
      simp_arith []
      exact hY
    | false =>
      simp_arith []
      exact hY
  rw [wl]
  simp_arith [put_same, strsOf, join1]
  refine ⟨?_, k _ (K6.trans (Upd.new hr))⟩
  have e1 : (Str.ofString "/").length = 1 := rfl
  simp
  omega
theorem lawtold_ok {act : NSp} {S : Sto} {Q : NQ} {E} {T : TgA act Q E} (h : ∀ (Q' : NQ) (E' : Str → Option Addr → Sto → Prop) (T' : TgQ Q' E'), (∀ v S1, Q v S1 → Q' v S1) → (∀ c S1, c ∈ CL → (∀ S2, N.Keeps S1 S2 → Q (.str (wordOf c)) S2) → E' c Option.none S1) → runF act [] S Q' E' T') : runA sp__law_told act S Q E T := by
  rw [u_runA]
  unfold sp__law_told
  rw [u_spAct]
  intro f hf
  unfold m__law_told
  simp_arith []
  refine ⟨rfl, ?_⟩
  refine h _ _ _ (fun v S1 hv => ?_) (fun c S1 hc hq => ?_)
  · simp_arith []
    exact hv
  · have cm : catchOf CL c "MartError" = some true := by
      simp only [CL, List.mem_cons, List.not_mem_nil, or_false] at hc
      rcases hc with rfl | rfl | rfl | rfl | rfl | rfl | rfl | rfl | rfl | rfl | rfl <;> decide
    rw [cm]
    dsimp only
    refine ⟨by show 3 < 4; decide, fun a ha => ?_⟩
    simp_arith []
    exact word_ok put_same hc fun S2 K2 => hq _ ((Upd.new ha).trans K2)

/-! ### what is no rumour -/
theorem need_rumour_no {S : Sto} {d : D} (h : Kn2 S d) (n : pairB d 1 1000000 = false) {Q : NQ} {E} {T : TgQ Q E} (k : ∀ S', Keeps S S' → E "BadRumour" Option.none S') : runF sp_need_rumour [d] S Q E T := by
  simp_arith! [sp_need_rumour, m_need_rumour]
  simp_arith [kn_tuple h.1]
  cases d with
  | tup ds =>
    obtain ⟨hl, hk⟩ := h.2 ds rfl
    by_cases h2 : ds.length = 2
    · obtain ⟨x, y, rfl⟩ : ∃ x y, ds = [x, y] := by
        match ds, h2 with
        | [x, y], _ => exact ⟨x, y, rfl⟩
      have e : decide (((0 + 1 + 1 : Nat) : Int) = 2) = true := by decide
      simp_arith [isTu, Bool.not_true, e]
      intro p hp
      refine runC_pure (fun z => some (.bl (inR z 1 1000000))) (fun _ => trivial) (by show 2 ≤ sizeLine; decide) ?_ ?_
      · intro z hz l Y N hY
        have kz : Kn (put S p (.lst l)) z := by
          have q := hk z hz
          cases z with
          | ref a =>
            have ne : ∀ o, S a = some o → a ≠ p := fun o e z => by rw [z, hp] at e; cases e
            rcases q with ⟨l', q⟩ | ⟨l', q⟩
            · exact .inl ⟨l', by rw [put_ne (ne _ q)]; exact q⟩
            · exact .inr ⟨l', by rw [put_ne (ne _ q)]; exact q⟩
          | _ => exact q
        simp_arith [is_whole_kn kz]
        cases z with
        | int i =>
          simp_arith [isI, isB, Bool.not_false, Bool.and_self]
          dsimp only at hY
          by_cases h1 : 1 ≤ i
          · have e : inR (.int i) 1 1000000 = decide (i ≤ 1000000) := by unfold inR; simp [h1]
            rw [e] at hY
            simp_arith [h1, decide_true]
            exact hY
          · have e : inR (.int i) 1 1000000 = false := by unfold inR; simp [h1]
            rw [e] at hY
            simp_arith [h1, decide_false]
            exact hY
        | bl b => exact hY
        | _ => exact hY
      · have e : List.filterMap (fun z => some (D.bl (inR z 1 1000000))) [x, y] = [.bl (inR x 1 1000000), .bl (inR y 1 1000000)] := rfl
        rw [e]
        have eb : blsOf [D.bl (inR x 1 1000000), D.bl (inR y 1 1000000)] = some [inR x 1 1000000, inR y 1 1000000] := rfl
        simp_arith [put_same]
        rw [eb]
        have f : (inR x 1 1000000 && inR y 1 1000000) = false := n
        have fa : [inR x 1 1000000, inR y 1 1000000].all id = false := by
          show (inR x 1 1000000 && (inR y 1 1000000 && true)) = false
          rw [Bool.and_true]; exact f
        dsimp only
        rw [fa]
        exact k _ (Upd.new hp)
    · have e : decide ((ds.length : Int) = 2) = false := decide_eq_false (by omega)
      have hl' : (ds.length ≤ sizeLine) = True := eq_true hl
      simp_arith [isTu, Bool.not_true, e, Bool.not_false]
      exact k _ Upd.refl
  | _ =>
    simp_arith [isTu, Bool.not_false]
    exact k _ Upd.refl
theorem odd_rumour_ok {a : Addr} {k : Nat} {S : Sto} {Q : NQ} {E} {T : TgQ Q E} (h : St2 a (k + 2) S) (kk : ∀ d S', Kn2 S' d → pairB d 1 1000000 = false → St2 a k S' → Upd [a] S S' → Q d S') : runF sp__law_odd_rumour [.ref a] S Q E T := by
  simp_arith! [sp__law_odd_rumour, m__law_odd_rumour]
  have e6 : PowOk 10 6 := ⟨by decide, by decide, by decide⟩
  have e66 : (10 : Int) ^ (6 : Int).toNat = 1000000 := by decide
  simp_arith [e6, e66]
  intro a1 ha1 a2 ha2 a3 ha3
  have c1 : Upd [a] S (put S a1 (.lst [.int 1, .int 2])) := Upd.new ha1
  have s1 := h.up (A := []) (Upd.new (o := .lst [.int 1, .int 2]) ha1) (by simp)
  have g1 : put S a1 (.lst [.int 1, .int 2]) a1 = some (.lst [.int 1, .int 2]) := put_same
  have n1 := h.fresh ha1
  generalize put S a1 (.lst [.int 1, .int 2]) = S1 at *
  have c2 : Upd [a] S (put S1 a2 (.dic [])) := c1.trans (Upd.new ha2)
  have s2 := s1.up (A := []) (Upd.new (o := .dic []) ha2) (by simp)
  have g12 := (Upd.new (A := []) (o := .dic []) ha2) _ _ (by simp) g1
  have g2 : put S1 a2 (.dic []) a2 = some (.dic []) := put_same
  have n2 := s1.fresh ha2
  generalize put S1 a2 (.dic []) = S2 at *
  generalize hS3 : put S2 a3 _ = S3
  have c3 : Upd [a] S S3 := by rw [← hS3]; exact c2.trans (Upd.new ha3)
  have s3 : St2 a (k + 1 + 1) S3 := by rw [← hS3]; exact s2.up (A := []) (Upd.new ha3) (by simp)
  have k23 : Keeps S2 S3 := by rw [← hS3]; exact Upd.new ha3
  have n3 := s2.fresh ha3
  have g3 : S3 a3 = some (.lst [.non, .int 5, .str "salt", .ref a1, .ref a2, .tup [], .tup [.int 1], .tup [.int 1, .int 2, .int 3], .tup [.int 0, .int 1], .tup [.int 1, .int 0], .tup [.int (-1), .int 1], .tup [.int 1, .non]]) := by rw [← hS3]; exact put_same
  have g13 := k23 _ _ (by simp) g12
  have g23 := k23 _ _ (by simp) g2
  clear hS3
  refine draw_ok s3 (by decide) (by decide) fun v S4 v0 v1 s4 u4 => ?_
  have c4 := c3.trans u4
  have g34 := u4 _ _ (by simpa using n3) g3
  have g14 := u4 _ _ (by simpa using n1) g13
  have g24 := u4 _ _ (by simpa using n2) g23
  simp_arith []
  intro a4 ha4 a5 ha5
  have n4 := s4.fresh ha4
  have c5 : Upd [a] S (put S4 a4 (.lst [.int 1])) := c4.trans (Upd.new ha4)
  have s5 := s4.up (A := []) (Upd.new (o := .lst [.int 1]) ha4) (by simp)
  have k45 : Keeps S4 (put S4 a4 (.lst [.int 1])) := Upd.new ha4
  have g45 : put S4 a4 (.lst [.int 1]) a4 = some (.lst [.int 1]) := put_same
  generalize put S4 a4 (.lst [.int 1]) = S5 at *
  have g35 := k45 _ _ (by simp) g34
  have g15 := k45 _ _ (by simp) g14
  have g25 := k45 _ _ (by simp) g24
  have e53 : a3 ≠ a5 := fun z => by rw [← z, g35] at ha5; cases ha5
  simp_arith [put_ne e53, g35, put_same]
  generalize hS6 : put S5 a5 _ = S6
  have c6 : Upd [a] S S6 := by rw [← hS6]; exact c5.trans (Upd.new ha5)
  have k56 : Keeps S5 S6 := by rw [← hS6]; exact Upd.new ha5
  clear hS6
  have s6 := s5.up k56 (by simp)
  have g36 := k56 _ _ (by simp) g35
  have ha3' : S a3 = Option.none := by
    cases e : S a3 with
    | none => rfl
    | some o =>
      have : S2 a3 = some o := c2 _ _ (by simpa using n3) e
      rw [ha3] at this; cases this
  have c7 : Upd [a] S (put S6 a3 (.lst ([.non, .int 5, .str "salt", .ref a1, .ref a2, .tup [], .tup [.int 1], .tup [.int 1, .int 2, .int 3], .tup [.int 0, .int 1], .tup [.int 1, .int 0], .tup [.int (-1), .int 1], .tup [.int 1, .non]] ++ [.tup [.int 1, .int (1000001 + v)], .tup [.bl true, .int 1], .tup [.str "1", .int 1], .tup [.ref a4, .int 1], .tup [.int 1000001, .int 1], .tup [.int 1, .bl false]]))) := c6.putF ha3'
  have k67 : Upd [a3] S6 (put S6 a3 (.lst ([.non, .int 5, .str "salt", .ref a1, .ref a2, .tup [], .tup [.int 1], .tup [.int 1, .int 2, .int 3], .tup [.int 0, .int 1], .tup [.int 1, .int 0], .tup [.int (-1), .int 1], .tup [.int 1, .non]] ++ [.tup [.int 1, .int (1000001 + v)], .tup [.bl true, .int 1], .tup [.str "1", .int 1], .tup [.ref a4, .int 1], .tup [.int 1000001, .int 1], .tup [.int 1, .bl false]]))) := Upd.at (by simp)
  have g7 : put S6 a3 (.lst ([.non, .int 5, .str "salt", .ref a1, .ref a2, .tup [], .tup [.int 1], .tup [.int 1, .int 2, .int 3], .tup [.int 0, .int 1], .tup [.int 1, .int 0], .tup [.int (-1), .int 1], .tup [.int 1, .non]] ++ [.tup [.int 1, .int (1000001 + v)], .tup [.bl true, .int 1], .tup [.str "1", .int 1], .tup [.ref a4, .int 1], .tup [.int 1000001, .int 1], .tup [.int 1, .bl false]])) a3 = some (.lst [.non, .int 5, .str "salt", .ref a1, .ref a2, .tup [], .tup [.int 1], .tup [.int 1, .int 2, .int 3], .tup [.int 0, .int 1], .tup [.int 1, .int 0], .tup [.int (-1), .int 1], .tup [.int 1, .non], .tup [.int 1, .int (1000001 + v)], .tup [.bl true, .int 1], .tup [.str "1", .int 1], .tup [.ref a4, .int 1], .tup [.int 1000001, .int 1], .tup [.int 1, .bl false]]) := put_same
  have s7 := s6.up k67 (by simpa using Ne.symm n3)
  have e31 : a1 ≠ a3 := fun z => by rw [← z, g12] at ha3; cases ha3
  have e32 : a2 ≠ a3 := fun z => by rw [← z, g2] at ha3; cases ha3
  have e34 : a4 ≠ a3 := fun z => by rw [z, g34] at ha4; cases ha4
  have g17 := k67 _ _ (by simpa using e31) (k56 _ _ (by simp) g15)
  have g27 := k67 _ _ (by simpa using e32) (k56 _ _ (by simp) g25)
  have g47 := k67 _ _ (by simpa using e34) (k56 _ _ (by simp) g45)
  generalize put S6 a3 (.lst ([.non, .int 5, .str "salt", .ref a1, .ref a2, .tup [], .tup [.int 1], .tup [.int 1, .int 2, .int 3], .tup [.int 0, .int 1], .tup [.int 1, .int 0], .tup [.int (-1), .int 1], .tup [.int 1, .non]] ++ [.tup [.int 1, .int (1000001 + v)], .tup [.bl true, .int 1], .tup [.str "1", .int 1], .tup [.ref a4, .int 1], .tup [.int 1000001, .int 1], .tup [.int 1, .bl false]])) = S7 at *
  refine ⟨by decide, ?_⟩
  show runF sp__law_draw [D.ref a, D.int 18] S7 _ _ _
  refine draw_ok s7 (by decide) (by decide) fun y S8 y0 y1 s8 u8 => ?_
  have g8 := u8 _ _ (by simpa using n3) g7
  have g18 := u8 _ _ (by simpa using n1) g17
  have g28 := u8 _ _ (by simpa using n2) g27
  have g48 := u8 _ _ (by simpa using n4) g47

  try simp_arith [g8]
  refine at_any y0 (by simpa using y1) fun d hd => ?_
  have q1 : Kn2 S8 (.ref a1) := kn_lst g18
  have q2 : Kn2 S8 (.ref a2) := kn_dic g28
  have q4 : Kn S8 (.ref a4) := (kn_lst g48).1
  have fin : Kn2 S8 d ∧ pairB d 1 1000000 = false := by
    simp only [List.mem_cons, List.not_mem_nil, or_false] at hd
    rcases hd with rfl | rfl | rfl | rfl | rfl | rfl | rfl | rfl | rfl | rfl | rfl | rfl | rfl | rfl | rfl | rfl | rfl | rfl
    · exact ⟨kn2_flat trivial rfl, rfl⟩
    · exact ⟨kn2_flat trivial rfl, rfl⟩
    · exact ⟨kn2_flat trivial rfl, rfl⟩
    · exact ⟨q1, rfl⟩
    · exact ⟨q2, rfl⟩
    · exact ⟨kn_few (by simp) (by simp), rfl⟩
    · exact ⟨kn_few (by simp) (by simp [Kn]), rfl⟩
    · exact ⟨kn_few (by simp) (by simp [Kn]), rfl⟩
    · exact ⟨kn_few (by simp) (by simp [Kn]), rfl⟩
    · exact ⟨kn_few (by simp) (by simp [Kn]), rfl⟩
    · exact ⟨kn_few (by simp) (by simp [Kn]), rfl⟩
    · exact ⟨kn_few (by simp) (by simp [Kn]), rfl⟩
    · refine ⟨kn_few (by simp) (by simp [Kn]), ?_⟩
      rw [pairB_int]
      have : decide (1000001 + v ≤ 1000000) = false := decide_eq_false (by omega)
      rw [this]; simp
    · exact ⟨kn_few (by simp) (by simp [Kn]), rfl⟩
    · exact ⟨kn_few (by simp) (by simp [Kn]), rfl⟩
    · exact ⟨kn_few (by simp) (fun z hz => by
        simp only [List.mem_cons, List.not_mem_nil, or_false] at hz
        rcases hz with rfl | rfl
        · exact q4
        · trivial), rfl⟩
    · exact ⟨kn_few (by simp) (by simp [Kn]), rfl⟩
    · exact ⟨kn_few (by simp) (by simp [Kn]), rfl⟩
  exact kk d S8 fin.1 fin.2 s8 (c7.trans u8)

/-! ### the refusals of gain and best_deal -/
theorem at_wr {i : Int} (sd : Sd i) : atI [D.str "salt", D.str "cloth"] i = some (.str (wr i)) := by rcases sd with rfl | rfl <;> rfl
theorem wr_str {i : Int} : PyData.strOk (wr i) = true := by unfold wr; split <;> simp [str_ok]
theorem gain_no_rumour {S : Sto} {d x y z : D} (h : Kn2 S d) (n : pairB d 1 1000000 = false) {Q : NQ} {E} {T : TgQ Q E} (k : ∀ S', Keeps S S' → E "BadRumour" Option.none S') : runF sp_gain [d, x, y, z] S Q E T := by
  simp_arith! [sp_gain, m_gain]
  try simp_arith []
  exact need_rumour_no h n k
theorem best_no_rumour {S : Sto} {d x : D} (h : Kn2 S d) (n : pairB d 1 1000000 = false) {Q : NQ} {E} {T : TgQ Q E} (k : ∀ S', Keeps S S' → E "BadRumour" Option.none S') : runF sp_best_deal [x, d] S Q E T := by
  simp_arith! [sp_best_deal, m_best_deal]
  try simp_arith []
  exact need_rumour_no h n k
theorem Kn.up {S S' : Sto} {d : D} (u : Keeps S S') (h : Kn S d) : Kn S' d := by
  cases d with
  | ref a =>
    rcases h with ⟨l, h⟩ | ⟨l, h⟩
    · exact .inl ⟨l, u _ _ (by simp) h⟩
    · exact .inr ⟨l, u _ _ (by simp) h⟩
  | _ => exact h
theorem gain_no_ware {S : Sto} {r s : Int} {d y z : D} (ru : Ru r s) (h : Kn S d) (n : ∀ z, d = .str z → z ≠ "salt" ∧ z ≠ "cloth") {Q : NQ} {E} {T : TgQ Q E} (k : ∀ S', Keeps S S' → E "BadWare" Option.none S') : runF sp_gain [.tup [.int r, .int s], d, y, z] S Q E T := by
  simp_arith! [sp_gain, m_gain]
  try simp_arith []
  refine need_rumour_ok ru fun S1 K1 => ?_
  simp_arith [need_ware_no (h.up K1) n]
  exact k _ K1
theorem eqT_s3 {S : Sto} {a b : Addr} {x y z : Str} (hx : PyData.strOk x = true) (hy : PyData.strOk y = true) (hz : PyData.strOk z = true) (h1 : S a = some (.lst [.str x, .str y, .str z])) (h2 : S b = some (.lst [.str x, .str y, .str z])) : eqT S (.ref a) (.ref b) = some true := by
  have c : PyData.canLay0 (.list [.str x, .str y, .str z]) = true := by simp [PyData.canLay0, PyData.canLayAll0, hx, hy, hz]
  have h3 : SeqAt.shaped (.list [.str x, .str y, .str z]) = true := by
    unfold SeqAt.shaped
    rw [c]
    simp [PyData.depth, PyData.depthAll]
  unfold eqT
  simp only [pyT, h1, h2, pyDs, pyD, Option.map_some, h3, SeqAt.eqv_refl _ c, Bool.and_self, if_true]
theorem Kn.upd {a : Addr} {k : Nat} {S S' : Sto} {d : D} (h : Kn S d) (u : Upd [a] S S') (s : St2 a k S') : Kn S' d := by
  cases d with
  | ref b =>
    by_cases e : b = a
    · obtain ⟨f, l, z, n, h1, _⟩ := s.ex
      rw [e]
      exact .inr ⟨_, h1⟩
    · rcases h with ⟨l, h⟩ | ⟨l, h⟩
      · exact .inl ⟨l, u _ _ (by simpa using e) h⟩
      · exact .inr ⟨l, u _ _ (by simpa using e) h⟩
  | _ => exact h
theorem Kn2.upd {a : Addr} {k : Nat} {S S' : Sto} {d : D} (h : Kn2 S d) (u : Upd [a] S S') (s : St2 a k S') : Kn2 S' d := ⟨h.1.upd u s, fun ds e => ⟨(h.2 ds e).1, fun x hx => ((h.2 ds e).2 x hx).upd u s⟩⟩

/-! ### the law -/
theorem wr_no {i : Int} {z : Str} (sd : Sd i) (h : z = wr i) : z = "salt" ∨ z = "cloth" := by
  rcases sd with rfl | rfl
  · exact .inl h
  · exact .inr h
theorem law_ok (ns : List Int) (hl : ns.length ≤ 63) : sp_law [.rol (ns.map D.int)] (fun _ => none) (fun d _ => d = .bl true) (fun _ _ _ => False) := by
  unfold sp_law m_law
  simp_arith [List.length_map]
  refine ⟨⟨⟨by decide, by decide⟩, ?_⟩, ?_⟩
  · split <;> split <;> constructor <;> omega
  obtain ⟨hi, eh⟩ : ∃ z : Int, (if (if (ns.length : Int) < 63 then (ns.length : Int) else 63) > 2 then (if (ns.length : Int) < 63 then (ns.length : Int) else 63) else 2) = z := ⟨_, rfl⟩
  have hi2 : 2 ≤ hi ∧ hi ≤ 63 := by rw [← eh]; split <;> split <;> omega
  rw [eh]
  refine runL_inv (fun e S => ∃ x1 x2 x3 x4 x5 x6 x7 x8 x9 x10 x11 x12 x13 x14, e = [some (.rol (ns.map D.int)), x1, x2, x3, x4, x5, x6, x7, x8, x9, x10, x11, x12, x13, x14]) (fun _ _ _ => trivial) (fun e S h => ?_) ?_ ?_
  · obtain ⟨x1, x2, x3, x4, x5, x6, x7, x8, x9, x10, x11, x12, x13, x14, rfl⟩ := h
    simp_arith []
  · exact ⟨_, _, _, _, _, _, _, _, _, _, _, _, _, _, rfl⟩
  rintro y hy e S C ⟨x1, x2, x3, x4, x5, x6, x7, x8, x9, x10, x11, x12, x13, x14, rfl⟩ hC
  obtain ⟨t, rfl, t0, t1⟩ : ∃ t : Int, y = .int t ∧ 1 ≤ t ∧ t < 1000 := by
    unfold rangeD at hy
    simp only [List.mem_map, List.mem_range] at hy
    obtain ⟨z, hz, rfl⟩ := hy
    exact ⟨_, rfl, by omega, by omega⟩
  have e0 : PowOk 10 12 := ⟨by decide, by decide, by decide⟩
  have e00 : (10 : Int) ^ (12 : Int).toNat = 1000000000000 := by decide
  simp_arith []
  refine state_ok (by omega) (by omega) hl fun a S1 ha h1 K1 => ?_
  simp_arith []
  refine plain2_ok (k := 100) (by decide) (by decide) (h1.less (by omega)) fun m S2 o ms mc h2 u2 => ?_
  try simp_arith []
  refine rumour_ok (k := 60) (h2.less (by omega)) o fun r s S3 ru h3 u3 => ?_
  try simp_arith []
  intro x hx
  have hxa := h3.fresh hx
  have h4 : St2 a (59 + 1) (put S3 x (.lst [.str "salt", .str "cloth"])) := h3.up (A := []) (Upd.new hx) (by simp)
  refine draw_ok h4 (by decide) (by decide) fun i S5 i0 i1 h5 u5 => ?_
  have lp := u5 x _ (by simp [hxa]) put_same
  have sd : Sd i := by unfold Sd; omega
  simp_arith [lp, at_wr sd, e0, e00]
  intro x2' hx2
  have hxb := h5.fresh hx2
  have h6 : St2 a (58 + 1) (put S5 x2' (.lst [.int 50, .int 1000000000000])) := h5.up (A := []) (Upd.new hx2) (by simp)
  refine draw_ok h6 (by decide) (by decide) fun v S7 v0 v1 h7 u7 => ?_
  have lp2 := u7 x2' _ (by simp [hxb]) put_same
  obtain ⟨z, ez, z1, z2⟩ := at_pick (xs := [50, 1000000000000]) (i := v) (P := fun z => 1 ≤ z ∧ z ≤ 1000000000000) v0 (by simpa using v1) (by
    intro x hx
    simp only [List.mem_cons, List.not_mem_nil, or_false] at hx
    rcases hx with rfl | rfl <;> omega)
  simp only [List.map_cons, List.map_nil] at ez
  simp_arith [lp2, ez]
  refine draw_ok (k := 57) h7 z1 (by omega) fun n S8 n0 n1 h8 u8 => ?_
  simp_arith [e0, e00]
  intro x3' hx3
  have hxc := h8.fresh hx3
  have h9 : St2 a (56 + 1) (put S8 x3' (.lst [.int 50, .int (1000000000000 + 1)])) := h8.up (A := []) (Upd.new hx3) (by simp)
  refine draw_ok h9 (by decide) (by decide) fun v' S9 v0' v1' h10 u9 => ?_
  have lp3 := u9 x3' _ (by simp [hxc]) put_same
  obtain ⟨z', ez', z1', z2'⟩ := at_pick (xs := [50, 1000000000000 + 1]) (i := v') (P := fun z => 1 ≤ z ∧ z ≤ 1000000000001) v0' (by simpa using v1') (by
    intro x hx
    simp only [List.mem_cons, List.not_mem_nil, or_false] at hx
    rcases hx with rfl | rfl <;> omega)
  simp only [List.map_cons, List.map_nil] at ez'
  simp_arith [lp3, ez']
  refine draw_ok (k := 55) h10 z1' (by omega) fun w S10 w0 w1 h11 u10 => ?_
  try simp_arith []
  refine gain_ok ru sd fun S11 K11 => ?_
  have h12 := h11.up K11 (by simp)
  simp_arith [isi_int_int, isi_int_bool, Bool.not_true]
  refine pays_ok ru sd fun S12 K12 => ?_
  have h13 := h12.up K12 (by simp)
  simp_arith [decide_true, Bool.not_true]
  refine odd_rumour_ok (k := 53) h13 fun od S13 ko no h14 u13 => ?_
  try simp_arith []
  intro b1 hb1 b2 hb2 b3 hb3
  have k1 : Keeps S13 (put S13 b1 (.lst [.str "salt"])) := Upd.new hb1
  have g1 : put S13 b1 (.lst [.str "salt"]) b1 = some (.lst [.str "salt"]) := put_same
  generalize put S13 b1 (.lst [.str "salt"]) = S14 at *
  have k2 : Keeps S14 (put S14 b2 (.dic [])) := Upd.new hb2
  have g2 : put S14 b2 (.dic []) b2 = some (.dic []) := put_same
  generalize put S14 b2 (.dic []) = S15 at *
  have k3 : Keeps S15 (put S15 b3 (.lst [.non, .int 5, .str "Salt", .str "", .str "silk", .ref b1, .tup [.str "salt"], .ref b2, .bl true, .str "salt "])) := Upd.new hb3
  have g3 : put S15 b3 (.lst [.non, .int 5, .str "Salt", .str "", .str "silk", .ref b1, .tup [.str "salt"], .ref b2, .bl true, .str "salt "]) b3 = some (.lst [.non, .int 5, .str "Salt", .str "", .str "silk", .ref b1, .tup [.str "salt"], .ref b2, .bl true, .str "salt "]) := put_same
  generalize put S15 b3 (.lst [.non, .int 5, .str "Salt", .str "", .str "silk", .ref b1, .tup [.str "salt"], .ref b2, .bl true, .str "salt "]) = S16 at *
  have k13 : Keeps S13 S16 := (k1.trans k2).trans k3
  have h16 : St2 a (52 + 1) S16 := h14.up k13 (by simp)
  have n1 := h14.fresh hb1
  have n2 := (h14.up k1 (by simp)).fresh hb2
  have n3 := ((h14.up k1 (by simp)).up k2 (by simp)).fresh hb3
  simp_arith [g3]
  try refine ⟨by decide, ?_⟩
  refine draw_ok h16 (by decide) (by decide) fun j S17 j0 j1 h17 u17 => ?_
  have g17 := u17 _ _ (by simpa using n3) g3
  have q1 : Kn S17 (.ref b1) := .inl ⟨_, u17 _ _ (by simpa using n1) (k3 _ _ (by simp) (k2 _ _ (by simp) g1))⟩
  have q2 : Kn S17 (.ref b2) := .inr ⟨_, u17 _ _ (by simpa using n2) (k3 _ _ (by simp) g2)⟩
  have ko17 : Kn2 S17 od := (ko.up k13).upd u17 h17
  try simp_arith [g17]
  obtain ⟨nw, hnw, enw⟩ := at_mem (xs := [D.non, .int 5, .str "Salt", .str "", .str "silk", .ref b1, .tup [.str "salt"], .ref b2, .bl true, .str "salt "]) j0 (by simpa using j1)
  simp_arith [enw]
  have kn : Kn S17 nw ∧ ∀ z, nw = .str z → z ≠ "salt" ∧ z ≠ "cloth" := by
    simp only [List.mem_cons, List.not_mem_nil, or_false] at hnw
    rcases hnw with rfl | rfl | rfl | rfl | rfl | rfl | rfl | rfl | rfl | rfl
    · exact ⟨trivial, fun z e => by cases e⟩
    · exact ⟨trivial, fun z e => by cases e⟩
    · exact ⟨trivial, fun z e => by cases e; exact ⟨by decide, by decide⟩⟩
    · exact ⟨trivial, fun z e => by cases e; exact ⟨by decide, by decide⟩⟩
    · exact ⟨trivial, fun z e => by cases e; exact ⟨by decide, by decide⟩⟩
    · exact ⟨q1, fun z e => by cases e⟩
    · exact ⟨trivial, fun z e => by cases e⟩
    · exact ⟨q2, fun z e => by cases e⟩
    · exact ⟨trivial, fun z e => by cases e⟩
    · exact ⟨trivial, fun z e => by cases e; exact ⟨by decide, by decide⟩⟩
  clear hnw enw g17 g3
  intro b4 hb4
  have hbd := h17.fresh hb4
  have h18 : St2 a (51 + 1) (put S17 b4 (.lst [.str (wr i), nw])) := h17.up (A := []) (Upd.new hb4) (by simp)
  have k18 : Keeps S17 (put S17 b4 (.lst [.str (wr i), nw])) := Upd.new hb4
  refine draw_ok h18 (by decide) (by decide) fun l S19 l0 l1 h19 u19 => ?_
  have lp4 := u19 b4 _ (by simp [hbd]) put_same
  obtain ⟨oth, -, eoth⟩ := at_mem (xs := [D.str (wr i), nw]) l0 (by simpa using l1)
  simp_arith [lp4, eoth]
  have ko19 : Kn2 S19 od := (ko17.up k18).upd u19 h19
  have kn19 : Kn S19 nw := (kn.1.up k18).upd u19 h19
  refine maker_of_ok o fun p q S20 hp hq M20 K20 => ?_
  try simp_arith []
  have cr : (Str.ofString "BadRumour") ∈ CL := by simp [CL]
  have cw : (Str.ofString "BadWare") ∈ CL := by simp [CL]
  have w1 : wordOf "BadRumour" = "rumour" := by decide
  have w2 : wordOf "BadWare" = "ware" := by decide
  refine lawtold_ok fun Q1 E1 T1 _ he1 => ?_
  rw [u_runF]
  simp_arith []
  refine gain_no_rumour (ko19.up K20) no fun S21 K21 => he1 _ _ cr fun S22 K22 => ?_
  rw [w1]
  try simp_arith []
  intro c1 hc1
  have kA : Keeps S20 (put S22 c1 (.lst [.str "rumour"])) := (K21.trans K22).trans (Upd.new hc1)
  have gA : put S22 c1 (.lst [.str "rumour"]) c1 = some (.lst [.str "rumour"]) := put_same
  have kB : Keeps S22 (put S22 c1 (.lst [.str "rumour"])) := Upd.new hc1
  generalize put S22 c1 (.lst [.str "rumour"]) = S23 at *
  have M23 := M20.up kA (by simp) (by simp)
  have kn23 : Kn S23 nw := (kn19.up K20).up kA
  have ko23 : Kn2 S23 od := (ko19.up K20).up kA
  refine ⟨⟨c1, _, rfl, gA⟩, ?_⟩
  refine lawtold_ok fun Q2 E2 T2 _ he2 => ?_
  rw [u_runF]
  simp_arith []
  refine gain_no_ware ru kn23 kn.2 fun S24 K24 => he2 _ _ cw fun S25 K25 => ?_
  rw [w2]
  have g25 := (K24.trans K25) _ _ (by simp) gA
  simp_arith [g25]
  have f20 : S20 c1 = Option.none := (K21.trans K22).fresh' hc1 (by simp)
  have kC : Keeps S20 (put S25 c1 (.lst ([.str "rumour"] ++ [.str "ware"]))) := (kA.trans (K24.trans K25)).putF f20
  have gC : put S25 c1 (.lst ([.str "rumour"] ++ [.str "ware"])) c1 = some (.lst ([.str "rumour"] ++ [.str "ware"])) := put_same
  generalize put S25 c1 (.lst ([.str "rumour"] ++ [.str "ware"])) = S26 at *
  refine ⟨⟨c1, _, rfl, gC⟩, ?_⟩
  refine lawtold_ok fun Q3 E3 T3 _ he3 => ?_
  rw [u_runF]
  simp_arith []
  refine best_no_rumour ((ko19.up K20).up kC) no fun S27 K27 => he3 _ _ cr fun S28 K28 => ?_
  rw [w1]
  have g28 := (K27.trans K28) _ _ (by simp) gC
  simp_arith [g28]
  have kD : Keeps S20 (put S28 c1 (.lst ([.str "rumour"] ++ [.str "ware"] ++ [.str "rumour"]))) := (kC.trans (K27.trans K28)).putF f20
  have gD : put S28 c1 (.lst ([.str "rumour"] ++ [.str "ware"] ++ [.str "rumour"])) c1 = some (.lst [.str "rumour", .str "ware", .str "rumour"]) := put_same
  generalize put S28 c1 (.lst ([.str "rumour"] ++ [.str "ware"] ++ [.str "rumour"])) = S29 at *
  refine ⟨by show 2 < sizeLine; decide, fun c2 hc2 => ?_⟩
  have kE : Keeps S29 (put S29 c2 (.lst [.str "rumour", .str "ware", .str "rumour"])) := Upd.new hc2
  have gE : put S29 c2 (.lst [.str "rumour", .str "ware", .str "rumour"]) c2 = some (.lst [.str "rumour", .str "ware", .str "rumour"]) := put_same
  have gF := kE _ _ (by simp) gD
  generalize put S29 c2 (.lst [.str "rumour", .str "ware", .str "rumour"]) = S30 at *
  have M30 := M20.up (kD.trans kE) (by simp) (by simp)
  have P := fun (Q : NQ) (E : Str → Option Addr → Sto → Prop) (T : TgQ Q E) => get_plain_ok (S := S30) (Q := Q) (E := E) (T := T) M30
  have eqs : eqT S30 (.ref c1) (.ref c2) = some true := eqT_s3 (by simp [str_ok]) (by simp [str_ok]) (by simp [str_ok]) gF gE
  simp_arith [eqs, Bool.not_true, M30.ins, mt_plain, P, eqT_d, mFs_no (m := m) (q := q) (f := "plain") (by decide)]
  exact hC _ _ ⟨_, _, _, _, _, _, _, _, _, _, _, _, _, _, rfl⟩

end K16

set_option Elab.async false
set_option linter.all false
set_option maxRecDepth 100000
set_option maxHeartbeats 0
namespace K16
open PySem PySem.Spec PyProof.Rows L2 N
theorem txt [TabList] {K : PySem.W.Frag} {h : Heap} {mg : Str → Option Value} (X : K.In h) (G : h.Ns mainGlobals mg) (c : He.SaysD fa fnl K) (e : ex K = true) : Txt K mg := by
  obtain ⟨e0, e⟩ := He.ba e
  obtain ⟨e1, e⟩ := He.ba e
  obtain ⟨e2, e⟩ := He.ba e
  obtain ⟨e3, e⟩ := He.ba e
  obtain ⟨e4, e⟩ := He.ba e
  obtain ⟨e5, e⟩ := He.ba e
  obtain ⟨e0, ei⟩ := He.ba e0
  refine ⟨kfW_ok e0, kxW_ok e0, kiW_ok ei, ?_, ?_, ?_, ?_, ?_, ?_, ?_, ?_, ?_, ?_, ?_, ?_, ?_, ?_, ?_, ?_, ?_, ?_, ?_, ?_, ?_, ?_, ?_, ?_, ?_, ?_, ?_, ?_, ?_, ?_, ?_, ?_, ?_, ?_, ?_, ?_, ?_, ?_, ?_, ?_, ?_, ?_, ?_, ?_, ?_, ?_, ?_, ?_, ?_, ?_, ?_, ?_, ?_, ?_, ?_, ?_, ?_, ?_, ?_, ?_, ?_, ?_, ?_, ?_, ?_, ?_, ?_, ?_, ?_, ?_, ?_, ?_, ?_, ?_, ?_, ?_, ?_, ?_, ?_, ?_, ?_, ?_, ?_, ?_, ?_, ?_, ?_, ?_, ?_, ?_, ?_, ?_, ?_, ?_, ?_, ?_, ?_, ?_, ?_, ?_, ?_, ?_, ?_, ?_, ?_, ?_, ?_, ?_, ?_, ?_, ?_, ?_, ?_, ?_, ?_, ?_, ?_, ?_, ?_, ?_, ?_, ?_, ?_, ?_, ?_, ?_, ?_, ?_, ?_, ?_, ?_, ?_, ?_, ?_, ?_, ?_, ?_, ?_, ?_, ?_, ?_, ?_, ?_, ?_, ?_, ?_, ?_, ?_, ?_, ?_, ?_, ?_, ?_, ?_, ?_, ?_⟩
  · exact He.free_ok X G (c.fact 0 (f := .free "ValueError") rfl)
  · exact He.free_ok X G (c.fact 1 (f := .free "abs") rfl)
  · exact He.free_ok X G (c.fact 2 (f := .free "all") rfl)
  · exact He.free_ok X G (c.fact 3 (f := .free "bool") rfl)
  · exact He.free_ok X G (c.fact 4 (f := .free "int") rfl)
  · exact He.free_ok X G (c.fact 5 (f := .free "isinstance") rfl)
  · exact He.free_ok X G (c.fact 6 (f := .free "len") rfl)
  · exact He.free_ok X G (c.fact 7 (f := .free "max") rfl)
  · exact He.free_ok X G (c.fact 8 (f := .free "min") rfl)
  · exact He.free_ok X G (c.fact 9 (f := .free "range") rfl)
  · exact He.free_ok X G (c.fact 10 (f := .free "str") rfl)
  · exact He.free_ok X G (c.fact 11 (f := .free "tuple") rfl)
  · exact He.glo_ok X G (c.fact 12 (f := .glo "BadCount") rfl)
  · exact c.fact 13 (f := .exc "BadCount") rfl
  · exact He.glo_ok X G (c.fact 14 (f := .glo "BadMaker") rfl)
  · exact c.fact 15 (f := .exc "BadMaker") rfl
  · exact He.glo_ok X G (c.fact 16 (f := .glo "BadRumour") rfl)
  · exact c.fact 17 (f := .exc "BadRumour") rfl
  · exact He.glo_ok X G (c.fact 18 (f := .glo "BadShares") rfl)
  · exact He.glo_ok X G (c.fact 19 (f := .glo "BadWare") rfl)
  · exact c.fact 20 (f := .exc "BadWare") rfl
  · exact He.int_ok X G (c.fact 21 (f := .int "MOST" 1000000000000) rfl)
  · exact He.int_ok X G (c.fact 22 (f := .int "MOST_BOTTOM" 10000) rfl)
  · exact He.int_ok X G (c.fact 23 (f := .int "MOST_RATE" 1000000) rfl)
  · exact He.int_ok X G (c.fact 24 (f := .int "MOST_WORTH" 1000000) rfl)
  · exact He.glo_ok X G (c.fact 25 (f := .glo "MartError") rfl)
  · exact He.glo_ok X G (c.fact 26 (f := .glo "NoLine") rfl)
  · exact He.glo_ok X G (c.fact 27 (f := .glo "NoName") rfl)
  · exact He.glo_ok X G (c.fact 28 (f := .glo "NoParting") rfl)
  · exact He.glo_ok X G (c.fact 29 (f := .glo "NoText") rfl)
  · exact He.glo_ok X G (c.fact 30 (f := .glo "Product") rfl)
  · exact He.glo_ok X G (c.fact 31 (f := .glo "Stretch") rfl)
  · exact He.glo_ok X G (c.fact 32 (f := .glo "Sum") rfl)
  · exact He.glo_ok X G (c.fact 33 (f := .glo "TooLittle") rfl)
  · exact He.glo_ok X G (c.fact 34 (f := .glo "TooMuch") rfl)
  · exact c.fact 35 (f := .exc "TooMuch") rfl
  · exact tupW_ok e1
  · exact He.glo_ok X G (c.fact 36 (f := .glo "WARES") rfl)
  · exact He.glo_ok X G (c.fact 37 (f := .glo "_law_cell_at") rfl)
  · exact He.glo_ok X G (c.fact 38 (f := .glo "_law_draw") rfl)
  · exact He.glo_ok X G (c.fact 39 (f := .glo "_law_due") rfl)
  · exact He.glo_ok X G (c.fact 40 (f := .glo "_law_least") rfl)
  · exact He.glo_ok X G (c.fact 41 (f := .glo "_law_mixed") rfl)
  · exact He.glo_ok X G (c.fact 42 (f := .glo "_law_odd_rumour") rfl)
  · exact He.glo_ok X G (c.fact 43 (f := .glo "_law_out") rfl)
  · exact He.glo_ok X G (c.fact 44 (f := .glo "_law_pays") rfl)
  · exact He.glo_ok X G (c.fact 45 (f := .glo "_law_plain") rfl)
  · exact He.glo_ok X G (c.fact 46 (f := .glo "_law_rumour") rfl)
  · exact He.glo_ok X G (c.fact 47 (f := .glo "_law_sides") rfl)
  · exact He.glo_ok X G (c.fact 48 (f := .glo "_law_state") rfl)
  · exact He.glo_ok X G (c.fact 49 (f := .glo "_law_told") rfl)
  · exact He.glo_ok X G (c.fact 50 (f := .glo "_law_word") rfl)
  · exact He.glo_ok X G (c.fact 51 (f := .glo "best_deal") rfl)
  · exact He.glo_ok X G (c.fact 52 (f := .glo "deals_of") rfl)
  · exact He.glo_ok X G (c.fact 53 (f := .glo "gain") rfl)
  · exact He.glo_ok X G (c.fact 54 (f := .glo "is_among") rfl)
  · exact He.glo_ok X G (c.fact 55 (f := .glo "is_due") rfl)
  · exact He.glo_ok X G (c.fact 56 (f := .glo "is_pair") rfl)
  · exact He.glo_ok X G (c.fact 57 (f := .glo "is_plain") rfl)
  · exact He.glo_ok X G (c.fact 58 (f := .glo "is_whole") rfl)
  · exact He.glo_ok X G (c.fact 59 (f := .glo "law") rfl)
  · exact He.glo_ok X G (c.fact 60 (f := .glo "least_terms") rfl)
  · exact He.glo_ok X G (c.fact 61 (f := .glo "maker_of") rfl)
  · exact He.glo_ok X G (c.fact 62 (f := .glo "need_count") rfl)
  · exact He.glo_ok X G (c.fact 63 (f := .glo "need_rumour") rfl)
  · exact He.glo_ok X G (c.fact 64 (f := .glo "need_ware") rfl)
  · exact He.glo_ok X G (c.fact 65 (f := .glo "product_coming") rfl)
  · exact He.glo_ok X G (c.fact 66 (f := .glo "product_wanted") rfl)
  · exact He.glo_ok X G (c.fact 67 (f := .glo "rounded_up") rfl)
  · exact c.def_ 0 (d := ⟨("_law_mixed", none), "_law_mixed", "_law_mixed", defArgs s__law_mixed, defBody s__law_mixed, defScope s__law_mixed, [], []⟩) rfl
  · exact c.def_ 1 (d := ⟨("_law_draw", none), "_law_draw", "_law_draw", defArgs s__law_draw, defBody s__law_draw, defScope s__law_draw, [], []⟩) rfl
  · exact c.def_ 2 (d := ⟨("_law_odd_rumour", none), "_law_odd_rumour", "_law_odd_rumour", defArgs s__law_odd_rumour, defBody s__law_odd_rumour, defScope s__law_odd_rumour, [], []⟩) rfl
  · exact c.def_ 3 (d := ⟨("_law_pays", none), "_law_pays", "_law_pays", defArgs s__law_pays, defBody s__law_pays, defScope s__law_pays, [], []⟩) rfl
  · exact c.def_ 4 (d := ⟨("_law_due", none), "_law_due", "_law_due", defArgs s__law_due, defBody s__law_due, defScope s__law_due, [], []⟩) rfl
  · exact c.def_ 5 (d := ⟨("_law_plain", none), "_law_plain", "_law_plain", defArgs s__law_plain, defBody s__law_plain, defScope s__law_plain, [], []⟩) rfl
  · exact c.def_ 6 (d := ⟨("_law_sides", none), "_law_sides", "_law_sides", defArgs s__law_sides, defBody s__law_sides, defScope s__law_sides, [], []⟩) rfl
  · exact c.def_ 7 (d := ⟨("_law_rumour", none), "_law_rumour", "_law_rumour", defArgs s__law_rumour, defBody s__law_rumour, defScope s__law_rumour, [], []⟩) rfl
  · exact c.def_ 8 (d := ⟨("_law_cell_at", none), "_law_cell_at", "_law_cell_at", defArgs s__law_cell_at, defBody s__law_cell_at, defScope s__law_cell_at, [], []⟩) rfl
  · exact c.def_ 9 (d := ⟨("_law_state", none), "_law_state", "_law_state", defArgs s__law_state, defBody s__law_state, defScope s__law_state, [], []⟩) rfl
  · exact c.def_ 10 (d := ⟨("_law_word", none), "_law_word", "_law_word", defArgs s__law_word, defBody s__law_word, defScope s__law_word, [], []⟩) rfl
  · exact c.def_ 11 (d := ⟨("_law_told", none), "_law_told", "_law_told", defArgs s__law_told, defBody s__law_told, defScope s__law_told, [], []⟩) rfl
  · exact c.def_ 12 (d := ⟨("rounded_up", none), "rounded_up", "rounded_up", defArgs s_rounded_up, defBody s_rounded_up, defScope s_rounded_up, [], []⟩) rfl
  · exact c.def_ 13 (d := ⟨("product_wanted", none), "product_wanted", "product_wanted", defArgs s_product_wanted, defBody s_product_wanted, defScope s_product_wanted, [], []⟩) rfl
  · exact c.def_ 14 (d := ⟨("is_whole", none), "is_whole", "is_whole", defArgs s_is_whole, defBody s_is_whole, defScope s_is_whole, [], []⟩) rfl
  · exact c.def_ 15 (d := ⟨("need_count", none), "need_count", "need_count", defArgs s_need_count, defBody s_need_count, defScope s_need_count, [], []⟩) rfl
  · exact c.def_ 16 (d := ⟨("need_ware", none), "need_ware", "need_ware", defArgs s_need_ware, defBody s_need_ware, defScope s_need_ware, [], []⟩) rfl
  · exact c.def_ 17 (d := ⟨("product_coming", none), "product_coming", "product_coming", defArgs s_product_coming, defBody s_product_coming, defScope s_product_coming, [], []⟩) rfl
  · exact c.def_ 18 (d := ⟨("deals_of", none), "deals_of", "deals_of", defArgs s_deals_of, defBody s_deals_of, defScope s_deals_of, [], []⟩) rfl
  · exact c.def_ 19 (d := ⟨("need_rumour", none), "need_rumour", "need_rumour", defArgs s_need_rumour, defBody s_need_rumour, defScope s_need_rumour, [], []⟩) rfl
  · exact c.def_ 20 (d := ⟨("gain", none), "gain", "gain", defArgs s_gain, defBody s_gain, defScope s_gain, [], []⟩) rfl
  · exact c.def_ 21 (d := ⟨("best_deal", none), "best_deal", "best_deal", defArgs s_best_deal, defBody s_best_deal, defScope s_best_deal, [], []⟩) rfl
  · exact c.def_ 22 (d := ⟨("is_among", none), "is_among", "is_among", defArgs s_is_among, defBody s_is_among, defScope s_is_among, [], []⟩) rfl
  · exact c.def_ 23 (d := ⟨("is_pair", none), "is_pair", "is_pair", defArgs s_is_pair, defBody s_is_pair, defScope s_is_pair, [], []⟩) rfl
  · exact c.def_ 24 (d := ⟨("is_due", none), "is_due", "is_due", defArgs s_is_due, defBody s_is_due, defScope s_is_due, [], []⟩) rfl
  · exact c.def_ 25 (d := ⟨("is_plain", none), "is_plain", "is_plain", defArgs s_is_plain, defBody s_is_plain, defScope s_is_plain, [], []⟩) rfl
  · exact c.def_ 26 (d := ⟨("maker_of", none), "maker_of", "maker_of", defArgs s_maker_of, defBody s_maker_of, defScope s_maker_of, [], []⟩) rfl
  · exact c.def_ 27 (d := ⟨("law", none), "law", "law", defArgs s_law, defBody s_law, defScope s_law, [], []⟩) rfl
  · exact clsW_ok e2
  · exact He.mkr_ok (c.fact 68 (f := .mkr "Product") rfl)
  · exact c.def_ 28 (d := ⟨("Product", some "__init__"), "__init__", "Maker.__init__", defArgs s_Maker___init__, defBody s_Maker___init__, defScope s_Maker___init__, [], []⟩) rfl
  · exact clsW_ok e3
  · exact He.mkr_ok (c.fact 69 (f := .mkr "Stretch") rfl)
  · exact c.def_ 29 (d := ⟨("Stretch", some "__init__"), "__init__", "Maker.__init__", defArgs s_Maker___init__, defBody s_Maker___init__, defScope s_Maker___init__, [], []⟩) rfl
  · exact clsW_ok e4
  · exact He.mkr_ok (c.fact 70 (f := .mkr "Sum") rfl)
  · exact c.def_ 30 (d := ⟨("Sum", some "__init__"), "__init__", "Maker.__init__", defArgs s_Maker___init__, defBody s_Maker___init__, defScope s_Maker___init__, [], []⟩) rfl
  · exact He.meth_ok (c.fact 71 (f := .meth "Product" "called") rfl)
  · exact c.def_ 31 (d := ⟨("Product", some "called"), "called", "Maker.called", defArgs s_Maker_called, defBody s_Maker_called, defScope s_Maker_called, [], []⟩) rfl
  · exact He.meth_ok (c.fact 72 (f := .meth "Stretch" "called") rfl)
  · exact c.def_ 32 (d := ⟨("Stretch", some "called"), "called", "Stretch.called", defArgs s_Stretch_called, defBody s_Stretch_called, defScope s_Stretch_called, [], []⟩) rfl
  · exact He.meth_ok (c.fact 73 (f := .meth "Sum" "called") rfl)
  · exact c.def_ 33 (d := ⟨("Sum", some "called"), "called", "Sum.called", defArgs s_Sum_called, defBody s_Sum_called, defScope s_Sum_called, [], []⟩) rfl
  · exact He.meth_ok (c.fact 74 (f := .meth "Product" "coming") rfl)
  · exact c.def_ 34 (d := ⟨("Product", some "coming"), "coming", "Product.coming", defArgs s_Product_coming, defBody s_Product_coming, defScope s_Product_coming, [], []⟩) rfl
  · exact He.meth_ok (c.fact 75 (f := .meth "Stretch" "coming") rfl)
  · exact c.def_ 35 (d := ⟨("Stretch", some "coming"), "coming", "Stretch.coming", defArgs s_Stretch_coming, defBody s_Stretch_coming, defScope s_Stretch_coming, [], []⟩) rfl
  · exact He.meth_ok (c.fact 76 (f := .meth "Sum" "coming") rfl)
  · exact c.def_ 36 (d := ⟨("Sum", some "coming"), "coming", "Sum.coming", defArgs s_Sum_coming, defBody s_Sum_coming, defScope s_Sum_coming, [], []⟩) rfl
  · exact He.meth_ok (c.fact 77 (f := .meth "Product" "haves") rfl)
  · exact c.def_ 37 (d := ⟨("Product", some "haves"), "haves", "Maker.haves", defArgs s_Maker_haves, defBody s_Maker_haves, defScope s_Maker_haves, [], []⟩) rfl
  · exact He.meth_ok (c.fact 78 (f := .meth "Stretch" "haves") rfl)
  · exact c.def_ 38 (d := ⟨("Stretch", some "haves"), "haves", "Maker.haves", defArgs s_Maker_haves, defBody s_Maker_haves, defScope s_Maker_haves, [], []⟩) rfl
  · exact He.meth_ok (c.fact 79 (f := .meth "Sum" "haves") rfl)
  · exact c.def_ 39 (d := ⟨("Sum", some "haves"), "haves", "Maker.haves", defArgs s_Maker_haves, defBody s_Maker_haves, defScope s_Maker_haves, [], []⟩) rfl
  · exact He.meth_ok (c.fact 80 (f := .meth "Product" "is_dealt") rfl)
  · exact c.def_ 40 (d := ⟨("Product", some "is_dealt"), "is_dealt", "Maker.is_dealt", defArgs s_Maker_is_dealt, defBody s_Maker_is_dealt, defScope s_Maker_is_dealt, [], []⟩) rfl
  · exact He.meth_ok (c.fact 81 (f := .meth "Stretch" "is_dealt") rfl)
  · exact c.def_ 41 (d := ⟨("Stretch", some "is_dealt"), "is_dealt", "Maker.is_dealt", defArgs s_Maker_is_dealt, defBody s_Maker_is_dealt, defScope s_Maker_is_dealt, [], []⟩) rfl
  · exact He.meth_ok (c.fact 82 (f := .meth "Sum" "is_dealt") rfl)
  · exact c.def_ 42 (d := ⟨("Sum", some "is_dealt"), "is_dealt", "Maker.is_dealt", defArgs s_Maker_is_dealt, defBody s_Maker_is_dealt, defScope s_Maker_is_dealt, [], []⟩) rfl
  · exact He.meth_ok (c.fact 83 (f := .meth "Product" "least_for") rfl)
  · exact c.def_ 43 (d := ⟨("Product", some "least_for"), "least_for", "Maker.least_for", defArgs s_Maker_least_for, defBody s_Maker_least_for, defScope s_Maker_least_for, [], []⟩) rfl
  · exact He.meth_ok (c.fact 84 (f := .meth "Stretch" "least_for") rfl)
  · exact c.def_ 44 (d := ⟨("Stretch", some "least_for"), "least_for", "Maker.least_for", defArgs s_Maker_least_for, defBody s_Maker_least_for, defScope s_Maker_least_for, [], []⟩) rfl
  · exact He.meth_ok (c.fact 85 (f := .meth "Sum" "least_for") rfl)
  · exact c.def_ 45 (d := ⟨("Sum", some "least_for"), "least_for", "Maker.least_for", defArgs s_Maker_least_for, defBody s_Maker_least_for, defScope s_Maker_least_for, [], []⟩) rfl
  · exact He.meth_ok (c.fact 86 (f := .meth "Product" "plain") rfl)
  · exact c.def_ 46 (d := ⟨("Product", some "plain"), "plain", "Maker.plain", defArgs s_Maker_plain, defBody s_Maker_plain, defScope s_Maker_plain, [], []⟩) rfl
  · exact He.meth_ok (c.fact 87 (f := .meth "Stretch" "plain") rfl)
  · exact c.def_ 47 (d := ⟨("Stretch", some "plain"), "plain", "Maker.plain", defArgs s_Maker_plain, defBody s_Maker_plain, defScope s_Maker_plain, [], []⟩) rfl
  · exact He.meth_ok (c.fact 88 (f := .meth "Sum" "plain") rfl)
  · exact c.def_ 48 (d := ⟨("Sum", some "plain"), "plain", "Maker.plain", defArgs s_Maker_plain, defBody s_Maker_plain, defScope s_Maker_plain, [], []⟩) rfl
  · exact He.meth_ok (c.fact 89 (f := .meth "Stretch" "propped") rfl)
  · exact c.def_ 49 (d := ⟨("Stretch", some "propped"), "propped", "Stretch.propped", defArgs s_Stretch_propped, defBody s_Stretch_propped, defScope s_Stretch_propped, [], []⟩) rfl
  · exact He.meth_ok (c.fact 90 (f := .meth "Product" "told") rfl)
  · exact c.def_ 50 (d := ⟨("Product", some "told"), "told", "Maker.told", defArgs s_Maker_told, defBody s_Maker_told, defScope s_Maker_told, [], []⟩) rfl
  · exact He.meth_ok (c.fact 91 (f := .meth "Stretch" "told") rfl)
  · exact c.def_ 51 (d := ⟨("Stretch", some "told"), "told", "Maker.told", defArgs s_Maker_told, defBody s_Maker_told, defScope s_Maker_told, [], []⟩) rfl
  · exact He.meth_ok (c.fact 92 (f := .meth "Sum" "told") rfl)
  · exact c.def_ 52 (d := ⟨("Sum", some "told"), "told", "Maker.told", defArgs s_Maker_told, defBody s_Maker_told, defScope s_Maker_told, [], []⟩) rfl
  · exact He.meth_ok (c.fact 93 (f := .meth "Product" "wanted") rfl)
  · exact c.def_ 53 (d := ⟨("Product", some "wanted"), "wanted", "Product.wanted", defArgs s_Product_wanted, defBody s_Product_wanted, defScope s_Product_wanted, [], []⟩) rfl
  · exact He.meth_ok (c.fact 94 (f := .meth "Stretch" "wanted") rfl)
  · exact c.def_ 54 (d := ⟨("Stretch", some "wanted"), "wanted", "Stretch.wanted", defArgs s_Stretch_wanted, defBody s_Stretch_wanted, defScope s_Stretch_wanted, [], []⟩) rfl
  · exact He.meth_ok (c.fact 95 (f := .meth "Sum" "wanted") rfl)
  · exact c.def_ 55 (d := ⟨("Sum", some "wanted"), "wanted", "Sum.wanted", defArgs s_Sum_wanted, defBody s_Sum_wanted, defScope s_Sum_wanted, [], []⟩) rfl
theorem tabs_of {K : PySem.W.Frag} (e : ex K = true) : tabsB LN K = true := by
  obtain ⟨_, e⟩ := He.ba e
  obtain ⟨_, e⟩ := He.ba e
  obtain ⟨_, e⟩ := He.ba e
  obtain ⟨_, e⟩ := He.ba e
  obtain ⟨_, e⟩ := He.ba e
  exact (He.ba e).1
theorem walk (plain : ∀ ns : List Int, ns.length ≤ 63 → sp_law [.rol (ns.map D.int)] (fun _ => none) (fun d _ => d = .bl true) (fun _ _ _ => False)) : PySem.Challenge.rw_rumourmart_k16_gains.Holds := by
  w_on; o_law
  refine HandSHeadRun.head_any (r := PySem.W.OpenLaw.row PySem.Challenge.rw_rumourmart_k16_gains) (q := PySem.W.view (PySem.W.OpenLaw.row PySem.Challenge.rw_rumourmart_k16_gains).prog [58]) (H := hk) (ob := ob) (M := 20000) (loose := names) (d := HandSHeadRun.topDef (PySem.W.OpenLaw.row PySem.Challenge.rw_rumourmart_k16_gains).prog 58) (kwd := []) ob_eq
    (by kernel_rfl) (fun s => by kernel_rfl) run (by kernel_rfl) (by kernel_rfl) (by kernel_rfl) (by rfl) (by first | assumption | decide +kernel) (by decide +kernel) ⟨rfl, rfl, rfl, rfl, rfl, by decide +kernel⟩ ?hw ?hc
  case hw => w_witness2
  case hc =>
    refine walk_ofTN LN (l := PySem.Challenge.rw_rumourmart_k16_gains) (k := 9) (x := "_law_script") (sp := sp_law) rfl (by kernel_rfl) ⟨rfl, by decide, by decide⟩ (by kernel_rfl) plain ?F
    intro w mg fa' h Y G hmg0
    obtain ⟨K, KX, c, e⟩ := Y
    have hmg : mg ("law" : PySem.Str) = some (.ref fa') := by
      have e : (HandSHeadRun.topDef (PySem.W.OpenLaw.row PySem.Challenge.rw_rumourmart_k16_gains).prog 58).name = ("law" : PySem.Str) := by kernel_rfl
      rw [← e]
      exact hmg0
    letI : TabList := ⟨tabsL LN K⟩
    have T : Txt K mg := txt KX G c e
    have ea := hmg.symm.trans T.g_law
    cases ea
    obtain ⟨fd, F⟩ := T.d_law
    refine ⟨K, fd, KX, tabs_of e, fun s v => (FunD.bindsA (ps := ["_law_script"]) F fun _ _ _ _ _ _ us hl => match us, hl with | [_], _ => rfl) s [v] rfl, fun base _ _ lt => ok_law F ⟨T, lt⟩⟩
end K16

theorem PySem.Challenge.cw_rumourmart_k16_gains_holds : PySem.Challenge.rw_rumourmart_k16_gains.Holds :=
  K16.walk K16.law_ok
