import PyProof.Rows.All
import Wide.All
import OpenK.AllK
import Wide.FinOn
import HandS.ForMost
import HandS.ForExc
import HandS.Lambda
import HandS.Wide
import HandS.DeepEq
import HandS.Star
import HandS.Defaults
import HandS.TryOnly
import HandS.Iter
import HandS.Zip
import HandS.Deep
import HandS.Style
import HandS.TupAny
import HandS.TupMul
import HandS.TupLe
import HandS.IsInst
import HandS.WideBits
import HandS.Small
import KE.KExcSuper
import HandS.ExcInit
import HandS.ExcField
import PyProof.ReprRoads
import HandS.RaiseMore
import KE.KDflt
import HandS.Zip0
import PyProof.Draws
import KE.GoesMore
import HandS.More
import KE.SortData
import HandS.TupSets
import HandS.Strs
import HandS.ExcValue
import HandS.ExcIs
import KE.KExcIs
import HandS.Dict
import HandS.Evl
import HandS.Words
import HandS.HeadHook4
import HandS.HeadWalk
import KE.KStateDown
import HandS.Head0
import HandS.Head1
import HandS.Head2
import PySem.Challenge.RW_trueroom_k00_whole_errors_of_the_package
/-! part EvA -/
section
set_option Elab.async false
set_option linter.all false
set_option maxRecDepth 100000
set_option maxHeartbeats 4000000
/-! EvA: data, states, the relation to the layer's values and heap. -/
noncomputable section
namespace Ev
open PySem PySem.Spec PyProof.Rows L2

/-- data as a tree; ref n: the n-th object of the state (a list or dict that may change); fl, fd: a list, a dict that no one changes any more;
   sym n: a letter; rep d: the text that repr gives of d; unb: an unbound name -/
inductive D where
  | unb | non | bl (b : Bool) | int (i : Int) | str (x : Str) | ty (n : String)
  | tup (l : List D) | fl (l : List D) | fd (ks : List Key) (vs : List D)
  | ref (n : Nat) | glob (x : Str) | sym (n : Nat) | rep (d : D) | tm (l : List D) | xo (c : Nat) (l : List D)
/-- what stands in the state -/
inductive O where
  | lst (l : List D) | fz (l : List D) | dK (kvs : List (Key × D)) | dT (kvs : List (List Key × D)) | bag | hid
/-- letters so far, the next object's number, the objects, newest first -/
inductive S where
  | mk (nl no : Nat) (os : List (Nat × O))
def S.nl : S → Nat | .mk a _ _ => a
def S.no : S → Nat | .mk _ b _ => b
def S.os : S → List (Nat × O) | .mk _ _ c => c
def osGet (l : List (Nat × O)) (n : Nat) : Option O := List.rec (motive := fun _ => Option O) none (fun p _ ih => Prod.rec (motive := fun _ => Option O) (fun i o => Bool.rec (motive := fun _ => Option O) ih (some o) (Nat.beq i n)) p) l
def osSet (l : List (Nat × O)) (n : Nat) (o' : O) : List (Nat × O) := List.rec (motive := fun _ => List (Nat × O)) [] (fun p r ih => Prod.rec (motive := fun _ => List (Nat × O)) (fun i o => Bool.rec (motive := fun _ => List (Nat × O)) ((i, o) :: ih) ((i, o') :: r) (Nat.beq i n)) p) l
def O.wr : O → Bool
  | .fz _ => false
  | .hid => false
  | _ => true

/-- where objects stand, what letters mean -/
structure Md where
  ρ : Nat → Addr
  ν : Nat → D
/-- what the evaluator may write; where its objects stand -/
def Wr (m : Md) (s : S) (b : Addr) : Prop := ∃ i o, osGet s.os i = some o ∧ o.wr = true ∧ m.ρ i = b
def Al (m : Md) (s : S) (b : Addr) : Prop := ∃ i o, osGet s.os i = some o ∧ m.ρ i = b
theorem Wr.al {m : Md} {s : S} {b : Addr} (h : Wr m s b) : Al m s b := let ⟨i, o, e, _, q⟩ := h; ⟨i, o, e, q⟩

mutual
/-- closed data -/
def RD0 (K : PySem.W.Frag) (W : Addr → Prop) (H : Hp) : D → V → Prop
  | .non, v => v = .non
  | .bl b, v => v = .bl b
  | .int i, v => v = .int i
  | .str x, v => v = .str x
  | .ty n, v => v = .ty n
  | .tup l, v => ∃ a xs, v = .ref a ∧ SqT K H a xs ∧ RD0s K W H l xs
  | .fl l, v => ∃ a xs, v = .ref a ∧ H a = some (.lst xs) ∧ ¬ W a ∧ RD0s K W H l xs
  | .fd ks vs, v => ∃ a, v = .ref a ∧ ¬ W a ∧ ((ks = [] ∧ vs = [] ∧ H a = some (.dT [])) ∨ ∃ ws, H a = some (.dK (ks.zip ws)) ∧ ks.length = ws.length ∧ RD0s K W H vs ws)
  | _, _ => False
def RD0s (K : PySem.W.Frag) (W : Addr → Prop) (H : Hp) : List D → List V → Prop
  | [], xs => xs = []
  | d :: ds, xs => ∃ x r, xs = x :: r ∧ RD0 K W H d x ∧ RD0s K W H ds r
end
mutual
/-- closed data as the library's -/
def toPy : D → Option PyData
  | .non => some .none
  | .bl b => some (.bool b)
  | .int i => some (.int i)
  | .str x => some (.str x)
  | .tup l => (toPys l).map PyData.tuple
  | .fl l => (toPys l).map PyData.list
  | .fd ks vs => (toPys vs).map fun ps => PyData.dict ((ks.map fun k => match k with | .inl i => PyData.int i | .inr x => PyData.str x).zip ps)
  | _ => none
def toPys : List D → Option (List PyData)
  | [] => some []
  | d :: ds => match toPy d, toPys ds with
    | some p, some ps => some (p :: ps)
    | _, _ => none
end
/-- what is fixed for a law -/
structure Bs where
  P : Program
  w : World
  base : Heap
  cls : Nat → Str
  fld : Nat → Str
  K : PySem.W.Frag
  mg : Str → Option Value
  T : List (Addr × Str)
  kd : Nat → List D
  kdr : ∀ i, ∀ d ∈ kd i, (∃ p, toPy d = some p) ∧ ∀ p, toPy d = some p → PyData.strOk p.shown = true ∧ p.showable = true ∧ p.shown.length ≤ 1000000 ∧ p.depth ≤ 60 ∧ (∀ n, d = .int n → n.natAbs.log2 < 1920) ∧ (p.hasDict = true → d = .fd [] [])

mutual
/-- letters put in -/
def sub (ν : Nat → D) : D → D
  | .tup l => .tup (subs ν l)
  | .fl l => .fl (subs ν l)
  | .fd ks vs => .fd ks (subs ν vs)
  | .sym n => ν n
  | d => d
def subs (ν : Nat → D) : List D → List D
  | [] => []
  | d :: ds => sub ν d :: subs ν ds
end
mutual
/-- the letters of d are among the first nl, no object is named in it -/
def lb (nl : Nat) : D → Prop
  | .tup l => lbs nl l
  | .fl l => lbs nl l
  | .fd _ vs => lbs nl vs
  | .sym n => n < nl
  | _ => True
def lbs (nl : Nat) : List D → Prop
  | [] => True
  | d :: ds => lb nl d ∧ lbs nl ds
end
/-- a text and what repr gives, told together -/
def catOf : D → Option (Str × D)
  | .tup [.unb, .str w, d] => some (w, d)
  | _ => none
def txt (d : D) : Option Str := match catOf d with
  | some (w, e) => (toPy e).map fun p => w ++ p.shown
  | none => (toPy d).map PyData.shown
theorem txt_py {d : D} {p : PyData} (h : toPy d = some p) : txt d = some p.shown := by
  unfold txt
  cases e : catOf d with
  | none =>
    show (toPy d).map PyData.shown = _
    rw [h]
    rfl
  | some q =>
    unfold catOf at e
    split at e
    · rename_i w d'
      have z : (toPys [.unb, .str w, d']).map PyData.tuple = some p := h
      have z2 : toPys [.unb, .str w, d'] = none := rfl
      rw [z2] at z
      cases z
    · cases e
/-- an exception, not caught: C its class, d its dict -/
def ExF (C : Addr) (d : Option Addr) (a : Addr) : HO := .ext fun h => ∃ (oe : Obj) (vs : Array Value), h.get? a = some oe ∧ Zc (.ref C) d oe ∧ oe.data = .fields vs
def XoH (H : Hp) (a C : Addr) (f : Str) (xs : List V) : Prop := (xs = [] ∧ H a = some (ExF C none a)) ∨ ∃ dd x, xs = [x] ∧ H a = some (ExF C (some dd) a) ∧ H dd = some (.xd [(f, x)])
mutual
/-- v is what d says -/
def RD (B : Bs) (m : Md) (nl no : Nat) (W : Addr → Prop) (H : Hp) : D → V → Prop
  | .unb, _ => False
  | .non, v => v = .non
  | .bl b, v => v = .bl b
  | .int i, v => v = .int i
  | .str x, v => v = .str x
  | .ty n, v => v = .ty n
  | .tup l, v => ∃ a xs, v = .ref a ∧ SqT B.K H a xs ∧ RDs B m nl no W H l xs
  | .fl l, v => ∃ a xs, v = .ref a ∧ H a = some (.lst xs) ∧ ¬ W a ∧ RDs B m nl no W H l xs
  | .fd ks vs, v => ∃ a, v = .ref a ∧ ¬ W a ∧ ((ks = [] ∧ vs = [] ∧ H a = some (.dT [])) ∨ ∃ ws, H a = some (.dK (ks.zip ws)) ∧ ks.length = ws.length ∧ RDs B m nl no W H vs ws)
  | .ref n, v => n < no ∧ v = .ref (m.ρ n)
  | .glob _, v => ∃ (a : Addr) (ns : List Int), v = .ref a ∧ ((H a = some (.lst (ns.map V.int)) ∧ ¬ W a) ∨ (∃ o, H a = some (.frz o (.lst (ns.map V.int)))) ∨ ∀ H2, SqL B.K H2 a (ns.map V.int)) ∧ ns.length ≤ sizeLine ∧ ∀ z ∈ ns, Builtin.Int.intBits z ≤ 1048576
  | .sym n, v => n < nl ∧ RD0 B.K W H (m.ν n) v
  | .rep d, v => lb nl d ∧ ∃ x, txt (sub m.ν d) = some x ∧ v = .str x
  | .tm l, v => ∃ a xs o, v = .ref a ∧ H a = some (.frz o (.tup xs)) ∧ o.dict = none ∧ RDs B m nl no W H l xs
  | .xo c l, v => ∃ a C xs, v = .ref a ∧ B.mg (B.cls c) = some (.ref C) ∧ XoH H a C (B.fld c) xs ∧ RDs B m nl no W H l xs
def RDs (B : Bs) (m : Md) (nl no : Nat) (W : Addr → Prop) (H : Hp) : List D → List V → Prop
  | [], xs => xs = []
  | d :: ds, xs => ∃ x r, xs = x :: r ∧ RD B m nl no W H d x ∧ RDs B m nl no W H ds r
end
/-- a dict whose keys are tuples, wherever these stand -/
def dxP (P : Program) (w : World) (a : Addr) (xs : List (List Key × Addr × V)) : Heap → Prop := fun h => xs.length ≤ sizeLine ∧ (a == sysModules) = false ∧ ∃ vs : List (List Key × Addr × Value),
  Paired (fun (x : List Key × Addr × V) (q : List Key × Addr × Value) => x.1 = q.1 ∧ x.2.1 = q.2.1 ∧ RelV x.2.2 q.2.2) xs vs ∧
  ∃ o es ep, h.get? a = some o ∧ o.ExactDict ∧ o.data = .dict es ep ∧ es.toList = vs.map (entryOfKey (tupleKind (mixKind P w))) ∧ (vs.map (·.1)).Nodup
def dxO (P : Program) (w : World) (a : Addr) (xs : List (List Key × Addr × V)) : HO := .ext (dxP P w a xs)
def DxAt (H : Hp) (b : Addr) : Prop := ∃ (φ : Heap → Prop) (h : Heap) (ob : Obj) (es : Array DictEntry) (ep : Nat), H b = some (.ext φ) ∧ φ h ∧ h.get? b = some ob ∧ ob.data = .dict es ep
theorem DxAt.of {P : Program} {w : World} {H : Hp} {a : Addr} {xs : List (List Key × Addr × V)} {h : Heap} (e : H a = some (dxO P w a xs)) (p : dxP P w a xs h) : DxAt H a := by
  have p' := p
  obtain ⟨_, _, vs, _, o, es, ep, h1, _, h2, _⟩ := p'
  exact ⟨_, h, o, es, ep, e, p, h1, h2⟩
theorem DxAt.noEx {H : Hp} {a C : Addr} {d : Option Addr} (x : DxAt H a) (e : H a = some (ExF C d a)) : False := by
  obtain ⟨φ, h, ob, es, ep, e1, p, e2, e3⟩ := x
  rw [e] at e1
  unfold ExF at e1
  cases e1
  obtain ⟨oe, vs, q1, _, q2⟩ := p
  rw [e2] at q1
  cases q1
  rw [e3] at q2
  cases q2
/-- nothing but a table stands there -/
def NT (H : Hp) (b : Addr) : Prop := ∀ o, H b = some o → ∃ ps, o = .tbl ps
section
variable {B : Bs} {m m' : Md} {nl no nl' no' : Nat} {Z W W' : Addr → Prop} {H H' : Hp}
/-- tuples, lists that stay: V is what may be written, W where objects stood, W' where they stand -/
structure Stay (V W W' : Addr → Prop) (H H' : Hp) : Prop where
  keep : ∀ b o, H b = some o → ¬ V b → (∀ ps, o ≠ .tbl ps) → H' b = some o
  le : ∀ b, V b → W b
  wsub : ∀ b, W' b → W b ∨ NT H b
  wobj : ∀ b, V b → (∃ xs, H b = some (.lst xs)) ∨ (∃ kvs, H b = some (.dK kvs)) ∨ (∃ kvs, H b = some (.dT kvs)) ∨ DxAt H b
theorem Stay.cold {V : Addr → Prop} (x : Stay V W W' H H') {b : Addr} {o : HO} (h : H b = some o) (n : ¬ W b) (t : ∀ ps, o ≠ .tbl ps) : ¬ W' b := fun z => by
  rcases x.wsub b z with q | q
  · exact n q
  · obtain ⟨ps, e⟩ := q o h
    exact t ps e
theorem Stay.lstk {V : Addr → Prop} (x : Stay V W W' H H') {b : Addr} {o : HO} (h : H b = some o) (n : ¬ W b) (t : ∀ ps, o ≠ .tbl ps) : H' b = some o := x.keep b o h (fun z => n (x.le b z)) t
theorem Stay.tup {V : Addr → Prop} (x : Stay V W W' H H') {b : Addr} {xs : List L2.V} (h : H b = some (.tup xs)) : H' b = some (.tup xs) := by
  refine x.keep b _ h (fun z => ?_) (fun ps z => by cases z)
  rcases x.wobj b z with ⟨_, q⟩ | ⟨_, q⟩ | ⟨_, q⟩ | ⟨_, _, _, _, _, q, _⟩ <;> rw [h] at q <;> cases q
theorem Stay.frz {V : Addr → Prop} (x : Stay V W W' H H') {b : Addr} {o : Obj} {u : HO} (h : H b = some (.frz o u)) : H' b = some (.frz o u) := by
  refine x.keep b _ h (fun z => ?_) (fun ps z => by cases z)
  rcases x.wobj b z with ⟨_, q⟩ | ⟨_, q⟩ | ⟨_, q⟩ | ⟨_, _, _, _, _, q, _⟩ <;> rw [h] at q <;> cases q
theorem Stay.xoH {V : Addr → Prop} (x : Stay V W W' H H') {a C : Addr} {f : Str} {xs : List L2.V} (h : XoH H a C f xs) : XoH H' a C f xs := by
  have k : ∀ b o, H b = some o → ((∃ C d, o = ExF C d b) ∨ ∃ fs, o = .xd fs) → H' b = some o := fun b o e z => by
    refine x.keep b _ e (fun z2 => ?_) (fun ps z2 => by rcases z with ⟨_, _, z⟩ | ⟨_, z⟩ <;> rw [z] at z2 <;> cases z2)
    rcases x.wobj b z2 with ⟨_, q⟩ | ⟨_, q⟩ | ⟨_, q⟩ | q
    · rw [e] at q; rcases z with ⟨_, _, z⟩ | ⟨_, z⟩ <;> rw [z] at q <;> cases q
    · rw [e] at q; rcases z with ⟨_, _, z⟩ | ⟨_, z⟩ <;> rw [z] at q <;> cases q
    · rw [e] at q; rcases z with ⟨_, _, z⟩ | ⟨_, z⟩ <;> rw [z] at q <;> cases q
    · rcases z with ⟨_, _, z⟩ | ⟨_, z⟩
      · exact q.noEx (by rw [e, z])
      · obtain ⟨_, _, _, _, _, q, _⟩ := q
        rw [e, z] at q
        cases q
  rcases h with ⟨e, q⟩ | ⟨dd, y, e, q, q2⟩
  · exact .inl ⟨e, k _ _ q (.inl ⟨_, _, rfl⟩)⟩
  · exact .inr ⟨dd, y, e, k _ _ q (.inl ⟨_, _, rfl⟩), k _ _ q2 (.inr ⟨_, rfl⟩)⟩
theorem Stay.sqT {V : Addr → Prop} {K : PySem.W.Frag} (x : Stay V W W' H H') {a : Addr} {xs : List L2.V} (h : SqT K H a xs) : SqT K H' a xs := by
  rcases h with (h | ⟨o, h⟩) | h
  · exact .inl (.inl (x.tup h))
  · exact .inl (.inr ⟨o, x.frz h⟩)
  · exact .inr h
mutual
theorem RD0.stay {K : PySem.W.Frag} (x : Stay Z W W' H H') : ∀ {d : D} {v : V}, RD0 K W H d v → RD0 K W' H' d v
  | .unb, _, h => h
  | .non, _, h => h
  | .bl _, _, h => h
  | .int _, _, h => h
  | .str _, _, h => h
  | .ty _, _, h => h
  | .tup l, _, ⟨a, xs, e, q, r⟩ => ⟨a, xs, e, x.sqT q, RD0s.stay x r⟩
  | .fl l, _, ⟨a, xs, e, q, n, r⟩ => ⟨a, xs, e, x.lstk q n (fun ps z => by cases z), x.cold q n (fun ps z => by cases z), RD0s.stay x r⟩
  | .fd ks vs, _, ⟨a, e, n, h⟩ => ⟨a, e, by
      rcases h with ⟨_, _, q⟩ | ⟨ws, q, _, _⟩ <;> exact x.cold q n (fun ps z => by cases z), by
      rcases h with ⟨e1, e2, q⟩ | ⟨ws, q, l, r⟩
      · exact .inl ⟨e1, e2, x.lstk q n (fun ps z => by cases z)⟩
      · exact .inr ⟨ws, x.lstk q n (fun ps z => by cases z), l, RD0s.stay x r⟩⟩
  | .ref _, _, h => h
  | .glob _, _, h => h
  | .sym _, _, h => h
  | .rep _, _, h => h
  | .tm _, _, h => h
  | .xo _ _, _, h => h
theorem RD0s.stay {K : PySem.W.Frag} (x : Stay Z W W' H H') : ∀ {ds : List D} {vs : List V}, RD0s K W H ds vs → RD0s K W' H' ds vs
  | [], _, h => h
  | _ :: _, _, ⟨y, r, e, h, t⟩ => ⟨y, r, e, RD0.stay x h, RD0s.stay x t⟩
end
mutual
theorem lb.mono (h : nl ≤ nl') : ∀ {d : D}, lb nl d → lb nl' d
  | .tup l, x => lbs.mono h (d := l) x
  | .fl l, x => lbs.mono h (d := l) x
  | .fd _ vs, x => lbs.mono h (d := vs) x
  | .sym n, x => Nat.lt_of_lt_of_le x h
  | .unb, x => x | .non, x => x | .bl _, x => x | .int _, x => x | .str _, x => x | .ty _, x => x
  | .ref _, x => x | .glob _, x => x | .rep _, x => x | .tm _, x => x | .xo _ _, x => x
theorem lbs.mono (h : nl ≤ nl') : ∀ {d : List D}, lbs nl d → lbs nl' d
  | [], x => x
  | _ :: _, ⟨a, b⟩ => ⟨lb.mono h a, lbs.mono h b⟩
end
mutual
theorem sub_eq {ν ν' : Nat → D} (e : ∀ i, i < nl → ν' i = ν i) : ∀ {d : D}, lb nl d → sub ν' d = sub ν d
  | .tup l, x => congrArg D.tup (subs_eq e (d := l) x)
  | .fl l, x => congrArg D.fl (subs_eq e (d := l) x)
  | .fd ks vs, x => congrArg (D.fd ks) (subs_eq e (d := vs) x)
  | .sym n, x => e n x
  | .unb, x => rfl | .non, x => rfl | .bl _, x => rfl | .int _, x => rfl | .str _, x => rfl | .ty _, x => rfl
  | .ref _, x => rfl | .glob _, x => rfl | .rep _, x => rfl | .tm _, x => rfl | .xo _ _, x => rfl
theorem subs_eq {ν ν' : Nat → D} (e : ∀ i, i < nl → ν' i = ν i) : ∀ {d : List D}, lbs nl d → subs ν' d = subs ν d
  | [], x => rfl
  | d :: ds, ⟨a, b⟩ => by
    show sub ν' d :: subs ν' ds = sub ν d :: subs ν ds
    rw [sub_eq e a, subs_eq e b]
end
/-- more letters, more objects, the same ones as before -/
structure More (m m' : Md) (nl nl' no no' : Nat) : Prop where
  nle : no ≤ no'
  lle : nl ≤ nl'
  rho : ∀ i, i < no → m'.ρ i = m.ρ i
  nu : ∀ i, i < nl → m'.ν i = m.ν i
mutual
theorem RD.stay (x : Stay Z W W' H H') (q : More m m' nl nl' no no') : ∀ {d : D} {v : V}, RD B m nl no W H d v → RD B m' nl' no' W' H' d v
  | .unb, _, h => h
  | .non, _, h => h
  | .bl _, _, h => h
  | .int _, _, h => h
  | .str _, _, h => h
  | .ty _, _, h => h
  | .tup l, _, ⟨a, xs, e, z, r⟩ => ⟨a, xs, e, x.sqT z, RDs.stay x q r⟩
  | .fl l, _, ⟨a, xs, e, z, n, r⟩ => ⟨a, xs, e, x.lstk z n (fun ps z => by cases z), x.cold z n (fun ps z => by cases z), RDs.stay x q r⟩
  | .fd ks vs, _, ⟨a, e, n, h⟩ => ⟨a, e, by
      rcases h with ⟨_, _, q⟩ | ⟨ws, q, _, _⟩ <;> exact x.cold q n (fun ps z => by cases z), by
      rcases h with ⟨e1, e2, z⟩ | ⟨ws, z, l, r⟩
      · exact .inl ⟨e1, e2, x.lstk z n (fun ps z => by cases z)⟩
      · exact .inr ⟨ws, x.lstk z n (fun ps z => by cases z), l, RDs.stay x q r⟩⟩
  | .ref n, _, ⟨h1, h2⟩ => ⟨Nat.lt_of_lt_of_le h1 q.nle, by rw [h2, q.rho n h1]⟩
  | .glob _, _, ⟨a, ns, e, h, l⟩ => ⟨a, ns, e, by
      rcases h with ⟨h, n⟩ | ⟨o, h⟩ | h
      · exact .inl ⟨x.lstk h n (fun ps z => by cases z), x.cold h n (fun ps z => by cases z)⟩
      · exact .inr (.inl ⟨o, x.frz h⟩)
      · exact .inr (.inr h), l⟩
  | .sym n, _, ⟨h1, h2⟩ => ⟨Nat.lt_of_lt_of_le h1 q.lle, by rw [q.nu n h1]; exact h2.stay x⟩
  | .rep d, _, ⟨h0, p, h1, h2⟩ => ⟨h0.mono q.lle, p, by rw [sub_eq q.nu h0]; exact h1, h2⟩
  | .tm l, _, ⟨a, xs, o, e, z, n, r⟩ => ⟨a, xs, o, e, x.frz z, n, RDs.stay x q r⟩
  | .xo _ l, _, ⟨a, C, xs, e, g, z, r⟩ => ⟨a, C, xs, e, g, x.xoH z, RDs.stay x q r⟩
theorem RDs.stay (x : Stay Z W W' H H') (q : More m m' nl nl' no no') : ∀ {ds : List D} {vs : List V}, RDs B m nl no W H ds vs → RDs B m' nl' no' W' H' ds vs
  | [], _, h => h
  | _ :: _, _, ⟨y, r, e, h, t⟩ => ⟨y, r, e, RD.stay x q h, RDs.stay x q t⟩
end
end

/-! ### the state -/
section
variable (B : Bs) (m : Md) (s : S) (H : Hp)
abbrev RDw (d : D) (v : V) : Prop := RD B m s.nl s.no (Al m s) H d v
abbrev RDws (d : List D) (v : List V) : Prop := RDs B m s.nl s.no (Al m s) H d v
/-- a dict's entries -/
def KP {κ : Type} : List (κ × D) → List (κ × V) → Prop
  | [], ws => ws = []
  | (k, d) :: r, ws => ∃ v t, ws = (k, v) :: t ∧ RDw B m s H d v ∧ KP r t
/-- the entries of a dict with tuple keys -/
def DX : List (List Key × D) → List (List Key × Addr × V) → Prop
  | [], xs => xs = []
  | (k, d) :: r, xs => ∃ b v t, xs = (k, b, v) :: t ∧ SqT B.K H b (k.map kV) ∧ RDw B m s H d v ∧ DX r t
/-- .. the dict: an empty one stands as such -/
def DTR (a : Addr) (kvs : List (List Key × D)) : Prop := (kvs = [] ∧ H a = some (.dT [])) ∨ ∃ xs h, kvs ≠ [] ∧ H a = some (dxO B.P B.w a xs) ∧ dxP B.P B.w a xs h ∧ DX B m s H kvs xs
def OR (a : Addr) : O → Prop
  | .lst l => ∃ xs, H a = some (.lst xs) ∧ RDws B m s H l xs
  | .fz l => ∃ xs, H a = some (.lst xs) ∧ RDws B m s H l xs
  | .dK kvs => ∃ ws, H a = some (.dK ws) ∧ KP B m s H kvs ws
  | .dT kvs => DTR B m s H a kvs
  | .hid => ∃ xs, H a = some (.lst xs)
  | .bag => ∃ x y z : Int, H a = some (.lst [.int x, .int y, .int z])
structure AR : Prop where
  desc : (s.os.map (·.1)).Pairwise (fun a b => b < a)
  num : ∀ i o, osGet s.os i = some o → i < s.no
  inj : ∀ i j o o', osGet s.os i = some o → osGet s.os j = some o' → m.ρ i = m.ρ j → i = j
  obj : ∀ i o, osGet s.os i = some o → OR B m s H (m.ρ i) o
  tabs : LamX.Tabs B.T H
  lets : ∀ n, n < s.nl → m.ν n ∈ B.kd n
end
structure Post (m : Md) (s : S) (H : Hp) (m' : Md) (s' : S) (H' : Hp) : Prop where
  more : More m m' s.nl s'.nl s.no s'.no
  keep : ∀ b o, H b = some o → ¬ Wr m s b → (∀ ps, o ≠ .tbl ps) → H' b = some o
  wsub : ∀ b, Wr m' s' b → Wr m s b ∨ NT H b
  alsub : ∀ b, Al m' s' b → Al m s b ∨ NT H b
  fzp : ∀ i o, osGet s.os i = some o → o.wr = false → osGet s'.os i = some o
section
variable {B : Bs} {m m' m2 : Md} {s s' s2 : S} {H H' H2 : Hp}
theorem More.refl {nl no : Nat} : More m m nl nl no no := ⟨Nat.le_refl _, Nat.le_refl _, fun _ _ => rfl, fun _ _ => rfl⟩
theorem More.trans {nl no nl' no' nl2 no2 : Nat} (a : More m m' nl nl' no no') (b : More m' m2 nl' nl2 no' no2) : More m m2 nl nl2 no no2 :=
  ⟨Nat.le_trans a.nle b.nle, Nat.le_trans a.lle b.lle, fun i h => (b.rho i (Nat.lt_of_lt_of_le h a.nle)).trans (a.rho i h), fun i h => (b.nu i (Nat.lt_of_lt_of_le h a.lle)).trans (a.nu i h)⟩
theorem Post.refl : Post m s H m s H := ⟨.refl, fun _ _ h _ _ => h, fun _ h => .inl h, fun _ h => .inl h, fun _ _ h _ => h⟩
theorem Post.trans (a : Post m s H m' s' H') (b : Post m' s' H' m2 s2 H2) : Post m s H m2 s2 H2 where
  more := a.more.trans b.more
  keep := fun c o h n t => b.keep c o (a.keep c o h n t) (fun z => by
    rcases a.wsub c z with q | q
    · exact n q
    · obtain ⟨ps, e⟩ := q o h
      exact t ps e) t
  wsub := fun c z => by
    rcases b.wsub c z with q | q
    · exact a.wsub c q
    · by_cases w : Wr m s c
      · exact .inl w
      · exact .inr fun o ho => by
          by_cases t : ∃ ps, o = .tbl ps
          · exact t
          · exact q o (a.keep c o ho w (fun ps z => t ⟨ps, z⟩))
  alsub := fun c z => by
    rcases b.alsub c z with q | q
    · exact a.alsub c q
    · by_cases w : Wr m s c
      · exact .inl w.al
      · exact .inr fun o ho => by
          by_cases t : ∃ ps, o = .tbl ps
          · exact t
          · exact q o (a.keep c o ho w (fun ps z => t ⟨ps, z⟩))
  fzp := fun i o h w => b.fzp i o (a.fzp i o h w) w
theorem AR.wobj (r : AR B m s H) : ∀ b, Wr m s b → (∃ xs, H b = some (.lst xs)) ∨ (∃ kvs, H b = some (.dK kvs)) ∨ (∃ kvs, H b = some (.dT kvs)) ∨ DxAt H b := by
  rintro b ⟨i, o, e, w, rfl⟩
  have h := r.obj i o e
  cases o with
  | lst l => obtain ⟨xs, h, _⟩ := h; exact .inl ⟨_, h⟩
  | fz l => obtain ⟨xs, h, _⟩ := h; exact .inl ⟨_, h⟩
  | dK l => obtain ⟨xs, h, _⟩ := h; exact .inr (.inl ⟨_, h⟩)
  | dT l =>
    rcases h with ⟨_, h⟩ | ⟨xs, q, _, h, p, _⟩
    · exact .inr (.inr (.inl ⟨_, h⟩))
    · exact .inr (.inr (.inr (.of h p)))
  | hid => obtain ⟨xs, h⟩ := h; exact .inl ⟨_, h⟩
  | bag => obtain ⟨x, y, z, h⟩ := h; exact .inl ⟨_, h⟩
theorem Post.stay (p : Post m s H m' s' H') (r : AR B m s H) : Stay (Wr m s) (Al m s) (Al m' s') H H' := ⟨p.keep, fun _ => Wr.al, p.alsub, r.wobj⟩
theorem Post.rd (p : Post m s H m' s' H') (r : AR B m s H) {d : D} {v : V} (h : RDw B m s H d v) : RDw B m' s' H' d v := RD.stay (p.stay r) p.more h
theorem Post.rds (p : Post m s H m' s' H') (r : AR B m s H) {d : List D} {v : List V} (h : RDws B m s H d v) : RDws B m' s' H' d v := RDs.stay (p.stay r) p.more h
theorem Post.kp {κ : Type} (p : Post m s H m' s' H') (r : AR B m s H) : ∀ {l : List (κ × D)} {ws : List (κ × V)}, KP B m s H l ws → KP B m' s' H' l ws
  | [], _, h => h
  | (_, _) :: _, _, ⟨v, t, e, h, k⟩ => ⟨v, t, e, p.rd r h, p.kp r k⟩
/-- entries under a map of what is read -/
theorem DX.map {m m' : Md} {s s' : S} {H H' : Hp} (hs : ∀ b (xs : List V), SqT B.K H b xs → SqT B.K H' b xs) (hd : ∀ d v, RDw B m s H d v → RDw B m' s' H' d v) : ∀ {l : List (List Key × D)} {xs : List (List Key × Addr × V)}, DX B m s H l xs → DX B m' s' H' l xs
  | [], _, h => h
  | (_, _) :: _, _, ⟨b, v, t, e, q, h, k⟩ => ⟨b, v, t, e, hs _ _ q, hd _ _ h, DX.map hs hd k⟩
theorem DTR.map {m m' : Md} {s s' : S} {H H' : Hp} {a : Addr} {l : List (List Key × D)} (hs : ∀ b (xs : List V), SqT B.K H b xs → SqT B.K H' b xs) (hd : ∀ d v, RDw B m s H d v → RDw B m' s' H' d v) (ha : ∀ u, H a = some u → H' a = some u) (h : DTR B m s H a l) : DTR B m' s' H' a l := by
  rcases h with ⟨e, h⟩ | ⟨xs, q, e, h, p, d⟩
  · exact .inl ⟨e, ha _ h⟩
  · exact .inr ⟨xs, q, e, ha _ h, p, d.map hs hd⟩
/-- an object that stays as it was -/
theorem Post.or_ (p : Post m s H m' s' H') (r : AR B m s H) {a : Addr} {o : O} (ha : ∀ u, H a = some u → H' a = some u) (h : OR B m s H a o) : OR B m' s' H' a o := by
  cases o with
  | lst l => obtain ⟨xs, h, q⟩ := h; exact ⟨xs, ha _ h, p.rds r q⟩
  | fz l => obtain ⟨xs, h, q⟩ := h; exact ⟨xs, ha _ h, p.rds r q⟩
  | dK l => obtain ⟨xs, h, q⟩ := h; exact ⟨xs, ha _ h, p.kp r q⟩
  | dT l => exact DTR.map (fun _ _ q => (p.stay r).sqT q) (fun _ _ q => p.rd r q) ha h
  | hid => obtain ⟨xs, h⟩ := h; exact ⟨xs, ha _ h⟩
  | bag => obtain ⟨x, y, z, h⟩ := h; exact ⟨x, y, z, ha _ h⟩
end
end Ev
end
end

/-! part EvB -/
section
set_option Elab.async false
set_option linter.all false
set_option maxRecDepth 100000
set_option maxHeartbeats 4000000
/-! EvB: the evaluator: what a piece of program does with data, every wish told by a Bool. -/
noncomputable section
namespace Ev
open PySem PySem.Spec PyProof.Rows L2

abbrev KD := D → S → Bool
abbrev KN := List D → S → Bool
abbrev KX := Nat → D → S → Bool
abbrev XE := List D → S → KD → KX → Bool
abbrev XA := List D → S → KN → KX → Bool
abbrev XF := List D → S → KD → KX → Bool
/-- where a statement may go besides on: return, break, continue, an error -/
structure KC where
  kr : KD
  kb : KN
  kc : KN
  kx : KX
abbrev XS := List D → S → KN → KC → Bool
abbrev XG := D → List D → S → KN → KX → Bool

/-! ### by cases -/
def asI (d : D) (k : Int → Bool) : Bool :=
  D.rec (motive_1 := fun _ => Bool) (motive_2 := fun _ => Unit) false false (fun _ => false) k (fun _ => false) (fun _ => false) (fun _ _ => false) (fun _ _ => false) (fun _ _ _ => false) (fun _ => false) (fun _ => false) (fun _ => false) (fun _ _ => false) (fun _ _ => false) (fun _ _ _ => false) () (fun _ _ _ _ => ()) d
def asB (d : D) (k : Bool → Bool) : Bool :=
  D.rec (motive_1 := fun _ => Bool) (motive_2 := fun _ => Unit) false false k (fun _ => false) (fun _ => false) (fun _ => false) (fun _ _ => false) (fun _ _ => false) (fun _ _ _ => false) (fun _ => false) (fun _ => false) (fun _ => false) (fun _ _ => false) (fun _ _ => false) (fun _ _ _ => false) () (fun _ _ _ _ => ()) d
def asT (d : D) (k : List D → Bool) : Bool :=
  D.rec (motive_1 := fun _ => Bool) (motive_2 := fun _ => Unit) false false (fun _ => false) (fun _ => false) (fun _ => false) (fun _ => false) (fun l _ => k l) (fun _ _ => false) (fun _ _ _ => false) (fun _ => false) (fun _ => false) (fun _ => false) (fun _ _ => false) (fun _ _ => false) (fun _ _ _ => false) () (fun _ _ _ _ => ()) d
def asR (d : D) (k : Nat → Bool) : Bool :=
  D.rec (motive_1 := fun _ => Bool) (motive_2 := fun _ => Unit) false false (fun _ => false) (fun _ => false) (fun _ => false) (fun _ => false) (fun _ _ => false) (fun _ _ => false) (fun _ _ _ => false) k (fun _ => false) (fun _ => false) (fun _ _ => false) (fun _ _ => false) (fun _ _ _ => false) () (fun _ _ _ _ => ()) d
theorem asI_ok {d : D} {k : Int → Bool} (h : asI d k = true) : ∃ i, d = .int i ∧ k i = true := by
  cases d <;> first | exact ⟨_, rfl, h⟩ | exact absurd h Bool.false_ne_true
theorem asB_ok {d : D} {k : Bool → Bool} (h : asB d k = true) : ∃ i, d = .bl i ∧ k i = true := by
  cases d <;> first | exact ⟨_, rfl, h⟩ | exact absurd h Bool.false_ne_true
theorem asT_ok {d : D} {k : List D → Bool} (h : asT d k = true) : ∃ i, d = .tup i ∧ k i = true := by
  cases d <;> first | exact ⟨_, rfl, h⟩ | exact absurd h Bool.false_ne_true
theorem asR_ok {d : D} {k : Nat → Bool} (h : asR d k = true) : ∃ i, d = .ref i ∧ k i = true := by
  cases d <;> first | exact ⟨_, rfl, h⟩ | exact absurd h Bool.false_ne_true
def ifB (b : Bool) (t e : Bool) : Bool := Bool.rec (motive := fun _ => Bool) e t b
theorem ifB_ok {b t e : Bool} (h : ifB b t e = true) : (b = true ∧ t = true) ∨ (b = false ∧ e = true) := by
  cases b with
  | true => exact .inl ⟨rfl, h⟩
  | false => exact .inr ⟨rfl, h⟩
/-- only if -/
def grd (b : Bool) (t : Bool) : Bool := Bool.rec (motive := fun _ => Bool) false t b
theorem grd_ok {b t : Bool} (h : grd b t = true) : b = true ∧ t = true := by
  cases b with
  | true => exact ⟨rfl, h⟩
  | false => exact absurd h Bool.false_ne_true
/-- a number, reckoned ahead -/
def frN (n : Nat) (k : Nat → Bool) : Bool := Nat.rec (motive := fun _ => Bool) (k 0) (fun m _ => k (Nat.succ m)) n
theorem frN_eq (n : Nat) (k : Nat → Bool) : frN n k = k n := by cases n <;> rfl
def frI (i : Int) (k : Int → Bool) : Bool := Int.rec (motive := fun _ => Bool) (fun n => frN n fun n => k (.ofNat n)) (fun n => frN n fun n => k (.negSucc n)) i
theorem frI_eq (i : Int) (k : Int → Bool) : frI i k = k i := by
  cases i with
  | ofNat n => exact frN_eq n fun n => k (.ofNat n)
  | negSucc n => exact frN_eq n fun n => k (.negSucc n)

/-! ### slots -/
def nth : List D → Nat → D := List.rec (motive := fun _ => Nat → D) (fun _ => .unb) (fun x _ ih n => Nat.rec (motive := fun _ => D) x (fun m _ => ih m) n)
def put : List D → D → Nat → List D := fun l d => List.rec (motive := fun _ => Nat → List D) (fun _ => []) (fun x xs ih n => Nat.rec (motive := fun _ => List D) (d :: xs) (fun m _ => x :: ih m) n) l
def isUnb (d : D) : Bool := D.rec (motive_1 := fun _ => Bool) (motive_2 := fun _ => Unit) true false (fun _ => false) (fun _ => false) (fun _ => false) (fun _ => false) (fun _ _ => false) (fun _ _ => false) (fun _ _ _ => false) (fun _ => false) (fun _ => false) (fun _ => false) (fun _ _ => false) (fun _ _ => false) (fun _ _ _ => false) () (fun _ _ _ _ => ()) d
theorem nth_eq : ∀ (l : List D) (i : Nat), nth l i = (l[i]?).getD .unb
  | [], _ => rfl
  | _ :: _, 0 => rfl
  | _ :: xs, i + 1 => by
    show nth xs i = _
    rw [nth_eq xs i]
    simp
theorem put_eq : ∀ (l : List D) (d : D) (i : Nat), put l d i = l.set i d
  | [], _, _ => rfl
  | _ :: _, _, 0 => rfl
  | x :: xs, d, i + 1 => by
    show x :: put xs d i = _
    rw [put_eq xs d i]
    simp

/-! ### ints -/
inductive Bop where
  | add | sub | mul | fdiv | mod | pow | shl
inductive Cop where
  | lt | le | gt | ge | eq | ne | is_ | isnot | in_ | notin
def iLt (i j : Int) : Bool := Int.rec (motive := fun _ => Bool) (fun m => Int.rec (motive := fun _ => Bool) (fun n => Nat.blt m n) (fun _ => false) j) (fun m => Int.rec (motive := fun _ => Bool) (fun _ => true) (fun n => Nat.blt n m) j) i
theorem iLt_eq (i j : Int) : iLt i j = decide (i < j) := by
  cases i with
  | ofNat m =>
    cases j with
    | ofNat n =>
      show Nat.blt m n = _
      rw [Bool.eq_iff_iff]
      simp [Nat.blt_eq]
    | negSucc n =>
      show false = _
      symm
      simp
      omega
  | negSucc m =>
    cases j with
    | ofNat n =>
      show true = _
      symm
      simp
      omega
    | negSucc n =>
      show Nat.blt n m = _
      rw [Bool.eq_iff_iff]
      simp [Nat.blt_eq]
      omega
def iEq (i j : Int) : Bool := Int.rec (motive := fun _ => Bool) (fun m => Int.rec (motive := fun _ => Bool) (fun n => Nat.beq m n) (fun _ => false) j) (fun m => Int.rec (motive := fun _ => Bool) (fun _ => false) (fun n => Nat.beq m n) j) i
theorem iEq_eq (i j : Int) : iEq i j = decide (i = j) := by
  cases i with
  | ofNat m =>
    cases j with
    | ofNat n =>
      show Nat.beq m n = _
      rw [Bool.eq_iff_iff]
      simp [Nat.beq_eq]
      omega
    | negSucc n =>
      show false = _
      symm
      simp
  | negSucc m =>
    cases j with
    | ofNat n =>
      show false = _
      symm
      simp
    | negSucc n =>
      show Nat.beq m n = _
      rw [Bool.eq_iff_iff]
      simp [Nat.beq_eq]
def nAbs (i : Int) : Nat := Int.rec (motive := fun _ => Nat) (fun n => n) (fun n => Nat.succ n) i
theorem nAbs_eq (i : Int) : nAbs i = i.natAbs := by cases i <;> rfl
/-- what the operations ask, what they give -/
def opOk : Bop → Int → Int → Bool
  | .add, _, _ => true
  | .sub, _, _ => true
  | .mul, i, j => Nat.blt (Nat.add (Nat.log2 (nAbs i)) (Nat.log2 (nAbs j))) 1000000
  | .fdiv, _, j => Nat.blt 0 (nAbs j) && Nat.blt (Nat.log2 (nAbs j)) 9000
  | .mod, _, j => Nat.blt 0 (nAbs j)
  | .pow, i, j => iLt (-1) j && iLt j 1000001 && Nat.blt (nAbs i) 18446744073709551616
  | .shl, i, j => iLt (-1) j && iLt j 1000001 && Nat.blt (nAbs i) 18446744073709551616
def opVal : Bop → Int → Int → Int
  | .add, i, j => i + j
  | .sub, i, j => i - j
  | .mul, i, j => i * j
  | .fdiv, i, j => i.fdiv j
  | .mod, i, j => i.fmod j
  | .pow, i, j => i ^ j.toNat
  | .shl, i, j => i * 2 ^ j.toNat

/-! ### expressions -/
def xV (i : Nat) : XE := fun e s k _ => let d := nth e i; Bool.rec (motive := fun _ => Bool) (k d s) false (isUnb d)
def xK (d : D) : XE := fun _ s k _ => k d s
def xBin (o : Bop) (a b : XE) : XE := fun e s k x => a e s (fun u s1 => b e s1 (fun v s2 => asI u fun i => asI v fun j => grd (opOk o i j) (frI (opVal o i j) fun r => k (.int r) s2)) x) x
def xNeg (a : XE) : XE := fun e s k x => a e s (fun u s1 => asI u fun i => frI (-i) fun r => k (.int r) s1) x
def cI : Cop → Int → Int → Bool
  | .lt, i, j => iLt i j
  | .le, i, j => !iLt j i
  | .gt, i, j => iLt j i
  | .ge, i, j => !iLt i j
  | _, _, _ => false
/-- < <= > >= of ints -/
def xCmp (o : Cop) (a b : XE) : XE := fun e s k x => a e s (fun u s1 => b e s1 (fun v s2 => asI u fun i => asI v fun j => k (.bl (cI o i j)) s2) x) x
/-- a < b < c -/
def xCh (o p : Cop) (a b c : XE) : XE := fun e s k x => a e s (fun u s1 => b e s1 (fun v s2 => asI u fun i => asI v fun j => ifB (cI o i j) (c e s2 (fun w s3 => asI w fun l => k (.bl (cI p j l)) s3) x) (k (.bl false) s2)) x) x
def xAnd (a b : XE) : XE := fun e s k x => a e s (fun u s1 => asB u fun t => ifB t (b e s1 k x) (k (.bl false) s1)) x
def xOr (a b : XE) : XE := fun e s k x => a e s (fun u s1 => asB u fun t => ifB t (k (.bl true) s1) (b e s1 k x)) x
def xNot (a : XE) : XE := fun e s k x => a e s (fun u s1 => asB u fun t => k (.bl (!t)) s1) x
def xIte (c a b : XE) : XE := fun e s k x => c e s (fun u s1 => asB u fun t => ifB t (a e s1 k x) (b e s1 k x)) x
def aNil : XA := fun _ s k _ => k [] s
def aCons (a : XE) (r : XA) : XA := fun e s k x => a e s (fun u s1 => r e s1 (fun us s2 => k (u :: us) s2) x) x
def xTup (a : XA) : XE := fun e s k x => a e s (fun us s1 => k (.tup us) s1) x
/-- a new object -/
def newO (s : S) (o : O) (k : D → S → Bool) : Bool := S.rec (motive := fun _ => Bool) (fun nl no os => frN no fun no => k (.ref no) (.mk nl (Nat.succ no) ((no, o) :: os))) s
def xLst (a : XA) : XE := fun e s k x => a e s (fun us s1 => newO s1 (.lst us) k) x
def xCall (f : XF) (a : XA) : XE := fun e s k x => a e s (fun us s1 => f us s1 k x) x

/-! ### statements -/
def sSkip : XS := fun e s n _ => n e s
def sSeq (a b : XS) : XS := fun e s n c => a e s (fun e1 s1 => b e1 s1 n c) c
def sSet (i : Nat) (a : XE) : XS := fun e s n c => a e s (fun d s1 => n (put e d i) s1) c.kx
def sRet (a : XE) : XS := fun e s _ c => a e s c.kr c.kx
def sExp (a : XE) : XS := fun e s n c => a e s (fun _ s1 => n e s1) c.kx
def sIf (t : XE) (a b : XS) : XS := fun e s n c => t e s (fun u s1 => asB u fun q => ifB q (a e s1 n c) (b e s1 n c)) c.kx
/-- while, at most so many turns -/
def sWhile (t : XE) (b : XS) : Nat → XS := Nat.rec (motive := fun _ => XS) (fun _ _ _ _ => false) fun _ ih e s n c =>
  t e s (fun u s1 => asB u fun q => ifB q (b e s1 (fun e2 s2 => ih e2 s2 n c) ⟨c.kr, n, fun e2 s2 => ih e2 s2 n c, c.kx⟩) (n e s1)) c.kx
end Ev
end
end

/-! part EvC -/
section
set_option Elab.async false
set_option linter.all false
set_option maxRecDepth 100000
set_option maxHeartbeats 4000000
/-! EvC: what the evaluator says of a piece holds of the piece: expressions without objects, blocks. -/
noncomputable section
namespace Ev
open PySem PySem.Spec PyProof.Rows L2

section
variable (B : Bs)
/-- the slots -/
structure ER (m : Md) (s : S) (H : Hp) (env : List D) (σ : L2.St) : Prop where
  len : env.length = σ.length
  at_ : ∀ (i : Nat) (d : D), env[i]? = some d → d = .unb ∨ ∃ v, σ[i]? = some (some v) ∧ RDw B m s H d v
/-- an error of the class number c, keeping p -/
def XR (m : Md) (s : S) (H : Hp) (c : Nat) (p : D) (cls : Value) (dd : Option Addr) : Prop :=
  (∃ C, B.mg (B.cls c) = some (.ref C) ∧ cls = .ref C) ∧ (p = .unb ∨ ∃ a v, dd = some a ∧ H a = some (.xd [(B.fld c, v)]) ∧ RDw B m s H p v)
def KDok (m : Md) (s : S) (H : Hp) (k : KD) (Q : VK) : Prop :=
  ∀ d m' s' H' v, Post m s H m' s' H' → AR B m' s' H' → RDw B m' s' H' d v → k d s' = true → Q v H'
def KLok (m : Md) (s : S) (H : Hp) (k : KN) (Q : List V → Hp → Prop) : Prop :=
  ∀ d m' s' H' v, Post m s H m' s' H' → AR B m' s' H' → RDws B m' s' H' d v → k d s' = true → Q v H'
def KXok (m : Md) (s : S) (H : Hp) (k : KX) (E : XK) : Prop :=
  ∀ c p m' s' H' cls dd, Post m s H m' s' H' → AR B m' s' H' → XR B m' s' H' c p cls dd → k c p s' = true → E cls dd H'
def KNok (m : Md) (s : S) (H : Hp) (k : KN) (Q : L2.St → Hp → Prop) : Prop :=
  ∀ env m' s' H' σ, Post m s H m' s' H' → AR B m' s' H' → ER B m' s' H' env σ → k env s' = true → Q σ H'
structure KCok (m : Md) (s : S) (H : Hp) (c : KC) (Dn : Ends) (E : XK) : Prop where
  rt : KDok B m s H c.kr Dn.rt
  bk : KNok B m s H c.kb Dn.bk
  ct : KNok B m s H c.kc Dn.ct
  xx : KXok B m s H c.kx E
/-- readings -/
def TX (E : XK) (x : XE) : TE := fun σ H Q => ∃ m s env k kx, AR B m s H ∧ ER B m s H env σ ∧ x env s k kx = true ∧ KDok B m s H k Q ∧ KXok B m s H kx E
/-- a test: the value is a bool -/
def TB (E : XK) (x : XE) : TT := fun σ H Q => TX B E x σ H fun v H1 => ∃ b, v = .bl b ∧ Q b H1
def TAr (E : XK) (x : XA) : TA := fun σ H Q => ∃ m s env k kx, AR B m s H ∧ ER B m s H env σ ∧ x env s k kx = true ∧ KLok B m s H k Q ∧ KXok B m s H kx E
def TSt (E : XK) (x : XS) : TS := fun Dn σ H => ∃ m s env n c, AR B m s H ∧ ER B m s H env σ ∧ x env s n c = true ∧ KNok B m s H n Dn.nx ∧ KCok B m s H c Dn E
end
section
variable {B : Bs} {m m' : Md} {s s' : S} {H H' : Hp} {env : List D} {σ : L2.St} {E : XK} {k : KD} {kx : KX} {Q : VK}
theorem ER.post (e : ER B m s H env σ) (p : Post m s H m' s' H') (r : AR B m s H) : ER B m' s' H' env σ := ⟨e.len, fun i d h => by
  rcases e.at_ i d h with z | ⟨v, h1, h2⟩
  · exact .inl z
  · exact .inr ⟨v, h1, p.rd r h2⟩⟩
theorem KDok.post (h : KDok B m s H k Q) (p : Post m s H m' s' H') : KDok B m' s' H' k Q := fun d m2 s2 H2 v q => h d m2 s2 H2 v (p.trans q)
theorem KLok.post {k : KN} {Q : List V → Hp → Prop} (h : KLok B m s H k Q) (p : Post m s H m' s' H') : KLok B m' s' H' k Q := fun d m2 s2 H2 v q => h d m2 s2 H2 v (p.trans q)
theorem KXok.post (h : KXok B m s H kx E) (p : Post m s H m' s' H') : KXok B m' s' H' kx E := fun c d m2 s2 H2 cls dd q => h c d m2 s2 H2 cls dd (p.trans q)
theorem KNok.post {k : KN} {Q : L2.St → Hp → Prop} (h : KNok B m s H k Q) (p : Post m s H m' s' H') : KNok B m' s' H' k Q := fun d m2 s2 H2 v q => h d m2 s2 H2 v (p.trans q)
theorem KCok.post {c : KC} {Dn : Ends} (h : KCok B m s H c Dn E) (p : Post m s H m' s' H') : KCok B m' s' H' c Dn E := ⟨h.rt.post p, h.bk.post p, h.ct.post p, h.xx.post p⟩
end

section
variable {X : Cx} {B : Bs} {E : XK}
theorem wkE {e : Expr} {t t' : TE} (h : PE X e t) (w : ∀ σ H Q, t' σ H Q → t σ H Q) : PE X e t' := ⟨fun pins s σ H Q I q => h.run pins s σ H Q I (w σ H Q q)⟩
theorem wkT {e : Expr} {t t' : TT} (h : PT X e t) (w : ∀ σ H Q, t' σ H Q → t σ H Q) : PT X e t' := ⟨fun pins s σ H Q I q => h.run pins s σ H Q I (w σ H Q q)⟩
theorem wkW {e : Expr} {t t' : TT} (h : PW X e t) (w : ∀ σ H Q, t' σ H Q → t σ H Q) : PW X e t' := ⟨fun wh pins s σ H Q I q => h.run wh pins s σ H Q I (w σ H Q q)⟩
theorem wkA {e : List Expr} {t t' : TA} (h : PA X e t) (w : ∀ σ H Q, t' σ H Q → t σ H Q) : PA X e t' := ⟨fun p pins s σ H Q I q => h.run p pins s σ H Q I (w σ H Q q)⟩
theorem wkS {e : Stmt} {t t' : TS} (h : PS X e t) (w : ∀ D σ H, t' D σ H → t D σ H) : PS X e t' := ⟨fun pins s σ H D I q => h.run pins s σ H D I (w D σ H q)⟩
theorem wkSs {e : List Stmt} {t t' : TS} (h : PSs X e t) (w : ∀ D σ H, t' D σ H → t D σ H) : PSs X e t' := ⟨fun pins s σ H D I q => h.run pins s σ H D I (w D σ H q)⟩

variable {xa xb xc : XE} {ea eb ec : Expr} {pos : Pos}
theorem x_var {i : Nat} {e : Expr} (h : PE X e (tVar i)) : PE X e (TX B E (xV i)) := wkE h fun σ H Q ⟨m, s, env, k, kx, ar, er, hx, hk, _⟩ => by
  have hx' : (Bool.rec (motive := fun _ => Bool) (k (nth env i) s) false (isUnb (nth env i))) = true := hx
  cases hu : isUnb (nth env i) with
  | true => rw [hu] at hx'; cases hx'
  | false =>
    rw [hu] at hx'
    have hn := nth_eq env i
    cases he : env[i]? with
    | none => rw [hn, he] at hu; cases hu
    | some d =>
      have e1 : nth env i = d := by rw [hn, he]; rfl
      rw [e1] at hx' hu
      rcases er.at_ i d he with z | ⟨v, h1, h2⟩
      · rw [z] at hu; cases hu
      · exact ⟨v, h1, hk d m s H v .refl ar h2 hx'⟩
/-- a constant, a name that stands for one -/
theorem x_const {d : D} {v : V} {e : Expr} (h : PE X e (tC v)) (hd : ∀ m nl no W H, RD B m nl no W H d v) : PE X e (TX B E (xK d)) := wkE h fun σ H Q ⟨m, s, env, k, kx, ar, er, hx, hk, _⟩ =>
  hk d m s H v .refl ar (hd _ _ _ _ _) hx

/-- the two sides of an operation on two values -/
theorem two {r : R2} {σ : L2.St} {H : Hp} {Q : VK} {m : Md} {s : S} {env : List D} {kx : KX} {f : D → D → S → Bool} (ar : AR B m s H) (er : ER B m s H env σ)
    (hx : xa env s (fun u s1 => xb env s1 (fun v s2 => f u v s2) kx) kx = true) (hkx : KXok B m s H kx E)
    (fin : ∀ u v m1 s1 H1 m2 s2 H2 x y, Post m s H m1 s1 H1 → Post m1 s1 H1 m2 s2 H2 → AR B m1 s1 H1 → AR B m2 s2 H2 → RDw B m1 s1 H1 u x → RDw B m2 s2 H2 v y → f u v s2 = true → r x y H2 Q) :
    tOp r (TX B E xa) (TX B E xb) σ H Q :=
  ⟨m, s, env, _, kx, ar, er, hx, fun u m1 s1 H1 x p1 a1 r1 h1 =>
    ⟨m1, s1, env, _, kx, a1, er.post p1 ar, h1, fun v m2 s2 H2 y p2 a2 r2 h2 => fin u v m1 s1 H1 m2 s2 H2 x y p1 p2 a1 a2 r1 r2 h2, hkx.post p1⟩, hkx⟩
/-- an operation on ints, by its rule -/
theorem x_bin {op : Operator} {o : Bop} {C : Int → Int → Prop} {g : Int → Int → V} (ho : OpR X (binaryOp op) (rI C g)) (hC : ∀ i j, opOk o i j = true → C i j ∧ g i j = V.int (opVal o i j))
    (ha : PE X ea (TX B E xa)) (hb : PE X eb (TX B E xb)) : PE X (.BinOp ea op eb pos) (TX B E (xBin o xa xb)) :=
  wkE (pe_op ho ha hb) fun σ H Q ⟨m, s, env, k, kx, ar, er, hx, hk, hkx⟩ => two ar er hx hkx fun u v m1 s1 H1 m2 s2 H2 x y p1 p2 a1 a2 r1 r2 h => by
    obtain ⟨i, e1, h1⟩ := asI_ok h
    obtain ⟨j, e2, h2⟩ := asI_ok h1
    obtain ⟨c, h3⟩ := grd_ok h2
    rw [frI_eq] at h3
    obtain ⟨c1, c2⟩ := hC i j c
    subst e1 e2
    cases r1; cases r2
    exact ⟨i, j, rfl, rfl, c1, hk (.int _) m2 s2 H2 _ (p1.trans p2) a2 (by rw [c2]; rfl) h3⟩
theorem rI_of0 {g : Int → Int → V} {f : Value → Value → Sem Value} (h : OpR X f (rI0 g)) : OpR X f (rI (fun _ _ => True) g) := fun pins s σ H x y v u Q I rx ry ⟨i, j, e1, e2, _, q⟩ => h pins s σ H x y v u Q I rx ry ⟨i, j, e1, e2, q⟩
theorem x_add (ha : PE X ea (TX B E xa)) (hb : PE X eb (TX B E xb)) : PE X (.BinOp ea .Add eb pos) (TX B E (xBin .add xa xb)) := x_bin (rI_of0 op_add) (fun _ _ _ => ⟨trivial, rfl⟩) ha hb
theorem x_sub (ha : PE X ea (TX B E xa)) (hb : PE X eb (TX B E xb)) : PE X (.BinOp ea .Sub eb pos) (TX B E (xBin .sub xa xb)) := x_bin (rI_of0 op_sub) (fun _ _ _ => ⟨trivial, rfl⟩) ha hb
theorem x_mul (ha : PE X ea (TX B E xa)) (hb : PE X eb (TX B E xb)) : PE X (.BinOp ea .Mult eb pos) (TX B E (xBin .mul xa xb)) := x_bin op_mulW (fun i j h => ⟨by
  have h' : Nat.blt (Nat.add (Nat.log2 (nAbs i)) (Nat.log2 (nAbs j))) 1000000 = true := h
  rw [nAbs_eq, nAbs_eq, Nat.blt_eq] at h'
  exact h', rfl⟩) ha hb
theorem op_fdivX : OpR X (binaryOp .FloorDiv) (rI (fun _ j => j ≠ 0 ∧ j.natAbs.log2 < 9000) fun i j => .int (i.fdiv j)) := opI fun _ _ _ _ _ _ _ hc q => floordiv_int hc.1 q (.inl (PyProof.noPylong_of_log2 hc.2))
theorem iop_fdivX : OpR X (inplaceOp .FloorDiv) (rI (fun _ j => j ≠ 0 ∧ j.natAbs.log2 < 9000) fun i j => .int (i.fdiv j)) := opI fun _ _ _ _ _ _ _ hc q => ifloordiv_int hc.1 q (.inl (PyProof.noPylong_of_log2 hc.2))
theorem fdivC {i j : Int} (h : opOk .fdiv i j = true) : j ≠ 0 ∧ j.natAbs.log2 < 9000 := by
  have h' : (Nat.blt 0 (nAbs j) && Nat.blt (Nat.log2 (nAbs j)) 9000) = true := h
  rw [nAbs_eq, Bool.and_eq_true, Nat.blt_eq, Nat.blt_eq] at h'
  exact ⟨by omega, h'.2⟩
theorem x_fdiv (ha : PE X ea (TX B E xa)) (hb : PE X eb (TX B E xb)) : PE X (.BinOp ea .FloorDiv eb pos) (TX B E (xBin .fdiv xa xb)) := x_bin op_fdivX (fun i j h => ⟨fdivC h, rfl⟩) ha hb
theorem modC {i j : Int} (h : opOk .mod i j = true) : j ≠ 0 := by
  have h' : Nat.blt 0 (nAbs j) = true := h
  rw [nAbs_eq, Nat.blt_eq] at h'
  omega
theorem x_mod (ha : PE X ea (TX B E xa)) (hb : PE X eb (TX B E xb)) : PE X (.BinOp ea .Mod eb pos) (TX B E (xBin .mod xa xb)) := x_bin op_modN (fun i j h => ⟨modC h, rfl⟩) ha hb
theorem powC {i j : Int} (h : (iLt (-1) j && iLt j 1000001 && Nat.blt (nAbs i) 18446744073709551616) = true) : CPow i j := by
  rw [nAbs_eq, Bool.and_eq_true, Bool.and_eq_true, iLt_eq, iLt_eq, Nat.blt_eq, decide_eq_true_eq, decide_eq_true_eq] at h
  exact ⟨by omega, by omega, by omega⟩
theorem x_pow (ha : PE X ea (TX B E xa)) (hb : PE X eb (TX B E xb)) : PE X (.BinOp ea .Pow eb pos) (TX B E (xBin .pow xa xb)) := x_bin op_pow (fun i j h => ⟨powC h, rfl⟩) ha hb
theorem x_shl (ha : PE X ea (TX B E xa)) (hb : PE X eb (TX B E xb)) : PE X (.BinOp ea .LShift eb pos) (TX B E (xBin .shl xa xb)) := x_bin op_shl (fun i j h => ⟨powC h, rfl⟩) ha hb
theorem x_neg (ha : PE X ea (TX B E xa)) : PE X (.UnaryOp .USub ea pos) (TX B E (xNeg xa)) := wkE (pe_un un_neg ha) fun σ H Q ⟨m, s, env, k, kx, ar, er, hx, hk, hkx⟩ =>
  ⟨m, s, env, _, kx, ar, er, hx, fun u m1 s1 H1 x p1 a1 r1 h => by
    obtain ⟨i, e1, h1⟩ := asI_ok h
    rw [frI_eq] at h1
    subst e1
    cases r1
    exact ⟨i, rfl, hk (.int _) m1 s1 H1 _ p1 a1 rfl h1⟩, hkx⟩
/-- which comparison -/
def copOf : CmpOp → Option Cop
  | .Lt => some .lt
  | .LtE => some .le
  | .Gt => some .gt
  | .GtE => some .ge
  | _ => none
theorem cop_ok {op : CmpOp} {o : Cop} (h : copOf op = some o) : OpR X (compareOp op) (rI0 fun i j => .bl (cI o i j)) ∧ op ≠ .In ∧ op ≠ .NotIn := by
  cases op <;> cases h
  · exact ⟨by simpa [cI, iLt_eq] using op_lt (X := X), by decide, by decide⟩
  · exact ⟨by
      have e : (fun i j : Int => V.bl (cI .le i j)) = fun i j => .bl (decide (i ≤ j)) := by
        funext i j
        simp only [cI, iLt_eq]
        congr 1
        by_cases q : i ≤ j <;> simp [q] <;> omega
      rw [e]
      exact op_le, by decide, by decide⟩
  · exact ⟨by simpa [cI, iLt_eq] using op_gt (X := X), by decide, by decide⟩
  · exact ⟨by
      have e : (fun i j : Int => V.bl (cI .ge i j)) = fun i j => .bl (decide (j ≤ i)) := by
        funext i j
        simp only [cI, iLt_eq]
        congr 1
        by_cases q : j ≤ i <;> simp [q] <;> omega
      rw [e]
      exact op_ge, by decide, by decide⟩
theorem cmp_two {o : Cop} {σ : L2.St} {H : Hp} {Q : VK} (h : TX B E (xCmp o xa xb) σ H Q) : tOp (rI0 fun i j => .bl (cI o i j)) (TX B E xa) (TX B E xb) σ H Q := by
  obtain ⟨m, s, env, k, kx, ar, er, hx, hk, hkx⟩ := h
  exact two ar er hx hkx fun u v m1 s1 H1 m2 s2 H2 x y p1 p2 a1 a2 r1 r2 h => by
    obtain ⟨i, e1, h1⟩ := asI_ok h
    obtain ⟨j, e2, h2⟩ := asI_ok h1
    subst e1 e2
    cases r1; cases r2
    exact ⟨i, j, rfl, rfl, hk (.bl _) m2 s2 H2 _ (p1.trans p2) a2 rfl h2⟩
theorem x_cmp {op : CmpOp} {o : Cop} (h : copOf op = some o) (ha : PE X ea (TX B E xa)) (hb : PE X eb (TX B E xb)) : PE X (.Compare ea [op] [eb] pos) (TX B E (xCmp o xa xb)) :=
  have c := cop_ok (X := X) h
  wkE (pe_cmpR c.1 ha hb (nomark _ c.2.1 c.2.2)) fun _ _ _ h => cmp_two h
theorem t_cmp {op : CmpOp} {o : Cop} (h : copOf op = some o) (ha : PE X ea (TX B E xa)) (hb : PE X eb (TX B E xb)) : PT X (.Compare ea [op] [eb] pos) (TB B E (xCmp o xa xb)) :=
  have c := cop_ok (X := X) h
  wkT (pt_cmpR c.1 ha hb (nomark _ c.2.1 c.2.2)) fun _ _ _ h => cmp_two h
theorem lastMarks_two {op op' : CmpOp} {b c : Expr} (h : behindInMarks op' c = false) : lastMarks [op, op'] [b, c] = false := h
theorem chain_two {o p : Cop} {σ : L2.St} {H : Hp} {Q : VK} (h : TX B E (xCh o p xa xb xc) σ H Q) : tChain (rI0 fun i j => .bl (cI o i j)) (rI0 fun i j => .bl (cI p i j)) (TX B E xa) (TX B E xb) (TX B E xc) σ H Q := by
  obtain ⟨m, s, env, k, kx, ar, er, hx, hk, hkx⟩ := h
  refine ⟨m, s, env, _, kx, ar, er, hx, fun u m1 s1 H1 x p1 a1 r1 h1 => ⟨m1, s1, env, _, kx, a1, er.post p1 ar, h1, fun v m2 s2 H2 y p2 a2 r2 h => ?_, hkx.post p1⟩, hkx⟩
  obtain ⟨i, e1, h1⟩ := asI_ok h
  obtain ⟨j, e2, h2⟩ := asI_ok h1
  subst e1 e2
  cases r1; cases r2
  refine ⟨i, j, rfl, rfl, cI o i j, rfl, ?_⟩
  rcases ifB_ok h2 with ⟨e, h3⟩ | ⟨e, h3⟩
  · rw [if_pos e]
    refine ⟨m2, s2, env, _, kx, a2, er.post (p1.trans p2) ar, h3, fun w m3 s3 H3 z p3 a3 r3 h4 => ?_, hkx.post (p1.trans p2)⟩
    obtain ⟨l, e3, h5⟩ := asI_ok h4
    subst e3
    cases r3
    exact ⟨j, l, rfl, rfl, hk (.bl _) m3 s3 H3 _ ((p1.trans p2).trans p3) a3 rfl h5⟩
  · rw [if_neg (by rw [e]; exact Bool.false_ne_true)]
    exact hk (.bl false) m2 s2 H2 _ (p1.trans p2) a2 rfl h3
theorem x_chain {op op' : CmpOp} {o p : Cop} (h : copOf op = some o) (h' : copOf op' = some p) (ha : PE X ea (TX B E xa)) (hb : PE X eb (TX B E xb)) (hc : PE X ec (TX B E xc)) :
    PE X (.Compare ea [op, op'] [eb, ec] pos) (TX B E (xCh o p xa xb xc)) :=
  have c := cop_ok (X := X) h
  have c' := cop_ok (X := X) h'
  wkE (pe_chain c.1 c'.1 ha hb hc (lastMarks_two (nomark _ c'.2.1 c'.2.2))) fun _ _ _ h => chain_two h
theorem t_chain {op op' : CmpOp} {o p : Cop} (h : copOf op = some o) (h' : copOf op' = some p) (ha : PE X ea (TX B E xa)) (hb : PE X eb (TX B E xb)) (hc : PE X ec (TX B E xc)) :
    PT X (.Compare ea [op, op'] [eb, ec] pos) (TB B E (xCh o p xa xb xc)) :=
  have c := cop_ok (X := X) h
  have c' := cop_ok (X := X) h'
  wkT (pt_chain c.1 c'.1 ha hb hc (lastMarks_two (nomark _ c'.2.1 c'.2.2))) fun _ _ _ h => chain_two h

/-! ### and, or, not, if else -/
theorem and_two {σ : L2.St} {H : Hp} {Q : VK} (h : TX B E (xAnd xa xb) σ H Q) : TX B E xa σ H fun x H1 => ∃ c, x = .bl c ∧ if c = true then TX B E xb σ H1 Q else Q (.bl false) H1 := by
  obtain ⟨m, s, env, k, kx, ar, er, hx, hk, hkx⟩ := h
  refine ⟨m, s, env, _, kx, ar, er, hx, fun u m1 s1 H1 x p1 a1 r1 h => ?_, hkx⟩
  obtain ⟨i, e1, h1⟩ := asB_ok h
  subst e1
  cases r1
  refine ⟨i, rfl, ?_⟩
  rcases ifB_ok h1 with ⟨e, h3⟩ | ⟨e, h3⟩
  · rw [if_pos e]
    exact ⟨m1, s1, env, k, kx, a1, er.post p1 ar, h3, hk.post p1, hkx.post p1⟩
  · rw [if_neg (by rw [e]; exact Bool.false_ne_true)]
    exact hk (.bl false) m1 s1 H1 _ p1 a1 rfl h3
theorem or_two {σ : L2.St} {H : Hp} {Q : VK} (h : TX B E (xOr xa xb) σ H Q) : TX B E xa σ H fun x H1 => ∃ c, x = .bl c ∧ if c = true then Q (.bl true) H1 else TX B E xb σ H1 Q := by
  obtain ⟨m, s, env, k, kx, ar, er, hx, hk, hkx⟩ := h
  refine ⟨m, s, env, _, kx, ar, er, hx, fun u m1 s1 H1 x p1 a1 r1 h => ?_, hkx⟩
  obtain ⟨i, e1, h1⟩ := asB_ok h
  subst e1
  cases r1
  refine ⟨i, rfl, ?_⟩
  rcases ifB_ok h1 with ⟨e, h3⟩ | ⟨e, h3⟩
  · rw [if_pos e]
    exact hk (.bl true) m1 s1 H1 _ p1 a1 rfl h3
  · rw [if_neg (by rw [e]; exact Bool.false_ne_true)]
    exact ⟨m1, s1, env, k, kx, a1, er.post p1 ar, h3, hk.post p1, hkx.post p1⟩
theorem not_two {σ : L2.St} {H : Hp} {Q : VK} (h : TX B E (xNot xa) σ H Q) : TX B E xa σ H fun x H1 => ∃ c, x = .bl c ∧ Q (.bl (!c)) H1 := by
  obtain ⟨m, s, env, k, kx, ar, er, hx, hk, hkx⟩ := h
  refine ⟨m, s, env, _, kx, ar, er, hx, fun u m1 s1 H1 x p1 a1 r1 h => ?_, hkx⟩
  obtain ⟨i, e1, h1⟩ := asB_ok h
  subst e1
  cases r1
  exact ⟨i, rfl, hk (.bl (!i)) m1 s1 H1 _ p1 a1 rfl h1⟩
theorem ite_two {σ : L2.St} {H : Hp} {Q : VK} (h : TX B E (xIte xc xa xb) σ H Q) : TB B E xc σ H fun c H1 => if c = true then TX B E xa σ H1 Q else TX B E xb σ H1 Q := by
  obtain ⟨m, s, env, k, kx, ar, er, hx, hk, hkx⟩ := h
  refine ⟨m, s, env, _, kx, ar, er, hx, fun u m1 s1 H1 x p1 a1 r1 h => ?_, hkx⟩
  obtain ⟨i, e1, h1⟩ := asB_ok h
  subst e1
  cases r1
  refine ⟨i, rfl, ?_⟩
  rcases ifB_ok h1 with ⟨e, h3⟩ | ⟨e, h3⟩
  · rw [if_pos e]
    exact ⟨m1, s1, env, k, kx, a1, er.post p1 ar, h3, hk.post p1, hkx.post p1⟩
  · rw [if_neg (by rw [e]; exact Bool.false_ne_true)]
    exact ⟨m1, s1, env, k, kx, a1, er.post p1 ar, h3, hk.post p1, hkx.post p1⟩
variable {rest : List Expr}
theorem x_one {op : BoolOp} (ha : PE X ea (TX B E xa)) : PE X (.BoolOp op [ea] pos) (TX B E xa) := pe_one ha
theorem x_and (ha : PE X ea (TX B E xa)) (hb : PE X (.BoolOp .And (eb :: rest) pos) (TX B E xb)) : PE X (.BoolOp .And (ea :: eb :: rest) pos) (TX B E (xAnd xa xb)) := wkE (pe_and ha hb) fun _ _ _ h => and_two h
theorem x_or (ha : PE X ea (TX B E xa)) (hb : PE X (.BoolOp .Or (eb :: rest) pos) (TX B E xb)) : PE X (.BoolOp .Or (ea :: eb :: rest) pos) (TX B E (xOr xa xb)) := wkE (pe_or ha hb) fun _ _ _ h => or_two h
theorem x_not (ha : PE X ea (TX B E xa)) : PE X (.UnaryOp .Not ea pos) (TX B E (xNot xa)) := wkE (pe_not ha) fun _ _ _ h => not_two h
theorem x_ite (hc : PT X ec (TB B E xc)) (ha : PE X ea (TX B E xa)) (hb : PE X eb (TX B E xb)) : PE X (.IfExp ec ea eb pos) (TX B E (xIte xc xa xb)) := wkE (pe_ifExp hc ha hb) fun _ _ _ h => ite_two h
/-- as tests -/
theorem tb_mono {x : XE} {σ : L2.St} {H : Hp} {Q Q' : VK} (h : TX B E x σ H Q) (w : ∀ v H1, Q v H1 → Q' v H1) : TX B E x σ H Q' := by
  obtain ⟨m, s, env, k, kx, ar, er, hx, hk, hkx⟩ := h
  exact ⟨m, s, env, k, kx, ar, er, hx, fun d m' s' H' v p a r h => w _ _ (hk d m' s' H' v p a r h), hkx⟩
theorem w_and1 (ha : PT X ea (TB B E xa)) : PW X (.BoolOp .And [ea] pos) (TB B E xa) := pw_and1 ha
theorem w_or1 (ha : PT X ea (TB B E xa)) : PW X (.BoolOp .Or [ea] pos) (TB B E xa) := pw_or1 ha
theorem w_and (ha : PT X ea (TB B E xa)) (hb : PW X (.BoolOp .And (eb :: rest) pos) (TB B E xb)) : PW X (.BoolOp .And (ea :: eb :: rest) pos) (TB B E (xAnd xa xb)) := wkW (pw_and ha hb) fun σ H Q h =>
  tb_mono (and_two h) fun v H1 ⟨c, e, q⟩ => ⟨c, e, by
    cases c with
    | true => exact q
    | false =>
      obtain ⟨b, e2, q2⟩ := q
      cases e2
      exact q2⟩
theorem w_or (ha : PT X ea (TB B E xa)) (hb : PW X (.BoolOp .Or (eb :: rest) pos) (TB B E xb)) : PW X (.BoolOp .Or (ea :: eb :: rest) pos) (TB B E (xOr xa xb)) := wkW (pw_or ha hb) fun σ H Q h =>
  tb_mono (or_two h) fun v H1 ⟨c, e, q⟩ => ⟨c, e, by
    cases c with
    | true =>
      obtain ⟨b, e2, q2⟩ := q
      cases e2
      exact q2
    | false => exact q⟩
theorem t_not (ha : PT X ea (TB B E xa)) : PT X (.UnaryOp .Not ea pos) (TB B E (xNot xa)) := wkT (pt_not ha) fun σ H Q h =>
  tb_mono (not_two h) fun v H1 ⟨c, e, b, e2, q⟩ => ⟨c, e, by cases e2; exact q⟩
theorem t_ite (hc : PT X ec (TB B E xc)) (ha : PT X ea (TB B E xa)) (hb : PT X eb (TB B E xb)) : PT X (.IfExp ec ea eb pos) (TB B E (xIte xc xa xb)) := ⟨fun pins s σ H Q I h => by
  show wpAny _ _ (do if ← isTrue ec X.env (eval ec X.env) then isTrue ea X.env (eval ea X.env) else isTrue eb X.env (eval eb X.env)) _ _ _
  refine wpAny_bind (thn (hc.run pins s σ H _ I (ite_two h)) fun d s1 ⟨H1, I1, q1⟩ => ?_)
  cases d with
  | true => exact ha.run pins s1 σ H1 Q I1 q1
  | false => exact hb.run pins s1 σ H1 Q I1 q1⟩
/-- anything else that is a bool -/
theorem t_val (ha : PE X ea (TX B E xa)) (he : ∀ whole, isTrue ea X.env whole = (do let v ← whole; standAt ea.pos; holding [v] (truthy v))) : PT X ea (TB B E xa) := pt_val ha he

/-! ### argument lists, displays -/
variable {za : XA} {es : List Expr}
theorem a_nil : PA X [] (TAr B E aNil) := wkA pa_nil fun σ H Q ⟨m, s, env, k, kx, ar, er, hx, hk, hkx⟩ => hk [] m s H [] .refl ar rfl hx
theorem a_cons (ha : PE X ea (TX B E xa)) (hr : PA X es (TAr B E za)) (hs : starEach (ea :: es) X.env = (false, eval ea X.env) :: starEach es X.env) : PA X (ea :: es) (TAr B E (aCons xa za)) :=
  wkA (pa_cons ha hr hs) fun σ H Q ⟨m, s, env, k, kx, ar, er, hx, hk, hkx⟩ =>
    ⟨m, s, env, _, kx, ar, er, hx, fun u m1 s1 H1 x p1 a1 r1 h1 => ⟨m1, s1, env, _, kx, a1, er.post p1 ar, h1, fun us m2 s2 H2 xs p2 a2 r2 h2 =>
      hk (u :: us) m2 s2 H2 _ (p1.trans p2) a2 ⟨x, xs, rfl, p2.rd a1 r1, r2⟩ h2, hkx.post p1⟩, hkx⟩
end
end Ev
end
end

/-! part EvD -/
section
set_option Elab.async false
set_option linter.all false
set_option maxRecDepth 100000
set_option maxHeartbeats 4000000
/-! EvD: tuples and lists made, calls, blocks, a def's body. -/
noncomputable section
namespace Ev
open PySem PySem.Spec PyProof.Rows L2

/-! ### something new -/
section
variable {B : Bs} {m : Md} {s : S} {H : Hp}
/-- a thing that no one names in the state -/
theorem post_new {p : Addr} {o : HO} (hp : H p = none) : Post m s H m s (upd H p o) := ⟨.refl, fun b u h _ _ => by rw [upd_ne (ne_of_none h hp)]; exact h, fun _ h => .inl h, fun _ h => .inl h, fun _ _ h _ => h⟩
theorem ar_new {p : Addr} {o : HO} (ar : AR B m s H) (hp : H p = none) : AR B m s (upd H p o) := ⟨ar.desc, ar.num, ar.inj, fun i u h => (post_new hp).or_ ar (fun v q => by rw [upd_ne (ne_of_none q hp)]; exact q) (ar.obj i u h), ar.tabs.ext fun b u h => by rw [upd_ne (ne_of_none h hp)]; exact h, ar.lets⟩
def Md.add (m : Md) (n : Nat) (p : Addr) : Md := ⟨fun i => if i = n then p else m.ρ i, m.ν⟩
theorem add_same {n : Nat} {p : Addr} : (m.add n p).ρ n = p := if_pos rfl
theorem add_ne {n i : Nat} {p : Addr} (h : i ≠ n) : (m.add n p).ρ i = m.ρ i := if_neg h
theorem osGet_cons {os : List (Nat × O)} {n i : Nat} {o : O} : osGet ((n, o) :: os) i = if n = i then some o else osGet os i := by
  show Bool.rec (motive := fun _ => Option O) (osGet os i) (some o) (Nat.beq n i) = _
  by_cases h : n = i
  · rw [if_pos h]
    subst h
    rw [Nat.beq_refl]
  · rw [if_neg h]
    cases e : Nat.beq n i with
    | true => exact absurd (Nat.eq_of_beq_eq_true e) h
    | false => rfl
theorem osSet_cons {os : List (Nat × O)} {n i : Nat} {o u : O} : osSet ((i, o) :: os) n u = if i = n then (i, u) :: os else (i, o) :: osSet os n u := by
  show Bool.rec (motive := fun _ => List (Nat × O)) ((i, o) :: osSet os n u) ((i, u) :: os) (Nat.beq i n) = _
  by_cases h : i = n
  · rw [if_pos h]
    subst h
    rw [Nat.beq_refl]
  · rw [if_neg h]
    cases e : Nat.beq i n with
    | true => exact absurd (Nat.eq_of_beq_eq_true e) h
    | false => rfl
theorem osSet_keys : ∀ {os : List (Nat × O)} {n : Nat} {u : O}, (osSet os n u).map (·.1) = os.map (·.1)
  | [], _, _ => rfl
  | (i, o) :: r, n, u => by
    rw [osSet_cons]
    split
    · rfl
    · show i :: (osSet r n u).map (·.1) = i :: r.map (·.1)
      rw [osSet_keys]
theorem osSet_get : ∀ {os : List (Nat × O)} {n i : Nat} {u : O}, osGet (osSet os n u) i = if i = n then (osGet os i).map (fun _ => u) else osGet os i
  | [], n, i, _ => by
    show none = if i = n then none else none
    split <;> rfl
  | (j, o) :: r, n, i, u => by
    rw [osSet_cons]
    by_cases h : j = n
    · rw [if_pos h, osGet_cons, osGet_cons]
      by_cases h2 : j = i
      · rw [if_pos h2, if_pos (h2.symm.trans h), if_pos h2]
        rfl
      · rw [if_neg h2, if_neg h2, if_neg (fun z => h2 (h.trans z.symm))]
    · rw [if_neg h, osGet_cons, osGet_cons]
      by_cases h2 : j = i
      · rw [if_pos h2, if_pos h2, if_neg (fun z => h (h2.trans z))]
      · rw [if_neg h2, if_neg h2]
        exact osSet_get
theorem osGet_mem : ∀ {os : List (Nat × O)} {j : Nat}, j ∈ os.map (·.1) → ∃ o, osGet os j = some o
  | (i, o) :: r, j, h => by
    rw [osGet_cons]
    by_cases e : i = j
    · exact ⟨o, if_pos e⟩
    · rw [if_neg e]
      rcases List.mem_cons.mp (show j ∈ i :: r.map (·.1) from h) with q | q
      · exact absurd q.symm e
      · exact osGet_mem q
theorem osGet_in : ∀ {os : List (Nat × O)} {j : Nat} {o : O}, osGet os j = some o → j ∈ os.map (·.1)
  | (i, u) :: r, j, o, h => by
    rw [osGet_cons] at h
    by_cases e : i = j
    · rw [← e]
      exact List.mem_cons_self
    · rw [if_neg e] at h
      exact List.mem_cons_of_mem _ (osGet_in h)
/-- a new object -/
theorem made {nl no : Nat} {os : List (Nat × O)} {p : Addr} {o : O} {u : HO} (ar : AR B m (.mk nl no os) H) (hp : H p = none)
    (hO : ∀ m' s' H', Post m (.mk nl no os) H m' s' H' → H' p = some u → OR B m' s' H' p o) :
    Post m (.mk nl no os) H (m.add no p) (.mk nl (no + 1) ((no, o) :: os)) (upd H p u) ∧ AR B (m.add no p) (.mk nl (no + 1) ((no, o) :: os)) (upd H p u) ∧
      RDw B (m.add no p) (.mk nl (no + 1) ((no, o) :: os)) (upd H p u) (.ref no) (.ref p) := by
  have old : ∀ i v, osGet os i = some v → i ≠ no := fun i v h e => by
    have := ar.num i v h
    rw [e] at this
    exact Nat.lt_irrefl _ this
  have P : Post m (.mk nl no os) H (m.add no p) (.mk nl (no + 1) ((no, o) :: os)) (upd H p u) := by
    have sb : ∀ i v, osGet ((no, o) :: os) i = some v → osGet os i = some v ∧ (m.add no p).ρ i = m.ρ i ∨ NT H ((m.add no p).ρ i) := fun i v h' => by
      rw [osGet_cons] at h'
      by_cases e : no = i
      · refine .inr fun z hz => ?_
        rw [← e, add_same, hp] at hz
        cases hz
      · rw [if_neg e] at h'
        exact .inl ⟨h', add_ne (Ne.symm e)⟩
    refine ⟨⟨Nat.le_succ _, Nat.le_refl _, fun i h => add_ne (Nat.ne_of_lt h), fun _ _ => rfl⟩, fun b v h _ _ => by rw [upd_ne (ne_of_none h hp)]; exact h, ?_, ?_, fun i l h _ => ?_⟩
    · rintro b ⟨i, v, h, w, rfl⟩
      rcases sb i v h with ⟨h1, h2⟩ | h1
      · exact .inl ⟨i, v, h1, w, h2.symm⟩
      · exact .inr h1
    · rintro b ⟨i, v, h, rfl⟩
      rcases sb i v h with ⟨h1, h2⟩ | h1
      · exact .inl ⟨i, v, h1, h2.symm⟩
      · exact .inr h1
    · show osGet ((no, o) :: os) i = _
      rw [osGet_cons, if_neg (Ne.symm (old i _ h))]
      exact h
  refine ⟨P, ⟨List.pairwise_cons.mpr ⟨fun j hj => ?_, ar.desc⟩, fun i v h => ?_, fun i j v w h1 h2 e => ?_, fun i v h => ?_, ar.tabs.ext fun b v h => by rw [upd_ne (ne_of_none h hp)]; exact h, ar.lets⟩, ⟨Nat.lt_succ_self _, by rw [add_same]⟩⟩
  · obtain ⟨o', h'⟩ := osGet_mem (os := os) hj
    exact ar.num j o' h'
  · have h' : osGet ((no, o) :: os) i = some v := h
    rw [osGet_cons] at h'
    by_cases e : no = i
    · show i < no + 1
      rw [e]
      exact Nat.lt_succ_self _
    · rw [if_neg e] at h'
      exact Nat.lt_succ_of_lt (ar.num i v h')
  · have h1' : osGet ((no, o) :: os) i = some v := h1
    have h2' : osGet ((no, o) :: os) j = some w := h2
    rw [osGet_cons] at h1' h2'
    have at_ : ∀ k z, osGet os k = some z → m.ρ k ≠ p := fun k z hk q => by
      have h3 := ar.obj k z hk
      rw [q] at h3
      cases z with
      | lst l => obtain ⟨_, h4, _⟩ := h3; rw [hp] at h4; cases h4
      | fz l => obtain ⟨_, h4, _⟩ := h3; rw [hp] at h4; cases h4
      | dK l => obtain ⟨_, h4, _⟩ := h3; rw [hp] at h4; cases h4
      | dT l => rcases h3 with ⟨_, h4⟩ | ⟨_, _, _, h4, _⟩ <;> rw [hp] at h4 <;> cases h4
      | hid => obtain ⟨_, h4⟩ := h3; rw [hp] at h4; cases h4
      | bag => obtain ⟨_, _, _, h4⟩ := h3; rw [hp] at h4; cases h4
    by_cases e1 : no = i
    · by_cases e2 : no = j
      · exact e1.symm.trans e2
      · rw [if_neg e2] at h2'
        rw [← e1, add_same, add_ne (Ne.symm e2)] at e
        exact absurd e.symm (at_ j w h2')
    · rw [if_neg e1] at h1'
      by_cases e2 : no = j
      · rw [← e2, add_same, add_ne (Ne.symm e1)] at e
        exact absurd e (at_ i v h1')
      · rw [if_neg e2] at h2'
        rw [add_ne (Ne.symm e1), add_ne (Ne.symm e2)] at e
        exact ar.inj i j v w h1' h2' e
  · have h' : osGet ((no, o) :: os) i = some v := h
    rw [osGet_cons] at h'
    by_cases e : no = i
    · rw [if_pos e] at h'
      cases h'
      rw [← e, add_same]
      exact hO _ _ _ P upd_same
    · rw [if_neg e] at h'
      rw [add_ne (Ne.symm e)]
      exact P.or_ ar (fun z q => by rw [upd_ne (ne_of_none q hp)]; exact q) (ar.obj i v h')
theorem rds_len {nl no : Nat} {W : Addr → Prop} : ∀ {ds : List D} {xs : List V}, RDs B m nl no W H ds xs → ds.length = xs.length
  | [], _, h => by
    have e : _ = [] := h
    rw [e]
    rfl
  | _ :: ds, _, ⟨x, r, e, _, t⟩ => by
    rw [e, List.length_cons, List.length_cons, rds_len t]
end
/-- not too long -/
def shortB (l : List D) : Bool := Nat.ble l.length 1000000
theorem shortB_ok {l : List D} (h : shortB l = true) : l.length ≤ 1000000 := Nat.le_of_ble_eq_true h
def xTupS (a : XA) : XE := fun e s k x => a e s (fun us s1 => grd (shortB us) (k (.tup us) s1)) x
def xLstS (a : XA) : XE := fun e s k x => a e s (fun us s1 => grd (shortB us) (newO s1 (.lst us) k)) x
theorem newO_eq {nl no : Nat} {os : List (Nat × O)} {o : O} {k : D → S → Bool} : newO (.mk nl no os) o k = k (.ref no) (.mk nl (no + 1) ((no, o) :: os)) := frN_eq no fun no => k (.ref no) (.mk nl (Nat.succ no) ((no, o) :: os))
theorem size_ok {n : Nat} (h : n ≤ 1000000) : n ≤ sizeLine := by rw [sizeLine_eq]; omega
section
variable {X : Cx} {B : Bs} {E : XK} {xa : XE} {za : XA} {es : List Expr} {pos : Pos} {ea : Expr}
theorem x_tup {n1 : Nat} (h : PA X es (TAr B E za)) (hK : X.K = B.K) : PE X (.Tuple es n1 pos) (TX B E (xTupS za)) := wkE (pe_tup h) fun σ H Q ⟨m, s, env, k, kx, ar, er, hx, hk, hkx⟩ =>
  ⟨m, s, env, _, kx, ar, er, hx, fun us m1 s1 H1 xs p1 a1 r1 h => by
    obtain ⟨c, h1⟩ := grd_ok h
    have hl := shortB_ok c
    rw [rds_len r1] at hl
    refine ⟨size_ok hl, fun p hp => ?_⟩
    have P := post_new (m := m1) (s := s1) (o := .tup xs) hp
    exact hk (.tup us) m1 s1 _ _ (p1.trans P) (ar_new a1 hp) ⟨p, xs, rfl, .inl (.inl upd_same), P.rds a1 r1⟩ h1, hkx⟩
theorem x_lst (h : PA X es (TAr B E za)) : PE X (.List es pos) (TX B E (xLstS za)) := wkE (pe_lst h) fun σ H Q ⟨m, s, env, k, kx, ar, er, hx, hk, hkx⟩ =>
  ⟨m, s, env, _, kx, ar, er, hx, fun us m1 s1 H1 xs p1 a1 r1 h => by
    obtain ⟨c, h1⟩ := grd_ok h
    have hl := shortB_ok c
    rw [rds_len r1] at hl
    refine ⟨size_ok hl, fun p hp => ?_⟩
    obtain ⟨nl, no, os⟩ := s1
    rw [newO_eq] at h1
    obtain ⟨P, a2, r2⟩ := made (o := .lst us) (u := .lst xs) a1 hp fun m' s' H' P e => ⟨xs, e, P.rds a1 r1⟩
    exact hk (.ref no) _ _ _ _ (p1.trans P) a2 r2 h1, hkx⟩

/-! ### blocks -/
variable {b1 b2 : XS} {st : Stmt} {sts rest : List Stmt} {e : Expr}
theorem s_nil : PSs X [] (TSt B E sSkip) := wkSs pss_nil fun Dn σ H ⟨m, s, env, n, c, ar, er, hx, hn, hc⟩ => hn env m s H σ .refl ar er hx
theorem s_one (h : PS X st (TSt B E b1)) : PSs X [st] (TSt B E b1) := pss_one h
theorem s_seq (h1 : PS X st (TSt B E b1)) (h2 : PSs X rest (TSt B E b2)) : PSs X (st :: rest) (TSt B E (sSeq b1 b2)) := wkSs (pss_cons h1 h2) fun Dn σ H ⟨m, s, env, n, c, ar, er, hx, hn, hc⟩ =>
  ⟨m, s, env, _, c, ar, er, hx, fun env1 m1 s1 H1 σ1 p1 a1 e1 h => ⟨m1, s1, env1, n, c, a1, e1, h, hn.post p1, hc.post p1⟩, ⟨hc.rt, hc.bk, hc.ct, hc.xx⟩⟩
theorem s_pass : PS X (.Pass pos) (TSt B E sSkip) := wkS ps_pass fun Dn σ H ⟨m, s, env, n, c, ar, er, hx, hn, hc⟩ => hn env m s H σ .refl ar er hx
theorem s_ret (he : PE X e (TX B E xa)) : PS X (.Return (some e) pos) (TSt B E (sRet xa)) := wkS (ps_ret he) fun Dn σ H ⟨m, s, env, n, c, ar, er, hx, hn, hc⟩ => ⟨m, s, env, c.kr, c.kx, ar, er, hx, hc.rt, hc.xx⟩
theorem s_exp (he : PE X e (TX B E xa)) (hs : swapsWith e none pos.line X.env = pure false) : PS X (.Expr e pos) (TSt B E (sExp xa)) := wkS (ps_expr he hs) fun Dn σ H ⟨m, s, env, n, c, ar, er, hx, hn, hc⟩ =>
  ⟨m, s, env, _, c.kx, ar, er, hx, fun d m1 s1 H1 v p1 a1 r1 h => hn env m1 s1 H1 σ p1 a1 (er.post p1 ar) h, hc.xx⟩
theorem er_put {m : Md} {s : S} {H : Hp} {env : List D} {σ : L2.St} (er : ER B m s H env σ) {d : D} {v : V} (r : RDw B m s H d v) (i : Nat) : ER B m s H (put env d i) (σ.set i (some v)) := by
  refine ⟨by rw [put_eq, List.length_set, List.length_set]; exact er.len, fun j d' h => ?_⟩
  rw [put_eq, List.getElem?_set] at h
  by_cases e : i = j
  · subst e
    rw [if_pos rfl] at h
    by_cases hl : i < env.length
    · rw [if_pos hl] at h
      cases h
      exact .inr ⟨v, by rw [List.getElem?_set, if_pos rfl, if_pos (by rw [← er.len]; exact hl)], r⟩
    · rw [if_neg hl] at h
      cases h
  · rw [if_neg e] at h
    rw [List.getElem?_set, if_neg e]
    exact er.at_ j d' h
theorem s_set {i : Nat} {x : Str} {pos' : Pos} (hN : X.N.Nodup) (hi : X.N[i]? = some x) (hx : Loc X.env.scope x) (hf : X.fn x = true ∨ X.env.scope.names.lookup x = some .local) (he : PE X e (TX B E xa)) (hs : swapsWith e (some (.Name x pos')) pos.line X.env = pure false) :
    PS X (.Assign [.Name x pos'] e pos) (TSt B E (sSet i xa)) := wkS (ps_set hN hi hx he hs hf) fun Dn σ H ⟨m, s, env, n, c, ar, er, hx, hn, hc⟩ =>
  ⟨m, s, env, _, c.kx, ar, er, hx, fun d m1 s1 H1 v p1 a1 r1 h => hn _ m1 s1 H1 _ p1 a1 (er_put (er.post p1 ar) r1 i) h, hc.xx⟩
theorem s_if {c : Expr} {q : XE} {a b : List Stmt} (hc : PT X c (TB B E q)) (ha : PSs X a (TSt B E b1)) (hb : PSs X b (TSt B E b2)) : PS X (.If c a b pos) (TSt B E (sIf q b1 b2)) := wkS (ps_if hc ha hb) fun Dn σ H ⟨m, s, env, n, c, ar, er, hx, hn, hc⟩ =>
  ⟨m, s, env, _, c.kx, ar, er, hx, fun u m1 s1 H1 x p1 a1 r1 h => by
    obtain ⟨t, e1, h1⟩ := asB_ok h
    subst e1
    cases r1
    refine ⟨t, rfl, ?_⟩
    rcases ifB_ok h1 with ⟨e, h3⟩ | ⟨e, h3⟩
    · rw [if_pos e]
      exact ⟨m1, s1, env, n, c, a1, er.post p1 ar, h3, hn.post p1, hc.post p1⟩
    · rw [if_neg (by rw [e]; exact Bool.false_ne_true)]
      exact ⟨m1, s1, env, n, c, a1, er.post p1 ar, h3, hn.post p1, hc.post p1⟩, hc.xx⟩
/-- while: the turns that are left -/
theorem s_while {c : Expr} {q : XE} {body : List Stmt} {f : Nat} (hp : PassesOwn (model X.prog X.w) X.A X.env X.xe) (hc : PT X c (TB B E q)) (hb : PSs X body (TSt B E b1)) : PS X (.While c body [] pos) (TSt B E (sWhile q b1 f)) := wkS (ps_while hp hc hb) fun Dn σ H ⟨m, s, env, n, c, ar, er, hx, hn, hc⟩ => by
  refine ⟨fun f' σ' H' => ∃ m' s' env', Post m s H m' s' H' ∧ AR B m' s' H' ∧ ER B m' s' H' env' σ' ∧ sWhile q b1 f' env' s' n c = true, ⟨f, m, s, env, .refl, ar, er, hx⟩, ?_⟩
  rintro f' σ' H' ⟨m', s', env', p, a, r, h⟩
  cases f' with
  | zero => exact absurd (show false = true from h) Bool.false_ne_true
  | succ f' =>
    have h' : q env' s' (fun u s1 => asB u fun t => ifB t (b1 env' s1 (fun e2 s2 => sWhile q b1 f' e2 s2 n c) ⟨c.kr, n, fun e2 s2 => sWhile q b1 f' e2 s2 n c, c.kx⟩) (n env' s1)) c.kx = true := h
    refine ⟨m', s', env', _, c.kx, a, r, h', fun u m1 s1 H1 x p1 a1 r1 h => ?_, hc.xx.post p⟩
    obtain ⟨t, e1, h1⟩ := asB_ok h
    subst e1
    cases r1
    refine ⟨t, rfl, ?_⟩
    rcases ifB_ok h1 with ⟨e, h3⟩ | ⟨e, h3⟩
    · rw [if_pos e]
      have pp := p.trans p1
      refine ⟨fun σ2 H2 => ∃ m2 s2 env2, Post m s H m2 s2 H2 ∧ AR B m2 s2 H2 ∧ ER B m2 s2 H2 env2 σ2 ∧ sWhile q b1 f' env2 s2 n c = true, fun σ2 H2 z => ⟨f', Nat.lt_succ_self _, z⟩, ?_⟩
      exact ⟨m1, s1, env', _, _, a1, r.post p1 a, h3, fun e2 m2 s2 H2 σ2 p2 a2 r2 h2 => ⟨m2, s2, e2, pp.trans p2, a2, r2, h2⟩,
        ⟨hc.rt.post pp, hn.post pp, fun e2 m2 s2 H2 σ2 p2 a2 r2 h2 => ⟨m2, s2, e2, pp.trans p2, a2, r2, h2⟩, hc.xx.post pp⟩⟩
    · rw [if_neg (by rw [e]; exact Bool.false_ne_true)]
      exact hn env' m1 s1 H1 _ (p.trans p1) a1 (r.post p1 a) h3
end
end Ev
end
end

/-! part EvE -/
section
set_option Elab.async false
set_option linter.all false
set_option maxRecDepth 100000
set_option maxHeartbeats 4000000
/-! EvE: contexts, a def's promise, calls. -/
noncomputable section
namespace Ev
open PySem PySem.Spec PyProof.Rows L2

/-- what is known of a block ahead: its names, its scope, the room below it, whether no guard stands around it, whether all its cells are its own -/
structure SI where
  N : List Str
  sc : Scope
  k : Nat
  gd : Bool
  fn : Str → Bool
  lm : Bool
structure Cok (B : Bs) (c : SI) (E : XK) (X : Cx) : Prop where
  P : X.prog = B.P
  w : X.w = B.w
  K : X.K = B.K
  mg : X.mg = B.mg
  base : X.base = B.base
  N : X.N = c.N
  sc : X.env.scope = c.sc
  nd : c.N.Nodup
  calm : X.calm = true
  room : Room c.k X.A
  grd : c.gd = true → X.A.guards = some []
  own : PassesOwn (model X.prog X.w) X.A X.env X.xe
  tk : Takes X (fun cls d _ H => E cls d H)
  fn : X.fn = c.fn
  lm : c.lm = true → ∃ cd P, X.env.code = .ref cd ∧ LamX.TabB B.base B.mg cd P ∧ (P, X.env.qual ++ "<lambda>") ∈ B.T ∧ ∀ p ∈ B.T, p.1 = P → p.2 = X.env.qual ++ "<lambda>"

/-! ### a def's promise -/
def SpF (B : Bs) (f : XF) : Sp := fun vs H Q E => ∃ m s ds k kx, AR B m s H ∧ RDws B m s H ds vs ∧ f ds s k kx = true ∧ KDok B m s H k Q ∧ KXok B m s H kx E
structure FnC (B : Bs) (gd : Bool) (l : Nat) (x : Str) (xf : XF) : Prop where
  ok : ∃ f, B.mg x = some (.ref f) ∧ PySem.W.keepIn B.K (.ref f) = true ∧ ∀ (A : Around) (outer : List Env) (s : Shared) (H : Hp) (us : List Value) (vs : List V) (Q : VK) (E : XK), Room l A → (gd = true → A.guards = some []) →
    Env0 B.P B.w B.K B.mg B.base A outer s H → Vals vs us → SpF B xf vs H Q E → codeAny (model B.P B.w) A (.call (.ref f) ⟨us, []⟩) (CR (L2.CX B.P B.w) outer B.P B.w H s Q E) s
theorem FnC.up {B : Bs} {l l' : Nat} {x : Str} {xf : XF} {gd gd' : Bool} (h : FnC B gd l x xf) (q : l ≤ l') (g : gd = true → gd' = true) : FnC B gd' l' x xf := by
  obtain ⟨f, h1, h2, h3⟩ := h.ok
  exact ⟨f, h1, h2, fun A outer s H us vs Q E hr hg => h3 A outer s H us vs Q E (hr.mono q) fun z => hg (g z)⟩
/-- objects that came later are let go -/
def trimO (n : Nat) : List (Nat × O) → List (Nat × O) := List.rec (motive := fun _ => List (Nat × O)) [] fun p r ih => Prod.rec (motive := fun _ => List (Nat × O)) (fun i o => Bool.rec (motive := fun _ => List (Nat × O)) ((i, o) :: r) ih (Nat.ble n i)) p
def sNo (s : S) : Nat := S.rec (motive := fun _ => Nat) (fun _ no _ => no) s
def trim (n : Nat) (s : S) (k : S → Bool) : Bool := S.rec (motive := fun _ => Bool) (fun nl no os => k (.mk nl no (trimO n os))) s
/-- a def's body: n parameters, p further slots; t: what it made is let go at its end -/
def padU (p : Nat) (us : List D) : List D := us ++ List.replicate p .unb
def xDef (n p : Nat) (t : Bool) (b : XS) : XF := fun us s k kx => grd (Nat.beq us.length n)
  (Bool.rec (motive := fun _ => Bool) (b (padU p us) s (fun _ s1 => k .non s1) ⟨k, fun _ _ => false, fun _ _ => false, kx⟩)
    (frN (sNo s) fun z => b (padU p us) s (fun _ s1 => trim z s1 fun s2 => k .non s2) ⟨fun d s1 => trim z s1 fun s2 => k d s2, fun _ _ => false, fun _ _ => false, fun c d s1 => trim z s1 fun s2 => kx c d s2⟩) t)
theorem trim_eq {n nl no : Nat} {os : List (Nat × O)} {k : S → Bool} : trim n (.mk nl no os) k = k (.mk nl no (trimO n os)) := rfl
theorem trimO_cons {n i : Nat} {o : O} {r : List (Nat × O)} : trimO n ((i, o) :: r) = if n ≤ i then trimO n r else (i, o) :: r := by
  show Bool.rec (motive := fun _ => List (Nat × O)) ((i, o) :: r) (trimO n r) (Nat.ble n i) = _
  by_cases h : n ≤ i
  · rw [if_pos h, Nat.ble_eq_true_of_le h]
  · rw [if_neg h]
    cases e : Nat.ble n i with
    | true => exact absurd (Nat.le_of_ble_eq_true e) h
    | false => rfl
section
variable {B : Bs} {m : Md} {s : S} {H : Hp}
/-- objects let go -/
theorem trim_get : ∀ {os : List (Nat × O)} {n i : Nat} {o : O}, (os.map (·.1)).Pairwise (fun a b => b < a) → osGet (trimO n os) i = some o → osGet os i = some o
  | [], _, _, _, _, h => h
  | (j, u) :: r, n, i, o, d, h => by
    rw [trimO_cons] at h
    by_cases e : n ≤ j
    · rw [if_pos e] at h
      have d' := List.pairwise_cons.mp d
      have q := trim_get d'.2 h
      have l := d'.1 i (osGet_in q)
      rw [osGet_cons, if_neg (Nat.ne_of_gt l)]
      exact q
    · rw [if_neg e] at h
      exact h
theorem trim_keep : ∀ {os : List (Nat × O)} {n i : Nat} {o : O}, i < n → osGet os i = some o → osGet (trimO n os) i = some o
  | (j, u) :: r, n, i, o, d, h => by
    rw [trimO_cons]
    by_cases e : n ≤ j
    · rw [if_pos e]
      rw [osGet_cons, if_neg (fun z => absurd (Nat.lt_of_lt_of_le d e) (by rw [z]; exact Nat.lt_irrefl _))] at h
      exact trim_keep d h
    · rw [if_neg e]
      exact h
theorem trim_desc : ∀ {os : List (Nat × O)} {n : Nat}, (os.map (·.1)).Pairwise (fun a b => b < a) → ((trimO n os).map (·.1)).Pairwise (fun a b => b < a)
  | [], _, d => d
  | (j, u) :: r, n, d => by
    rw [trimO_cons]
    by_cases e : n ≤ j
    · rw [if_pos e]
      exact trim_desc (List.pairwise_cons.mp d).2
    · rw [if_neg e]
      exact d
/-- behind a trim -/
theorem post_trim {m0 : Md} {s0 : S} {H0 : Hp} {n nl no : Nat} {os : List (Nat × O)} (p : Post m0 s0 H0 m (.mk nl no os) H) (hn : s0.no ≤ n) (n0 : ∀ i o, osGet s0.os i = some o → i < s0.no) (ar : AR B m (.mk nl no os) H) :
    Post m0 s0 H0 m (.mk nl no (trimO n os)) H ∧ AR B m (.mk nl no (trimO n os)) H ∧ ∀ d v, RDw B m (.mk nl no os) H d v → RDw B m (.mk nl no (trimO n os)) H d v := by
  have g : ∀ i o, osGet (trimO n os) i = some o → osGet os i = some o := fun i o h => trim_get ar.desc h
  have P : Post m (.mk nl no os) H m (.mk nl no os) H := .refl
  have st : Stay (fun _ => False) (Al m (.mk nl no os)) (Al m (.mk nl no (trimO n os))) H H := ⟨fun _ _ h _ _ => h, fun _ z => z.elim, fun b ⟨i, o, e, q⟩ => .inl ⟨i, o, g i o e, q⟩, fun _ z => z.elim⟩
  have rd : ∀ d v, RDw B m (.mk nl no os) H d v → RDw B m (.mk nl no (trimO n os)) H d v := fun d v h => RD.stay st .refl h
  have rds : ∀ d v, RDws B m (.mk nl no os) H d v → RDws B m (.mk nl no (trimO n os)) H d v := fun d v h => RDs.stay st .refl h
  have kp : ∀ {κ : Type} (l : List (κ × D)) ws, KP B m (.mk nl no os) H l ws → KP B m (.mk nl no (trimO n os)) H l ws := fun {κ} l => by
    induction l with
    | nil => exact fun ws h => h
    | cons a r ih => exact fun ws ⟨v, t, e, h, k⟩ => ⟨v, t, e, rd _ _ h, ih _ k⟩
  refine ⟨⟨p.more, p.keep, fun b ⟨i, o, e, w, q⟩ => p.wsub b ⟨i, o, g i o e, w, q⟩, fun b ⟨i, o, e, q⟩ => p.alsub b ⟨i, o, g i o e, q⟩, fun i l h w => ?_⟩,
    ⟨trim_desc ar.desc, fun i o h => ar.num i o (g i o h), fun i j o o' h1 h2 => ar.inj i j o o' (g i o h1) (g j o' h2), fun i o h => ?_, ar.tabs, ar.lets⟩, rd⟩
  · exact trim_keep (Nat.lt_of_lt_of_le (n0 i _ h) hn) (p.fzp i l h w)
  · have q := ar.obj i o (g i o h)
    cases o with
    | lst l => obtain ⟨xs, h, q⟩ := q; exact ⟨xs, h, rds _ _ q⟩
    | fz l => obtain ⟨xs, h, q⟩ := q; exact ⟨xs, h, rds _ _ q⟩
    | dK l => obtain ⟨xs, h, q⟩ := q; exact ⟨xs, h, kp _ _ q⟩
    | dT l => exact DTR.map (fun _ _ q => q) rd (fun _ h => h) q
    | hid => exact q
    | bag => exact q
theorem sNo_eq {s : S} : sNo s = s.no := by cases s; rfl
theorem trim_kd {m0 : Md} {s0 : S} {H0 : Hp} {k : KD} {Q : VK} (n0 : ∀ i o, osGet s0.os i = some o → i < s0.no) (h : KDok B m0 s0 H0 k Q) : KDok B m0 s0 H0 (fun d s1 => trim s0.no s1 fun s2 => k d s2) Q := fun d m' s' H' v p a r q => by
  obtain ⟨nl, no, os⟩ := s'
  obtain ⟨P, A, R⟩ := post_trim p (Nat.le_refl _) n0 a
  exact h d m' _ H' v P A (R d v r) q
theorem trim_kx {m0 : Md} {s0 : S} {H0 : Hp} {k : KX} {E : XK} (n0 : ∀ i o, osGet s0.os i = some o → i < s0.no) (h : KXok B m0 s0 H0 k E) : KXok B m0 s0 H0 (fun c d s1 => trim s0.no s1 fun s2 => k c d s2) E := fun c d m' s' H' cls dd p a r q => by
  obtain ⟨nl, no, os⟩ := s'
  obtain ⟨P, A, R⟩ := post_trim p (Nat.le_refl _) n0 a
  refine h c d m' _ H' cls dd P A ⟨r.1, ?_⟩ q
  rcases r.2 with z | ⟨x, v, e1, e2, e3⟩
  · exact .inl z
  · exact .inr ⟨x, v, e1, e2, R _ _ e3⟩
/-- the slots at the entry -/
theorem er_pad {ds : List D} {vs : List V} {N : List Str} {p : Nat} (r : RDws B m s H ds vs) (hp : N.length = vs.length + p) : ER B m s H (padU p ds) (L2.start N vs) := by
  have e : N.length - vs.length = p := by omega
  have get : ∀ {ds : List D} {vs : List V}, RDws B m s H ds vs → ∀ (i : Nat) d, ds[i]? = some d → ∃ v, vs[i]? = some v ∧ RDw B m s H d v := fun {ds} => by
    induction ds with
    | nil => exact fun r i d h => by simp at h
    | cons a l ih =>
      rintro _ ⟨x, t, rfl, h1, h2⟩ i d h
      cases i with
      | zero => simp at h; subst h; exact ⟨x, rfl, h1⟩
      | succ i => exact ih h2 i d (by simpa using h)
  have len := rds_len r
  unfold L2.start padU
  rw [e]
  refine ⟨by rw [List.length_append, List.length_append, List.length_replicate, List.length_replicate, List.length_map, len], fun i d h => ?_⟩
  by_cases hi : i < ds.length
  · rw [List.getElem?_append_left hi] at h
    obtain ⟨v, h1, h2⟩ := get r i d h
    refine .inr ⟨v, ?_, h2⟩
    rw [List.getElem?_append_left (by rw [List.length_map, ← len]; exact hi), List.getElem?_map, h1]
    rfl
  · rw [List.getElem?_append_right (Nat.le_of_not_lt hi), List.getElem?_replicate] at h
    split at h
    · cases h
      exact .inl rfl
    · cases h
/-- a def's body, in the reading that its rule wants -/
theorem x_def {vs : List V} {Q : VK} {E : XK} {n p : Nat} {t : Bool} {b : XS} {N : List Str} (hn : N.length = n + p) (h : SpF B (xDef n p t b) vs H Q E) :
    TSt B E b { nx := fun _ H' => Q .non H', rt := Q } (L2.start N vs) H ∧ vs.length = n := by
  obtain ⟨m, s, ds, k, kx, ar, r, hx, hk, hkx⟩ := h
  obtain ⟨e, h1⟩ := grd_ok (show grd (Nat.beq ds.length n) _ = true from hx)
  have e' : ds.length = n := Nat.eq_of_beq_eq_true e
  have len := rds_len r
  have er : ER B m s H (padU p ds) (L2.start N vs) := er_pad r (by rw [hn, ← e', len])
  refine ⟨?_, by rw [← len, e']⟩
  cases t with
  | false =>
    exact ⟨m, s, _, _, _, ar, er, h1, fun env m' s' H' σ P A R q => hk .non m' s' H' _ P A rfl q, ⟨hk, fun env m' s' H' σ _ _ _ z => absurd z Bool.false_ne_true, fun env m' s' H' σ _ _ _ z => absurd z Bool.false_ne_true, hkx⟩⟩
  | true =>
    have h2 : frN (sNo s) _ = true := h1
    rw [frN_eq, sNo_eq] at h2
    have hk' := trim_kd ar.num hk
    exact ⟨m, s, _, _, _, ar, er, h2, fun env m' s' H' σ P A R q => hk' .non m' s' H' _ P A rfl q, ⟨hk', fun env m' s' H' σ _ _ _ z => absurd z Bool.false_ne_true, fun env m' s' H' σ _ _ _ z => absurd z Bool.false_ne_true, trim_kx ar.num hkx⟩⟩
end

/-- a def's context -/
theorem cok_def {B : Bs} {N : List Str} (nd : N.Nodup) {qual : Str} {scope : Scope} {f : Addr} {cdv : Value} {A : Around} {outer : List Env} {s : Shared} {H : Hp} {E : XK} {k : Nat} {gd lm : Bool} (hr : Room k (A.deeper (envOfC qual scope s.heap.objs.size f cdv))) (hg : gd = true → A.guards = some [])
    (hl : lm = true → ∃ cd P, cdv = .ref cd ∧ LamX.TabB B.base B.mg cd P ∧ (P, qual ++ ".<locals>." ++ "<lambda>") ∈ B.T ∧ ∀ p ∈ B.T, p.1 = P → p.2 = qual ++ ".<locals>." ++ "<lambda>") :
    Cok B ⟨N, scope, k, gd, fun _ => true, lm⟩ E (cxOf (L2.CX B.P B.w) B.P B.w B.K B.mg B.base N qual scope f cdv A outer s H E) :=
  ⟨rfl, rfl, rfl, rfl, rfl, rfl, rfl, nd, rfl, hr, hg, passes_of (K := fun e s'' => L2.CX B.P B.w outer H s E e s'') rfl, takes_of rfl rfl rfl rfl, rfl, hl⟩
/-- the def's table of lambdas -/
def LamF (B : Bs) (x qual : Str) (f : Addr) : Prop := ∀ oc od params body scope dV kV doc pm an cdv ct osl, B.K.lookup f = some ⟨oc, od, .func (PySem.W.fnOf x qual params body scope dV kV doc pm an cdv ct), osl⟩ → ∃ cd P, cdv = .ref cd ∧ LamX.TabB B.base B.mg cd P ∧ (P, qual ++ ".<locals>." ++ "<lambda>") ∈ B.T ∧ ∀ p ∈ B.T, p.1 = P → p.2 = qual ++ ".<locals>." ++ "<lambda>"
/-- a def -/
theorem fn_def {B : Bs} {x qual : Str} {params : Arguments} {body : List Stmt} {scope : Scope} {f : Addr} {fd : FuncData} {N ps : List Str} {k n p : Nat} {t gd lm : Bool} {b : XS} (F : FunD B.K x qual params body scope [] [] f fd) (hm : B.mg x = some (.ref f)) (S : FnScope N ps scope) (hn : ps.length = n) (hN : N.length = n + p)
    (hb : ∀ (kV doc pm : Value) (an : Option Addr) (cdv ct : Value) (us : List Value), us.length = ps.length → bindArgs (PySem.W.fnOf x qual params body scope .none kV doc pm an cdv ct) ⟨us, []⟩ = pure (ps.zip us)) (hl : lm = true → LamF B x qual f)
    (hbody : ∀ X E, Cok B ⟨N, scope, k, gd, fun _ => true, lm⟩ E X → PSs X body (TSt B E b)) : FnC B gd (k + 1) x (xDef n p t b) := by
  refine ⟨f, hm, F.kp, fun A outer s H us vs Q E hr hg e0 r h => ?_⟩
  obtain ⟨h1, h2⟩ := x_def hN h
  have hlen : us.length = ps.length := by rw [← r.length, h2, hn]
  have B1 := F.bindsA hb s us hlen
  obtain ⟨oc, od, dV, kV, doc, pm, an, cdv, ct, osl, rfl, lk, hcd, _, _⟩ := F.ex
  refine LamX.run_ofS (N := N) (ps := ps) (us := us) (vs := vs) lk hcd S hr e0 B1 r (by rw [h2, hn]) fun hr' => ?_
  exact ⟨TSt B E b, hbody _ E (cok_def S.nd hr' hg fun z => hl z _ _ _ _ _ _ _ _ _ _ _ _ _ lk), h1⟩
end Ev
end
end

/-! part EvF -/
section
set_option Elab.async false
set_option linter.all false
set_option maxRecDepth 100000
set_option maxHeartbeats 4000000
/-! EvF: calls of defs. -/
noncomputable section
namespace Ev
open PySem PySem.Spec PyProof.Rows L2

section
variable {B : Bs} {c : SI} {E : XK} {X : Cx}
theorem Cok.gl (C : Cok B c E X) {x : Str} (h : c.sc.names.lookup x = some .globalImplicit) : Gl X x := by
  show X.env.scope.names.lookup x = _
  rw [C.sc]
  exact h
theorem Cok.vis (C : Cok B c E X) {x : Str} (h : Vis c.sc x) : Vis X.env.scope x := by rw [C.sc]; exact h
theorem Cok.loc (C : Cok B c E X) {x : Str} (h : Loc c.sc x) : Loc X.env.scope x := by rw [C.sc]; exact h
theorem Cok.at_ (C : Cok B c E X) {x : Str} {i : Nat} (h : c.N[i]? = some x) : X.N[i]? = some x := by rw [C.N]; exact h
/-- the callee runs -/
theorem Cok.run (C : Cok B c E X) {l : Nat} {xf : XF} {f : Addr} (hr : ∀ (A : Around) (outer : List Env) (s : Shared) (H : Hp) (us : List Value) (vs : List V) (Q : VK) (E : XK), Room l A → (c.gd = true → A.guards = some []) →
    Env0 B.P B.w B.K B.mg B.base A outer s H → Vals vs us → SpF B xf vs H Q E → codeAny (model B.P B.w) A (.call (.ref f) ⟨us, []⟩) (CR (L2.CX B.P B.w) outer B.P B.w H s Q E) s) (hl : l ≤ c.k)
    {pins : List (Addr × Obj)} {σ : L2.St} {H : Hp} {s : Shared} {Q : VK} {us : List Value} {vs : List V} (I : Inv X pins σ H s) (r : Vals vs us) (h : SpF B xf vs H Q E) : wpAny (model X.prog X.w) X.A (call (.ref f) us) (EP X pins σ Q) X.xe s := by
  have e0 := I.env0
  have hx := passes_call (E := E) C.tk fun _ _ _ _ h => h
  rw [C.P, C.w, C.K, C.mg, C.base] at e0
  have q := hr X.A X.stack s H us vs Q E (C.room.mono hl) C.grd e0 r h
  rw [← C.P, ← C.w] at q
  refine wpAny_call (codeAny_mono q fun r s' hq => ?_)
  cases r with
  | error e => exact hx pins σ H s e s' I hq
  | ok fl =>
    cases fl with
    | ret u => exact I.after hq
    | next => exact False.elim hq
    | brk => exact False.elim hq
    | cont => exact False.elim hq
variable {l : Nat} {x : Str} {xf : XF} {e : Expr} {es : List Expr} {za : XA} {p pos sp_ : Pos}
theorem call_two {vs : List V} {σ : L2.St} {H : Hp} {Q : VK} (h : TX B E (xCall xf za) σ H Q) : TAr B E za σ H fun vs H1 => SpF B xf vs H1 Q E := by
  obtain ⟨m, s, env, k, kx, ar, er, hx, hk, hkx⟩ := h
  exact ⟨m, s, env, _, kx, ar, er, hx, fun us m1 s1 H1 xs p1 a1 r1 h1 => ⟨m1, s1, us, k, kx, a1, r1, h1, hk.post p1, hkx.post p1⟩, hkx⟩
theorem x_call (C : Cok B c E X) (F : FnC B c.gd l x xf) (hl : l ≤ c.k) (hg : c.sc.names.lookup x = some .globalImplicit) (hdb : (x == ("__debug__" : Str)) = false) (ha : PA X (e :: es) (TAr B E za))
    (he : starEach (e :: es) X.env = (false, eval e X.env) :: starEach es X.env) (hpl : (backTo pos (starEach es X.env)).any (·.1) = false) : PE X (.Call (.Name x p) (e :: es) [] pos) (TX B E (xCall xf za)) := by
  obtain ⟨f, hm, hk, hr⟩ := F.ok
  refine ⟨fun pins s σ H Q I h => ?_⟩
  refine wpAny_Call_Name_kw (ld_glob I (C.gl hg) (by rw [C.mg]; exact hm) ?_ hdb)
  refine PySem.W.callWith_K (h₀ := X.base) I.ok.mod.kin (by rw [C.K]; exact hk) (thn (ha.run pos pins s σ H _ I (call_two (vs := []) h)) fun us s1 ⟨vs, H1, I1, r, q⟩ => ⟨I1.kIn, ?_⟩) he hpl
  exact C.run hr hl I1 r q
theorem x_call0 (C : Cok B c E X) (F : FnC B c.gd l x xf) (hl : l ≤ c.k) (hg : c.sc.names.lookup x = some .globalImplicit) (hdb : (x == ("__debug__" : Str)) = false) : PE X (.Call (.Name x p) [] [] pos) (TX B E (xCall xf aNil)) := by
  obtain ⟨f, hm, hk, hr⟩ := F.ok
  refine ⟨fun pins s σ H Q I h => ?_⟩
  refine wpAny_Call_Name_kw (ld_glob I (C.gl hg) (by rw [C.mg]; exact hm) ?_ hdb)
  obtain ⟨m, s1, env, k, kx, ar, er, hx, hq, hkx⟩ := h
  exact PySem.W.callWith_K0 I.kIn (by rw [C.K]; exact hk) (C.run hr hl (us := []) (vs := []) I .nil ⟨m, s1, [], k, kx, ar, rfl, hx, hq, hkx⟩)
/-- x(e, .., *y) -/
theorem x_callS2 (C : Cok B c E X) (F : FnC B c.gd l x xf) (hl : l ≤ c.k) (hg : c.sc.names.lookup x = some .globalImplicit) (hdb : (x == ("__debug__" : Str)) = false) (ha : PA X (e :: es) (TAr B E za))
    (he : starEach (e :: es) X.env = (false, eval e X.env) :: starEach es X.env) (hst : (backTo pos (starEach es X.env)).any (·.1) = true) : PE X (.Call (.Name x p) (e :: es) [] pos) (TX B E (xCall xf za)) := by
  obtain ⟨f, hm, hk, hr⟩ := F.ok
  refine ⟨fun pins s σ H Q I h => ?_⟩
  refine wpAny_Call_Name_kw (ld_glob I (C.gl hg) (by rw [C.mg]; exact hm) ?_ hdb)
  refine PySem.W.callWith_S2 (h₀ := X.base) I.ok.mod.kin (by rw [C.K]; exact hk) (thn (ha.run pos pins s σ H _ I (call_two (vs := []) h)) fun us s1 ⟨vs, H1, I1, r, q⟩ => ⟨I1.kIn, ?_⟩) he hst
  exact C.run hr hl I1 r q
end
end Ev
end
end

/-! part EvG -/
section
set_option Elab.async false
set_option linter.all false
set_option maxRecDepth 100000
set_option maxHeartbeats 4000000
/-! EvG: objects that change: written, frozen, taken in. -/
noncomputable section
namespace Ev
open PySem PySem.Spec PyProof.Rows L2

def HO.obj : HO → Bool
  | .lst _ => true
  | .dK _ => true
  | .dT _ => true
  | _ => false
section
variable {B : Bs} {m m' : Md} {s s' : S} {H H' : Hp} {nl no n : Nat} {os os' : List (Nat × O)} {o o' : O} {u : HO}
/-- an object of ours: nothing that a table tells -/
def ObjAt (H : Hp) (a : Addr) : Prop := (∃ v, H a = some v ∧ HO.obj v = true) ∨ DxAt H a
theorem AR.is_obj (ar : AR B m s H) {i : Nat} {v : O} (h : osGet s.os i = some v) : ObjAt H (m.ρ i) := by
  have q := ar.obj i v h
  cases v with
  | lst l => obtain ⟨xs, h, _⟩ := q; exact .inl ⟨_, h, rfl⟩
  | fz l => obtain ⟨xs, h, _⟩ := q; exact .inl ⟨_, h, rfl⟩
  | dK l => obtain ⟨xs, h, _⟩ := q; exact .inl ⟨_, h, rfl⟩
  | dT l =>
    rcases q with ⟨_, h⟩ | ⟨_, _, _, h, p, _⟩
    · exact .inl ⟨_, h, rfl⟩
    · exact .inr (.of h p)
  | hid => obtain ⟨_, h⟩ := q; exact .inl ⟨_, h, rfl⟩
  | bag => obtain ⟨_, _, _, h⟩ := q; exact .inl ⟨_, h, rfl⟩
theorem ObjAt.nt {a : Addr} (h : ObjAt H a) : ∃ u, H a = some u ∧ ∀ ps, u ≠ .tbl ps := by
  rcases h with ⟨v, h, hv⟩ | ⟨φ, h0, ob, es, ep, h, _⟩
  · exact ⟨v, h, fun ps z => by subst z; cases hv⟩
  · exact ⟨_, h, fun ps z => by cases z⟩
theorem tabs_upd {T : List (Addr × Str)} {a : Addr} (t : LamX.Tabs T H) (h : ObjAt H a) : LamX.Tabs T (upd H a u) := fun p hp => by
  obtain ⟨ps, h1, h2, h3⟩ := t p hp
  have ne : ∀ b w, H b = some w → ((∃ ps, w = .tbl ps) ∨ ∃ q, w = LamX.CodeO b q) → b ≠ a := fun b w e z q => by
    subst q
    rcases h with ⟨v, h, hv⟩ | ⟨φ, h0, ob, es, ep, h, p, g1, g2⟩
    · rw [h] at e
      cases e
      rcases z with ⟨_, z⟩ | ⟨_, z⟩ <;> subst z <;> cases hv
    · rw [h] at e
      cases e
      rcases z with ⟨_, z⟩ | ⟨_, z⟩
      · cases z
      · unfold LamX.CodeO at z
        cases z
        obtain ⟨oc, vs, _, q1, q2, _⟩ := p
        rw [g1] at q1
        cases q1
        rw [g2] at q2
        cases q2
  refine ⟨ps, by rw [upd_ne (ne _ _ h1 (.inl ⟨_, rfl⟩))]; exact h1, h2, fun pos cv hc => ?_⟩
  obtain ⟨c, e1, e2⟩ := h3 pos cv hc
  exact ⟨c, e1, by rw [upd_ne (ne _ _ e2 (.inr ⟨_, rfl⟩))]; exact e2⟩
/-- an object written -/
theorem put_obj (ar : AR B m (.mk nl no os) H) (hg : osGet os n = some o) (hw : o.wr = true)
    (hO : ∀ H', Post m (.mk nl no os) H m (.mk nl no (osSet os n o')) H' → H' (m.ρ n) = some u → OR B m (.mk nl no (osSet os n o')) H' (m.ρ n) o') :
    Post m (.mk nl no os) H m (.mk nl no (osSet os n o')) (upd H (m.ρ n) u) ∧ AR B m (.mk nl no (osSet os n o')) (upd H (m.ρ n) u) := by
  have back : ∀ i v, osGet (osSet os n o') i = some v → (i = n ∧ v = o') ∨ (i ≠ n ∧ osGet os i = some v) := fun i v h => by
    rw [osSet_get] at h
    by_cases e : i = n
    · rw [if_pos e, e, hg] at h
      exact .inl ⟨e, (Option.some.inj h).symm⟩
    · rw [if_neg e] at h
      exact .inr ⟨e, h⟩
  have wn : Wr m (.mk nl no os) (m.ρ n) := ⟨n, o, hg, hw, rfl⟩
  have P : Post m (.mk nl no os) H m (.mk nl no (osSet os n o')) (upd H (m.ρ n) u) := by
    refine ⟨.refl, fun b v h z _ => ?_, ?_, ?_, fun i l h wl => ?_⟩
    · rw [upd_ne (fun q => z (by rw [q]; exact wn))]
      exact h
    · rintro b ⟨i, v, h, w, rfl⟩
      rcases back i v h with ⟨e, _⟩ | ⟨_, h'⟩
      · rw [e]
        exact .inl wn
      · exact .inl ⟨i, v, h', w, rfl⟩
    · rintro b ⟨i, v, h, rfl⟩
      rcases back i v h with ⟨e, _⟩ | ⟨_, h'⟩
      · rw [e]
        exact .inl wn.al
      · exact .inl ⟨i, v, h', rfl⟩
    · show osGet (osSet os n o') i = _
      have h' : osGet os i = some l := h
      rw [osSet_get, if_neg, h']
      intro e
      rw [e, hg] at h'
      cases h'
      rw [hw] at wl
      cases wl
  have hv0 : ObjAt H (m.ρ n) := ar.is_obj (i := n) hg
  refine ⟨P, ?_, fun i v h => ?_, fun i j v w h1 h2 e => ?_, fun i v h => ?_, tabs_upd ar.tabs hv0, ar.lets⟩
  · show ((osSet os n o').map (·.1)).Pairwise _
    rw [osSet_keys]
    exact ar.desc
  · rcases back i v h with ⟨e, _⟩ | ⟨_, h'⟩
    · rw [e]
      exact ar.num n o hg
    · exact ar.num i v h'
  · have get : ∀ i v, osGet (osSet os n o') i = some v → ∃ v, osGet os i = some v := fun i v h => by
      rcases back i v h with ⟨e, _⟩ | ⟨_, h'⟩
      · rw [e]
        exact ⟨o, hg⟩
      · exact ⟨v, h'⟩
    obtain ⟨v', h1'⟩ := get i v h1
    obtain ⟨w', h2'⟩ := get j w h2
    exact ar.inj i j v' w' h1' h2' e
  · rcases back i v h with ⟨e, e2⟩ | ⟨e, h'⟩
    · subst e e2
      exact hO _ P upd_same
    · have ne : m.ρ i ≠ m.ρ n := fun q => e (ar.inj i n v o h' hg q)
      exact P.or_ ar (fun z q => by rw [upd_ne ne]; exact q) (ar.obj i v h')

/-- a list held still -/
theorem hold {l : List D} (ar : AR B m (.mk nl no os) H) (hg : osGet os n = some (.lst l)) :
    Post m (.mk nl no os) H m (.mk nl no (osSet os n (.fz l))) H ∧ AR B m (.mk nl no (osSet os n (.fz l))) H := by
  obtain ⟨xs, hx, rx⟩ := ar.obj n _ hg
  have q := put_obj (o' := .fz l) (u := .lst xs) ar hg rfl fun H' p e => ⟨xs, e, p.rds ar rx⟩
  have e : upd H (m.ρ n) (.lst xs) = H := by
    funext b
    by_cases h : b = m.ρ n
    · rw [h, upd_same]
      exact hx.symm
    · rw [upd_ne h]
  rw [e] at q
  exact q
theorem held {l : List D} (hg : osGet os n = some (.lst l)) : osGet (osSet os n (.fz l)) n = some (.fz l) := by rw [osSet_get, if_pos rfl, hg]; rfl
/-- and let go again -/
theorem unhold {l : List D} {nl' no' : Nat} (ar0 : AR B m (.mk nl no os) H) (hg : osGet os n = some (.lst l)) (p : Post m (.mk nl no (osSet os n (.fz l))) H m' (.mk nl' no' os') H') (ar : AR B m' (.mk nl' no' os') H') :
    Post m (.mk nl no os) H m' (.mk nl' no' (osSet os' n (.lst l))) H' ∧ AR B m' (.mk nl' no' (osSet os' n (.lst l))) H' ∧ (∀ d v, RDw B m' (.mk nl' no' os') H' d v → RDw B m' (.mk nl' no' (osSet os' n (.lst l))) H' d v) := by
  have hf : osGet os' n = some (.fz l) := p.fzp n _ (held hg) rfl
  have nn : n < no := ar0.num n _ hg
  have rn : m'.ρ n = m.ρ n := p.more.rho n nn
  have back : ∀ i v, osGet (osSet os' n (.lst l)) i = some v → (i = n ∧ v = .lst l) ∨ (i ≠ n ∧ osGet os' i = some v) := fun i v h => by
    rw [osSet_get] at h
    by_cases e : i = n
    · rw [if_pos e, e, hf] at h
      exact .inl ⟨e, (Option.some.inj h).symm⟩
    · rw [if_neg e] at h
      exact .inr ⟨e, h⟩
  have same : ∀ i v, osGet (osSet os' n (.lst l)) i = some v → ∃ w, osGet os' i = some w := fun i v h => by
    rcases back i v h with ⟨e, _⟩ | ⟨_, h'⟩
    · rw [e]
      exact ⟨_, hf⟩
    · exact ⟨v, h'⟩
  have h0 := hold ar0 hg
  have al0 : ∀ b, Al m' (.mk nl' no' (osSet os' n (.lst l))) b → Al m' (.mk nl' no' os') b := by
    rintro b ⟨i, v, h, q⟩
    obtain ⟨w, h'⟩ := same i v h
    exact ⟨i, w, h', q⟩
  have st : Stay (fun _ => False) (Al m' (.mk nl' no' os')) (Al m' (.mk nl' no' (osSet os' n (.lst l)))) H' H' := ⟨fun _ _ h _ _ => h, fun _ z => z.elim, fun b h => .inl (al0 b h), fun _ z => z.elim⟩
  have rd : ∀ d v, RDw B m' (.mk nl' no' os') H' d v → RDw B m' (.mk nl' no' (osSet os' n (.lst l))) H' d v := fun d v h => RD.stay st .refl h
  have rds : ∀ d v, RDws B m' (.mk nl' no' os') H' d v → RDws B m' (.mk nl' no' (osSet os' n (.lst l))) H' d v := fun d v h => RDs.stay st .refl h
  have kp : ∀ {κ : Type} (l2 : List (κ × D)) ws, KP B m' (.mk nl' no' os') H' l2 ws → KP B m' (.mk nl' no' (osSet os' n (.lst l))) H' l2 ws := fun {κ} l2 => by
    induction l2 with
    | nil => exact fun ws h => h
    | cons a r ih => exact fun ws ⟨v, t, e, h, k⟩ => ⟨v, t, e, rd _ _ h, ih _ k⟩
  have P := h0.1.trans p
  refine ⟨⟨P.more, P.keep, ?_, fun b h => P.alsub b (al0 b h), fun i l' h w => ?_⟩, ⟨?_, fun i v h => ?_, fun i j v w h1 h2 e => ?_, fun i v h => ?_, ar.tabs, ar.lets⟩, rd⟩
  · rintro b ⟨i, v, h, w, rfl⟩
    rcases back i v h with ⟨e, _⟩ | ⟨_, h'⟩
    · rw [e, rn]
      exact .inl ⟨n, _, hg, rfl, rfl⟩
    · exact P.wsub _ ⟨i, v, h', w, rfl⟩
  · have h' := P.fzp i l' h w
    show osGet (osSet os' n (.lst l)) i = _
    rw [osSet_get, if_neg]
    · exact h'
    · intro e
      have h2 : osGet os i = some l' := h
      rw [e, hg] at h2
      cases h2
      cases w
  · show ((osSet os' n (.lst l)).map (·.1)).Pairwise _
    rw [osSet_keys]
    exact ar.desc
  · obtain ⟨w, h'⟩ := same i v h
    exact ar.num i w h'
  · obtain ⟨v', h1'⟩ := same i v h1
    obtain ⟨w', h2'⟩ := same j w h2
    exact ar.inj i j v' w' h1' h2' e
  · rcases back i v h with ⟨e, e2⟩ | ⟨e, h'⟩
    · subst e e2
      obtain ⟨xs, hx, rx⟩ := ar.obj i _ hf
      exact ⟨xs, hx, rds _ _ rx⟩
    · have q := ar.obj i v h'
      cases v with
      | lst l => obtain ⟨xs, h, q⟩ := q; exact ⟨xs, h, rds _ _ q⟩
      | fz l => obtain ⟨xs, h, q⟩ := q; exact ⟨xs, h, rds _ _ q⟩
      | dK l => obtain ⟨xs, h, q⟩ := q; exact ⟨xs, h, kp _ _ q⟩
      | dT l => exact DTR.map (fun _ _ q => q) rd (fun _ h => h) q
      | hid => exact q
      | bag => exact q
/-- a hidden list grows -/
theorem hid_grow {ys : List V} (ar : AR B m s H) (hg : osGet s.os n = some .hid) :
    AR B m s (upd H (m.ρ n) (.lst ys)) ∧ (∀ d v, RDw B m s H d v → RDw B m s (upd H (m.ρ n) (.lst ys)) d v) ∧ (∀ d v, RDws B m s H d v → RDws B m s (upd H (m.ρ n) (.lst ys)) d v) := by
  obtain ⟨xs, hx⟩ := ar.obj n _ hg
  have st : Stay (fun b => b = m.ρ n) (Al m s) (Al m s) H (upd H (m.ρ n) (.lst ys)) := ⟨fun b o h z _ => by rw [upd_ne z]; exact h, fun b z => by rw [z]; exact ⟨n, _, hg, rfl⟩, fun b h => .inl h, fun b z => by rw [z]; exact .inl ⟨xs, hx⟩⟩
  have rd : ∀ d v, RDw B m s H d v → RDw B m s (upd H (m.ρ n) (.lst ys)) d v := fun d v h => RD.stay st .refl h
  have rds : ∀ d v, RDws B m s H d v → RDws B m s (upd H (m.ρ n) (.lst ys)) d v := fun d v h => RDs.stay st .refl h
  have kp : ∀ {κ : Type} (l2 : List (κ × D)) ws, KP B m s H l2 ws → KP B m s (upd H (m.ρ n) (.lst ys)) l2 ws := fun {κ} l2 => by
    induction l2 with
    | nil => exact fun ws h => h
    | cons a r ih => exact fun ws ⟨v, t, e, h, k⟩ => ⟨v, t, e, rd _ _ h, ih _ k⟩
  refine ⟨⟨ar.desc, ar.num, ar.inj, fun i o h => ?_, tabs_upd ar.tabs (.inl ⟨_, hx, rfl⟩), ar.lets⟩, rd, rds⟩
  by_cases e : i = n
  · subst e
    rw [hg] at h
    cases h
    exact ⟨ys, upd_same⟩
  · have ne : m.ρ i ≠ m.ρ n := fun q => e (ar.inj i n o _ h hg q)
    have q := ar.obj i o h
    cases o with
    | lst l => obtain ⟨zs, h, q⟩ := q; exact ⟨zs, by rw [upd_ne ne]; exact h, rds _ _ q⟩
    | fz l => obtain ⟨zs, h, q⟩ := q; exact ⟨zs, by rw [upd_ne ne]; exact h, rds _ _ q⟩
    | dK l => obtain ⟨zs, h, q⟩ := q; exact ⟨zs, by rw [upd_ne ne]; exact h, kp _ _ q⟩
    | dT l => exact DTR.map (fun _ _ q => st.sqT q) rd (fun _ h => by rw [upd_ne ne]; exact h) q
    | hid => obtain ⟨zs, h⟩ := q; exact ⟨zs, by rw [upd_ne ne]; exact h⟩
    | bag => obtain ⟨x, y, z, h⟩ := q; exact ⟨x, y, z, by rw [upd_ne ne]; exact h⟩
/-- a hidden list shown -/
theorem hid_show {xs : List V} {l : List D} {m0 : Md} {s0 : S} {H0 : Hp} (ar : AR B m (.mk nl no os) H) (hg : osGet os n = some .hid) (hx : H (m.ρ n) = some (.lst xs)) (rx : RDws B m (.mk nl no os) H l xs) (p : Post m0 s0 H0 m (.mk nl no os) H) (new : NT H0 (m.ρ n)) (ns : ∀ o, osGet s0.os n = some o → False) :
    Post m0 s0 H0 m (.mk nl no (osSet os n (.lst l))) H ∧ AR B m (.mk nl no (osSet os n (.lst l))) H := by
  have back : ∀ i v, osGet (osSet os n (.lst l)) i = some v → (i = n ∧ v = .lst l) ∨ (i ≠ n ∧ osGet os i = some v) := fun i v h => by
    rw [osSet_get] at h
    by_cases e : i = n
    · rw [if_pos e, e, hg] at h
      exact .inl ⟨e, (Option.some.inj h).symm⟩
    · rw [if_neg e] at h
      exact .inr ⟨e, h⟩
  have same : ∀ i v, osGet (osSet os n (.lst l)) i = some v → ∃ w, osGet os i = some w := fun i v h => by
    rcases back i v h with ⟨e, _⟩ | ⟨_, h'⟩
    · rw [e]
      exact ⟨_, hg⟩
    · exact ⟨v, h'⟩
  have al0 : ∀ b, Al m (.mk nl no (osSet os n (.lst l))) b → Al m (.mk nl no os) b := by
    rintro b ⟨i, v, h, q⟩
    obtain ⟨w, h'⟩ := same i v h
    exact ⟨i, w, h', q⟩
  have st : Stay (fun _ => False) (Al m (.mk nl no os)) (Al m (.mk nl no (osSet os n (.lst l)))) H H := ⟨fun _ _ h _ _ => h, fun _ z => z.elim, fun b h => .inl (al0 b h), fun _ z => z.elim⟩
  have rd : ∀ d v, RDw B m (.mk nl no os) H d v → RDw B m (.mk nl no (osSet os n (.lst l))) H d v := fun d v h => RD.stay st .refl h
  have rds : ∀ d v, RDws B m (.mk nl no os) H d v → RDws B m (.mk nl no (osSet os n (.lst l))) H d v := fun d v h => RDs.stay st .refl h
  have kp : ∀ {κ : Type} (l2 : List (κ × D)) ws, KP B m (.mk nl no os) H l2 ws → KP B m (.mk nl no (osSet os n (.lst l))) H l2 ws := fun {κ} l2 => by
    induction l2 with
    | nil => exact fun ws h => h
    | cons a r ih => exact fun ws ⟨v, t, e, h, k⟩ => ⟨v, t, e, rd _ _ h, ih _ k⟩
  refine ⟨⟨p.more, p.keep, ?_, fun b h => p.alsub b (al0 b h), fun i l' h w => ?_⟩, ⟨?_, fun i v h => ?_, fun i j v w h1 h2 e => ?_, fun i v h => ?_, ar.tabs, ar.lets⟩⟩
  · rintro b ⟨i, v, h, w, rfl⟩
    rcases back i v h with ⟨e, _⟩ | ⟨_, h'⟩
    · rw [e]
      exact .inr new
    · exact p.wsub _ ⟨i, v, h', w, rfl⟩
  · have h' := p.fzp i l' h w
    show osGet (osSet os n (.lst l)) i = _
    rw [osSet_get, if_neg]
    · exact h'
    · intro e
      rw [e] at h
      exact ns _ h
  · show ((osSet os n (.lst l)).map (·.1)).Pairwise _
    rw [osSet_keys]
    exact ar.desc
  · obtain ⟨w, h'⟩ := same i v h
    exact ar.num i w h'
  · obtain ⟨v', h1'⟩ := same i v h1
    obtain ⟨w', h2'⟩ := same j w h2
    exact ar.inj i j v' w' h1' h2' e
  · rcases back i v h with ⟨e, e2⟩ | ⟨e, h'⟩
    · subst e e2
      exact ⟨xs, hx, rds _ _ rx⟩
    · have q := ar.obj i v h'
      cases v with
      | lst l => obtain ⟨xs, h, q⟩ := q; exact ⟨xs, h, rds _ _ q⟩
      | fz l => obtain ⟨xs, h, q⟩ := q; exact ⟨xs, h, rds _ _ q⟩
      | dK l => obtain ⟨xs, h, q⟩ := q; exact ⟨xs, h, kp _ _ q⟩
      | dT l => exact DTR.map (fun _ _ q => q) rd (fun _ h => h) q
      | hid => exact q
      | bag => exact q
end
end Ev
end
end

/-! part EvH -/
section
set_option Elab.async false
set_option linter.all false
set_option maxRecDepth 100000
set_option maxHeartbeats 4000000
/-! EvH: targets, what a loop walks, for, list comprehensions. -/
noncomputable section
namespace Ev
open PySem PySem.Spec PyProof.Rows L2

/-! ### the items of a tuple or a list -/
def oLst (o : Option O) (k : List D → Bool) : Bool := Option.rec (motive := fun _ => Bool) false (fun o => O.rec (motive := fun _ => Bool) (fun l => k l) (fun l => k l) (fun _ => false) (fun _ => false) false false o) o
def sOs (s : S) : List (Nat × O) := S.rec (motive := fun _ => List (Nat × O)) (fun _ _ os => os) s
theorem sOs_eq {s : S} : sOs s = s.os := by cases s; rfl
def itm (d : D) (s : S) (k : List D → Bool) : Bool :=
  D.rec (motive_1 := fun _ => Bool) (motive_2 := fun _ => Unit) false false (fun _ => false) (fun _ => false) (fun _ => false) (fun _ => false) (fun l _ => k l) (fun l _ => k l) (fun _ _ _ => false) (fun n => oLst (osGet (sOs s) n) k) (fun _ => false) (fun _ => false) (fun _ _ => false) (fun l _ => k l) (fun _ _ _ => false) () (fun _ _ _ _ => ()) d
section
variable {B : Bs} {m m' : Md} {s s' : S} {H H' : Hp}
theorem oLst_ok {o : Option O} {k : List D → Bool} (h : oLst o k = true) : ∃ l, (o = some (.lst l) ∨ o = some (.fz l)) ∧ k l = true := by
  cases o with
  | none => exact absurd (show false = true from h) Bool.false_ne_true
  | some o =>
    cases o with
    | lst l => exact ⟨l, .inl rfl, h⟩
    | fz l => exact ⟨l, .inr rfl, h⟩
    | dK _ => exact absurd (show false = true from h) Bool.false_ne_true
    | dT _ => exact absurd (show false = true from h) Bool.false_ne_true
    | bag => exact absurd (show false = true from h) Bool.false_ne_true
    | hid => exact absurd (show false = true from h) Bool.false_ne_true
theorem rds_get {nl no : Nat} {W : Addr → Prop} : ∀ {ds : List D} {vs : List V}, RDs B m nl no W H ds vs → ∀ {i : Nat} {d : D}, ds[i]? = some d → ∃ v, vs[i]? = some v ∧ RD B m nl no W H d v
  | [], _, _, i, d, h => by simp at h
  | a :: l, _, ⟨x, t, e, h1, h2⟩, i, d, h => by
    subst e
    cases i with
    | zero => simp at h; subst h; exact ⟨x, rfl, h1⟩
    | succ i => exact rds_get h2 (by simpa using h)
theorem sq_lst {a : Addr} {xs : List V} {K : PySem.W.Frag} (h : H a = some (.lst xs)) : SqL K H a xs := .inl (.inl h)
theorem itm_ok {d : D} {v : V} {k : List D → Bool} (ar : AR B m s H) (r : RDw B m s H d v) (h : itm d s k = true) : ∃ a xs l, v = .ref a ∧ (SqT B.K H a xs ∨ SqL B.K H a xs) ∧ RDws B m s H l xs ∧ k l = true := by
  cases d with
  | tup l =>
    obtain ⟨a, xs, e, q, t⟩ := r
    exact ⟨a, xs, l, e, .inl q, t, h⟩
  | tm l =>
    obtain ⟨a, xs, o, e, q, _, t⟩ := r
    exact ⟨a, xs, l, e, .inl (.inl (.inr ⟨o, q⟩)), t, h⟩
  | fl l =>
    obtain ⟨a, xs, e, q, _, t⟩ := r
    exact ⟨a, xs, l, e, .inr (sq_lst q), t, h⟩
  | ref n =>
    obtain ⟨_, e⟩ := r
    obtain ⟨l, hl, hk⟩ := oLst_ok (show oLst (osGet (sOs s) n) k = true from h)
    rw [sOs_eq] at hl
    rcases hl with hl | hl
    · obtain ⟨xs, hx, rx⟩ := ar.obj n _ hl
      exact ⟨_, xs, l, e, .inr (sq_lst hx), rx, hk⟩
    · obtain ⟨xs, hx, rx⟩ := ar.obj n _ hl
      exact ⟨_, xs, l, e, .inr (sq_lst hx), rx, hk⟩
  | _ => exact absurd (show false = true from h) Bool.false_ne_true
theorem ER.map {env : List D} {σ : L2.St} (e : ER B m s H env σ) (h : ∀ d v, RDw B m s H d v → RDw B m' s' H' d v) : ER B m' s' H' env σ := ⟨e.len, fun i d q => by
  rcases e.at_ i d q with z | ⟨v, h1, h2⟩
  · exact .inl z
  · exact .inr ⟨v, h1, h d v h2⟩⟩
end

/-! ### targets -/
abbrev XGs := List D → List D → S → KN → KX → Bool
def gNm (i : Nat) : XG := fun d e s k _ => k (put e d i) s
def gTp (n : Nat) (g : XGs) : XG := fun d e s k x => itm d s fun us => grd (Nat.beq us.length n) (g us e s k x)
def gsNil : XGs := fun us e s k _ => List.rec (motive := fun _ => Bool) (k e s) (fun _ _ _ => false) us
def gsCons (g : XG) (r : XGs) : XGs := fun us e s k x => List.rec (motive := fun _ => Bool) false (fun u us' _ => g u e s (fun e1 s1 => r us' e1 s1 k x) x) us
section
variable (B : Bs) (E : XK) (w : List Nat)
def KGok (m : Md) (s : S) (H : Hp) (σ : L2.St) (k : KN) (Q : L2.St → Hp → Prop) : Prop :=
  ∀ env' m' s' H' σ', Post m s H m' s' H' → AR B m' s' H' → ER B m' s' H' env' σ' → σ'.length = σ.length → (∀ i, i ∉ w → σ'[i]? = σ[i]?) → k env' s' = true → Q σ' H'
def TGr (x : XG) : TG := fun v σ H Q => ∃ m s env d k kx, AR B m s H ∧ ER B m s H env σ ∧ RDw B m s H d v ∧ x d env s k kx = true ∧ KXok B m s H kx E ∧ KGok B w m s H σ k Q
def TGsr (x : XGs) : TGs := fun vs σ H Q => ∃ m s env ds k kx, AR B m s H ∧ ER B m s H env σ ∧ RDws B m s H ds vs ∧ ds.length = vs.length ∧ x ds env s k kx = true ∧ KXok B m s H kx E ∧ KGok B w m s H σ k Q
end
section
variable {B : Bs} {E : XK} {X : Cx} {pos : Pos} {w : List Nat} {g : XG} {gs : XGs} {e : Expr} {es : List Expr}
theorem wkG {e : Expr} {t t' : TG} (h : PG X e t) (q : ∀ v σ H Q, t' v σ H Q → t v σ H Q) : PG X e t' := ⟨fun pins s σ H v u Q I r z => h.run pins s σ H v u Q I r (q v σ H Q z)⟩
theorem wkGs {e : List Expr} {t t' : TGs} (h : PGs X e t) (q : ∀ v σ H Q, t' v σ H Q → t v σ H Q) : PGs X e t' := ⟨fun pins s σ H v u Q I r z => h.run pins s σ H v u Q I r (q v σ H Q z)⟩
theorem pg_any {t : TG} {t' : TG} (h : PG X e t) (h' : PG X e t') : PG X e (fun v σ H Q => t v σ H Q ∨ t' v σ H Q) := ⟨fun pins s σ H v u Q I r z => z.elim (h.run pins s σ H v u Q I r) (h'.run pins s σ H v u Q I r)⟩
theorem g_name {i : Nat} {x : Str} (hN : X.N.Nodup) (hi : X.N[i]? = some x) (hx : Loc X.env.scope x) (hf : X.fn x = true ∨ X.env.scope.names.lookup x = some .local) (hw : i ∈ w) : PG X (.Name x pos) (TGr B E w (gNm i)) :=
  wkG (pg_name hN hi hx hf) fun v σ H Q ⟨m, s, env, d, k, kx, ar, er, r, hx, _, hk⟩ => hk _ m s H _ .refl ar (er_put er r i) List.length_set (fun j hj => by rw [List.getElem?_set_ne (fun z => hj (by rw [← z]; exact hw))]) hx
theorem gs_nil : PGs X [] (TGsr B E w gsNil) := wkGs pgs_nil fun vs σ H Q ⟨m, s, env, ds, k, kx, ar, er, r, hl, hx, _, hk⟩ => by
  cases ds with
  | nil => exact ⟨r, hk _ m s H _ .refl ar er rfl (fun _ _ => rfl) hx⟩
  | cons d dr => exact absurd (show false = true from hx) Bool.false_ne_true
theorem gs_cons (h1 : PG X e (TGr B E w g)) (h2 : PGs X es (TGsr B E w gs)) (hs : (assignEach (e :: es) X.env).map (·.2) = assign e X.env :: (assignEach es X.env).map (·.2)) : PGs X (e :: es) (TGsr B E w (gsCons g gs)) :=
  wkGs (pgs_cons h1 h2 hs) fun vs σ H Q ⟨m, s, env, ds, k, kx, ar, er, r, hl, hx, hkx, hk⟩ => by
    cases ds with
    | nil => exact absurd (show false = true from hx) Bool.false_ne_true
    | cons d dr =>
      obtain ⟨v, vr, ev, r1, r2⟩ := r
      subst ev
      refine ⟨v, vr, rfl, m, s, env, d, _, kx, ar, er, r1, hx, hkx, fun env' m' s' H' σ' p a e' l1 o1 h => ?_⟩
      exact ⟨m', s', env', dr, k, kx, a, e', p.rds ar r2, by simpa using hl, h, hkx.post p, fun env2 m2 s2 H2 σ2 p2 a2 e2 l2 o2 h2 => hk env2 m2 s2 H2 σ2 (p.trans p2) a2 e2 (l2.trans l1) (fun i hi => (o2 i hi).trans (o1 i hi)) h2⟩
theorem g_tup {n kk : Nat} (hc : X.calm = true) (hK : X.K = B.K) (h : PGs X es (TGsr B E w gs)) (hn : (assignEach es X.env).length = n) (hst : (assignEach es X.env).findIdx? (·.1) = none) : PG X (.Tuple es kk pos) (TGr B E w (gTp n gs)) :=
  wkG (pg_any (pg_tup hc h hn hst) (pg_lst hc h hn hst)) fun v σ H Q ⟨m, s, env, d, k, kx, ar, er, r, hx, hkx, hk⟩ => by
    obtain ⟨a, xs, l, e, q, rl, h1⟩ := itm_ok ar r hx
    obtain ⟨hl, h2⟩ := grd_ok h1
    have len := rds_len rl
    have e2 : xs.length = n := by rw [← len]; exact Nat.eq_of_beq_eq_true hl
    have z : TGsr B E w gs xs σ H Q := ⟨m, s, env, l, k, kx, ar, er, rl, len, h2, hkx, hk⟩
    rw [hK]
    rcases q with q | q
    · exact .inl ⟨a, xs, e, q, e2, z⟩
    · exact .inr ⟨a, xs, e, q, e2, z⟩

/-! ### what a loop walks -/
abbrev Rel := S → (S → Bool) → Bool
abbrev KI := List D → S → Rel → Bool
abbrev XI := List D → S → KI → KX → Bool
def noRel : Rel := fun s k => k s
def unh (n : Nat) (l : List D) : Rel := fun s k => S.rec (motive := fun _ => Bool) (fun nl no os => k (.mk nl no (osSet os n (.lst l)))) s
def hld (d : D) (s : S) (k : KI) : Bool :=
  D.rec (motive_1 := fun _ => Bool) (motive_2 := fun _ => Unit) false false (fun _ => false) (fun _ => false) (fun _ => false) (fun _ => false) (fun l _ => k l s noRel) (fun l _ => k l s noRel) (fun _ _ _ => false)
    (fun n => S.rec (motive := fun _ => Bool) (fun nl no os => Option.rec (motive := fun _ => Bool) false (fun o => O.rec (motive := fun _ => Bool) (fun l => k l (.mk nl no (osSet os n (.fz l))) (unh n l)) (fun l => k l s noRel) (fun _ => false) (fun _ => false) false false o) (osGet os n)) s)
    (fun _ => false) (fun _ => false) (fun _ _ => false) (fun l _ => k l s noRel) (fun _ _ _ => false) () (fun _ _ _ _ => ()) d
end
section
variable (B : Bs) (E : XK)
def RelOk (m : Md) (s : S) (H : Hp) (s1 : S) (rel : Rel) : Prop := ∀ m' s' H' (k : S → Bool), Post m s1 H m' s' H' → AR B m' s' H' → rel s' k = true → ∃ s2, k s2 = true ∧ Post m s H m' s2 H' ∧ AR B m' s2 H' ∧ ∀ d v, RDw B m' s' H' d v → RDw B m' s2 H' d v
structure Walks (J : It) (m : Md) (s : S) (H : Hp) (l : List D) : Prop where
  step : ∀ i d m' s' H', Post m s H m' s' H' → AR B m' s' H' → l[i]? = some d → J.go i H' ∧ ∀ x H2, J.yld i H' x H2 → Post m' s' H' m' s' H2 ∧ AR B m' s' H2 ∧ RDw B m' s' H2 d x
  stop : ∀ m' s' H', Post m s H m' s' H' → AR B m' s' H' → J.stop l.length H'
/-- the heaps are alike but at hidden lists -/
def GrE (m : Md) (s : S) (H H2 : Hp) : Prop := ∀ b, (∀ n, osGet s.os n = some .hid → m.ρ n ≠ b) → H2 b = H b
/-- what is walked, wherever hidden lists have got to -/
structure Wk (J : It) (m : Md) (s : S) (H : Hp) (s1 : S) (rel : Rel) (l : List D) : Prop where
  all : ∀ H2, GrE m s H H2 → AR B m s H2 → Post m s H2 m s1 H2 ∧ AR B m s1 H2 ∧ RelOk B m s H2 s1 rel ∧ Walks B J m s1 H2 l
def KIok (m : Md) (s : S) (H : Hp) (ki : KI) (R : It → Hp → Prop) : Prop :=
  ∀ l m0 s0 H0 s1 rel J, Post m s H m0 s0 H0 → AR B m0 s0 H0 → Wk B J m0 s0 H0 s1 rel l → ki l s1 rel = true → R J H0
def TIr (x : XI) : TI := fun σ H R => ∃ m s env ki kx, AR B m s H ∧ ER B m s H env σ ∧ x env s ki kx = true ∧ KIok B m s H ki R ∧ KXok B m s H kx E
end
section
variable {B : Bs} {E : XK} {m : Md} {s : S} {H : Hp}
theorem GrE.refl : GrE m s H H := fun _ _ => rfl
theorem Wk.now {J : It} {s1 : S} {rel : Rel} {l : List D} (w : Wk B J m s H s1 rel l) (ar : AR B m s H) : Post m s H m s1 H ∧ AR B m s1 H ∧ RelOk B m s H s1 rel ∧ Walks B J m s1 H l := w.all H .refl ar
theorem GrE.stay {H2 : Hp} (g : GrE m s H H2) (ar : AR B m s H) : Stay (fun b => ∃ n, osGet s.os n = some .hid ∧ m.ρ n = b) (Al m s) (Al m s) H H2 :=
  ⟨fun b o h z _ => by rw [g b fun n hn e => z ⟨n, hn, e⟩]; exact h, fun b ⟨n, h, e⟩ => ⟨n, _, h, e⟩, fun b h => .inl h, fun b ⟨n, h, e⟩ => by
    obtain ⟨xs, hx⟩ := ar.obj n _ h
    rw [← e]
    exact .inl ⟨xs, hx⟩⟩
theorem GrE.rd {H2 : Hp} (g : GrE m s H H2) (ar : AR B m s H) {d : D} {v : V} (h : RDw B m s H d v) : RDw B m s H2 d v := RD.stay (g.stay ar) .refl h
theorem GrE.rds {H2 : Hp} (g : GrE m s H H2) (ar : AR B m s H) {d : List D} {v : List V} (h : RDws B m s H d v) : RDws B m s H2 d v := RDs.stay (g.stay ar) .refl h
theorem GrE.on {H2 : Hp} {s1 : S} (g : GrE m s H H2) (p : ∀ i o, osGet s.os i = some o → o.wr = false → osGet s1.os i = some o) : GrE m s1 H H2 := fun b h => g b fun n hn => h n (p n _ hn rfl)
theorem relOk_no : RelOk B m s H s noRel := fun m' s' H' k p a h => ⟨s', h, p, a, fun _ _ r => r⟩
theorem walk_tup {a : Addr} {xs : List V} {l : List D} (h : SqT B.K H a xs) (ar : AR B m s H) (r : RDws B m s H l xs) : Walks B (Itt B.K a) m s H l := by
  have go : ∀ {m' s' H'}, Post m s H m' s' H' → AR B m' s' H' → ∀ {i d}, l[i]? = some d → ∃ x, xs[i]? = some x ∧ RDw B m' s' H' d x := fun {m' s' H'} p a {i d} hi => rds_get (p.rds ar r) hi
  refine ⟨fun i d m' s' H' p a' hi => ?_, fun m' s' H' p a' => ⟨xs, (p.stay ar).sqT h, Nat.le_of_eq (rds_len r).symm⟩⟩
  obtain ⟨x, e, q⟩ := go p a' hi
  refine ⟨⟨xs, x, (p.stay ar).sqT h, e⟩, fun y H2 ⟨eH, hy⟩ => ?_⟩
  subst eH
  have e2 := hy xs ((p.stay ar).sqT h)
  rw [e] at e2
  cases e2
  exact ⟨.refl, a', q⟩
theorem walk_lst {a : Addr} {xs : List V} {l : List D} (ar : AR B m s H) (h : ∀ m' s' H', Post m s H m' s' H' → AR B m' s' H' → H' a = some (.lst xs)) (r : RDws B m s H l xs) : Walks B (Itl B.K a) m s H l := by
  have go : ∀ {m' s' H'}, Post m s H m' s' H' → AR B m' s' H' → ∀ {i d}, l[i]? = some d → ∃ x, xs[i]? = some x ∧ RDw B m' s' H' d x := fun {m' s' H'} p a {i d} hi => rds_get (p.rds ar r) hi
  refine ⟨fun i d m' s' H' p a' hi => ?_, fun m' s' H' p a' => ⟨xs, sq_lst (h _ _ _ p a'), Nat.le_of_eq (rds_len r).symm⟩⟩
  obtain ⟨x, e, q⟩ := go p a' hi
  refine ⟨⟨xs, x, sq_lst (h _ _ _ p a'), e⟩, fun y H2 ⟨eH, hy⟩ => ?_⟩
  subst eH
  have e2 := hy xs (sq_lst (h _ _ _ p a'))
  rw [e] at e2
  cases e2
  exact ⟨.refl, a', q⟩
/-- a sequence held, wherever hidden lists have got to -/
def tB_ (b : Bool) (K : PySem.W.Frag) (a : Addr) : It := Bool.rec (Itl K a) (Itt K a) b
def SqV_ (b : Bool) (K : PySem.W.Frag) (H : Hp) (a : Addr) (xs : List V) : Prop := Bool.rec (SqL K H a xs) (SqT K H a xs) b
theorem hld_ok {d : D} {v : V} {k : KI} (ar : AR B m s H) (r : RDw B m s H d v) (h : hld d s k = true) :
    ∃ a xs l s1 rel b, v = .ref a ∧ SqV_ b B.K H a xs ∧ Wk B (tB_ b B.K a) m s H s1 rel l ∧ k l s1 rel = true := by
  cases d with
  | tup l =>
    have r0 := r
    obtain ⟨a, xs, e, q, t⟩ := r
    refine ⟨a, xs, l, s, noRel, true, e, q, ⟨fun H2 g ar2 => ?_⟩, h⟩
    obtain ⟨a', xs', e', q', t'⟩ := g.rd ar r0
    rw [e] at e'
    cases e'
    exact ⟨.refl, ar2, relOk_no, walk_tup q' ar2 t'⟩
  | tm l =>
    have r0 := r
    obtain ⟨a, xs, o, e, q, n, t⟩ := r
    refine ⟨a, xs, l, s, noRel, true, e, .inl (.inr ⟨o, q⟩), ⟨fun H2 g ar2 => ?_⟩, h⟩
    obtain ⟨a', xs', o', e', q', n', t'⟩ := g.rd ar r0
    rw [e] at e'
    cases e'
    exact ⟨.refl, ar2, relOk_no, walk_tup (.inl (.inr ⟨o', q'⟩)) ar2 t'⟩
  | fl l =>
    have r0 := r
    obtain ⟨a, xs, e, q, n, t⟩ := r
    refine ⟨a, xs, l, s, noRel, false, e, sq_lst q, ⟨fun H2 g ar2 => ?_⟩, h⟩
    obtain ⟨a', xs', e', q', n', t'⟩ := g.rd ar r0
    rw [e] at e'
    cases e'
    exact ⟨.refl, ar2, relOk_no, walk_lst ar2 (fun m' s' H' p a' => p.keep _ _ q' (fun z => n' z.al) (fun ps z => by cases z)) t'⟩
  | ref n =>
    obtain ⟨_, e⟩ := r
    obtain ⟨nl, no, os⟩ := s
    have h' : Option.rec (motive := fun _ => Bool) false (fun o => O.rec (motive := fun _ => Bool) (fun l => k l (.mk nl no (osSet os n (.fz l))) (unh n l)) (fun l => k l (.mk nl no os) noRel) (fun _ => false) (fun _ => false) false false o) (osGet os n) = true := h
    cases hg : osGet os n with
    | none => rw [hg] at h'; exact absurd (show false = true from h') Bool.false_ne_true
    | some o =>
      rw [hg] at h'
      cases o with
      | lst l =>
        obtain ⟨xs, hx, rx⟩ := ar.obj n _ hg
        refine ⟨_, xs, l, _, unh n l, false, e, sq_lst hx, ⟨fun H2 g ar2 => ?_⟩, h'⟩
        obtain ⟨xs2, hx2, rx2⟩ := ar2.obj n _ hg
        obtain ⟨p1, a1⟩ := hold ar2 hg
        refine ⟨p1, a1, fun m' s' H' k' p a' hk => ?_, walk_lst a1 (fun m' s' H' p a' => p.keep _ _ hx2 (fun z => ?_) (fun ps z => by cases z)) (p1.rds ar2 rx2)⟩
        · obtain ⟨nl', no', os'⟩ := s'
          obtain ⟨P, A, R⟩ := unhold ar2 hg p a'
          exact ⟨_, hk, P, A, R⟩
        · obtain ⟨i, o, ei, w, q⟩ := z
          have ei' : osGet (osSet os n (.fz l)) i = some o := ei
          rw [osSet_get] at ei'
          by_cases e2 : i = n
          · rw [if_pos e2, e2, hg] at ei'
            cases ei'
            cases w
          · rw [if_neg e2] at ei'
            exact e2 (ar.inj i n o _ ei' hg q)
      | fz l =>
        obtain ⟨xs, hx, rx⟩ := ar.obj n _ hg
        refine ⟨_, xs, l, _, noRel, false, e, sq_lst hx, ⟨fun H2 g ar2 => ?_⟩, h'⟩
        obtain ⟨xs2, hx2, rx2⟩ := ar2.obj n _ hg
        refine ⟨.refl, ar2, relOk_no, walk_lst ar2 (fun m' s' H' p a' => p.keep _ _ hx2 (fun z => ?_) (fun ps z => by cases z)) rx2⟩
        obtain ⟨i, o, ei, w, q⟩ := z
        have e2 := ar.inj i n o _ ei hg q
        subst e2
        have ei' : osGet os i = some o := ei
        rw [hg] at ei'
        cases ei'
        cases w
      | dK _ => exact absurd (show false = true from h') Bool.false_ne_true
      | dT _ => exact absurd (show false = true from h') Bool.false_ne_true
      | bag => exact absurd (show false = true from h') Bool.false_ne_true
      | hid => exact absurd (show false = true from h') Bool.false_ne_true
  | _ => exact absurd (show false = true from h) Bool.false_ne_true
end
def iSeq (a : XE) : XI := fun e s k x => a e s (fun d s1 => hld d s1 k) x
def upI : Nat → Int → List D := Nat.rec (motive := fun _ => Int → List D) (fun _ => []) fun _ ih i => .int i :: ih (i + 1)
def smI (i : Int) : Bool := iLt (-4611686018427387905) i && iLt i 4611686018427387904
def tNat (i : Int) : Nat := Int.rec (motive := fun _ => Nat) (fun n => n) (fun _ => 0) i
theorem tNat_eq (i : Int) : tNat i = i.toNat := by cases i <;> rfl
theorem smI_ok {i : Int} (h : smI i = true) : -(2 ^ 62) ≤ i ∧ i < 2 ^ 62 := by
  unfold smI at h
  rw [Bool.and_eq_true, iLt_eq, iLt_eq, decide_eq_true_eq, decide_eq_true_eq] at h
  constructor <;> omega
def iRg1 (a : XE) : XI := fun e s k x => a e s (fun d s1 => asI d fun j => grd (smI j) (k (upI (tNat j) 0) s1 noRel)) x
def iRg2 (a b : XE) : XI := fun e s k x => a e s (fun u s1 => b e s1 (fun v s2 => asI u fun i => asI v fun j => grd (smI i && smI j) (k (upI (tNat (j - i)) i) s2 noRel)) x) x
def one (us : List D) (k : D → Bool) : Bool := List.rec (motive := fun _ => Bool) false (fun d r _ => List.rec (motive := fun _ => Bool) (k d) (fun _ _ _ => false) r) us
def twoD (us : List D) (k : D → D → Bool) : Bool := List.rec (motive := fun _ => Bool) false (fun d r _ => one r (k d)) us
theorem one_ok {us : List D} {k : D → Bool} (h : one us k = true) : ∃ d, us = [d] ∧ k d = true := by
  cases us with
  | nil => exact absurd (show false = true from h) Bool.false_ne_true
  | cons d r =>
    cases r with
    | nil => exact ⟨d, rfl, h⟩
    | cons _ _ => exact absurd (show false = true from h) Bool.false_ne_true
theorem twoD_ok {us : List D} {k : D → D → Bool} (h : twoD us k = true) : ∃ d d2, us = [d, d2] ∧ k d d2 = true := by
  cases us with
  | nil => exact absurd (show false = true from h) Bool.false_ne_true
  | cons d r =>
    obtain ⟨d2, e, h2⟩ := one_ok (show one r (k d) = true from h)
    exact ⟨d, d2, by rw [e], h2⟩
section
variable {B : Bs} {E : XK} {X : Cx} {tg e e2 : Expr} {xa xb : XE} {p pos : Pos} {m : Md} {s : S} {H : Hp}
theorem wkI {e : Expr} {t t' : TI} (h : PI X tg e t) (q : ∀ σ H R, t' σ H R → t σ H R) : PI X tg e t' := ⟨fun pins s σ H R I z => h.run pins s σ H R I (q σ H R z)⟩
theorem pi_sq {l : Expr} {tl : TE} (hl : PE X l tl) : PI X tg l (fun σ H R => tl σ H fun x H1 => ∃ a xs, x = .ref a ∧ ((SqT X.K H1 a xs ∧ R (Itt X.K a) H1) ∨ (SqL X.K H1 a xs ∧ R (Itl X.K a) H1))) := by
  refine ⟨fun pins s σ H R I h => ?_⟩
  refine thn (hl.run pins s σ H _ I h) fun v s1 ⟨x, H1, I1, r1, q1⟩ => ?_
  obtain ⟨a, xs, e, q⟩ := q1
  subst e
  cases r1
  rcases q with ⟨hq, q⟩ | ⟨hq, q⟩
  · obtain ⟨its, rv, p, hz⟩ := I1.tuple hq
    refine wpAny_pyIter_tuple (show s1.heap.IsTuple a its.toArray from p) ?_
    refine ⟨s1.heap.objs.size, [s1.heap.objs.size], _, _, H1, rfl, I1.kept (t' := s1.toks) fun b o e => Heap.get?_push_of_some _ e, turn_tuple a _, ⟨_, Heap.get?_push_size _ rfl, rfl, rfl⟩, fun b hb => ?_, q⟩
    have e : b = s1.heap.objs.size := by simpa using hb
    subst e
    exact I1.fpOk (Nat.le_refl _) (I1.hok.fresh (Nat.le_refl _))
  · obtain ⟨its, rv, p, hz⟩ := I1.list hq
    refine wpAny_pyIter_list p.isList ?_
    refine ⟨s1.heap.objs.size, [s1.heap.objs.size], _, _, H1, rfl, I1.kept (t' := s1.toks) fun b o e => Heap.get?_push_of_some _ e, turn_list a _, ⟨_, Heap.get?_push_size _ rfl, rfl, rfl⟩, fun b hb => ?_, q⟩
    have e : b = s1.heap.objs.size := by simpa using hb
    subst e
    exact I1.fpOk (Nat.le_refl _) (I1.hok.fresh (Nat.le_refl _))
theorem i_seq (hK : X.K = B.K) (h : PE X e (TX B E xa)) : PI X tg e (TIr B E (iSeq xa)) := wkI (pi_sq h) fun σ H R ⟨m, s, env, ki, kx, ar, er, hx, hk, hkx⟩ =>
  ⟨m, s, env, _, kx, ar, er, hx, fun d m1 s1 H1 v p1 a1 r1 h1 => by
    obtain ⟨a, xs, l, s2, rel, b, e, q, w, h2⟩ := hld_ok a1 r1 h1
    rw [hK]
    cases b with
    | true => exact ⟨a, xs, e, .inl ⟨q, hk l m1 s1 H1 s2 rel _ p1 a1 w h2⟩⟩
    | false => exact ⟨a, xs, e, .inr ⟨q, hk l m1 s1 H1 s2 rel _ p1 a1 w h2⟩⟩, hkx⟩
theorem upI_get : ∀ {n : Nat} {lo : Int} {i : Nat}, (upI n lo)[i]? = if i < n then some (.int (lo + i)) else none
  | 0, lo, i => by
    show ([] : List D)[i]? = _
    simp
  | n + 1, lo, 0 => by
    show (D.int lo :: upI n (lo + 1))[0]? = _
    simp
  | n + 1, lo, i + 1 => by
    show (D.int lo :: upI n (lo + 1))[i + 1]? = _
    rw [List.getElem?_cons_succ, upI_get]
    by_cases h : i < n
    · rw [if_pos h, if_pos (by omega)]
      congr 2
      omega
    · rw [if_neg h, if_neg (by omega)]
theorem upI_len : ∀ {n : Nat} {lo : Int}, (upI n lo).length = n
  | 0, _ => rfl
  | n + 1, lo => by
    show (D.int lo :: upI n (lo + 1)).length = _
    rw [List.length_cons, upI_len]
theorem walk_rng {lo : Int} {n : Nat} : Walks B (Itr lo n) m s H (upI n lo) := by
  refine ⟨fun i d m' s' H' p a hi => ?_, fun m' s' H' p a => by show n ≤ _; rw [upI_len]; exact Nat.le_refl _⟩
  rw [upI_get] at hi
  by_cases h : i < n
  · rw [if_pos h] at hi
    cases hi
    refine ⟨h, fun x H2 ⟨e, q⟩ => ?_⟩
    subst e
    exact ⟨.refl, a, q⟩
  · rw [if_neg h] at hi
    cases hi
theorem i_rng1 (hg : Gl X "range") (hm : X.mg "range" = none) (ha : PE X e (TX B E xa)) (hs : starEach [e] X.env = [(false, eval e X.env)]) : PI X tg (.Call (.Name "range" p) [e] [] pos) (TIr B E (iRg1 xa)) := wkI (pi_range1 hg hm (a_cons ha a_nil hs) hs) fun σ H R ⟨m, s, env, ki, kx, ar, er, hx, hk, hkx⟩ =>
  ⟨m, s, env, fun us s1 => one us fun d => asI d fun j => grd (smI j) (ki (upI (tNat j) 0) s1 noRel), kx, ar, er, hx, fun us m1 s1 H1 xs p1 a1 r1 h1 => by
    obtain ⟨d, e0, h1⟩ := one_ok h1
    obtain ⟨j, e1, h2⟩ := asI_ok h1
    obtain ⟨c, h3⟩ := grd_ok h2
    subst e0 e1
    obtain ⟨x, t, ex, rx, rt⟩ := r1
    cases rx
    have et : t = [] := rt
    subst ex et
    obtain ⟨c1, c2⟩ := smI_ok c
    rw [tNat_eq] at h3
    exact ⟨j, rfl, c1, c2, hk _ m1 s1 H1 s1 noRel _ p1 a1 ⟨fun H2 g ar2 => ⟨.refl, ar2, relOk_no, walk_rng⟩⟩ h3⟩, hkx⟩
theorem i_rng2 (hg : Gl X "range") (hm : X.mg "range" = none) (ha : PE X e (TX B E xa)) (hb : PE X e2 (TX B E xb)) (hs : starEach [e, e2] X.env = [(false, eval e X.env), (false, eval e2 X.env)]) (hs2 : starEach [e2] X.env = [(false, eval e2 X.env)]) :
    PI X tg (.Call (.Name "range" p) [e, e2] [] pos) (TIr B E (iRg2 xa xb)) := wkI (pi_range2 hg hm (a_cons ha (a_cons hb a_nil hs2) (hs.trans (by rw [hs2]))) hs hs2) fun σ H R ⟨m, s, env, ki, kx, ar, er, hx, hk, hkx⟩ =>
  ⟨m, s, env, fun us s1 => twoD us fun d d2 => asI d fun i => asI d2 fun j => grd (smI i && smI j) (ki (upI (tNat (j - i)) i) s1 noRel), kx, ar, er, hx, fun us m1 s1 H1 xs p1 a1 r1 h1 => by
    obtain ⟨d, d2, e0, h1⟩ := twoD_ok h1
    obtain ⟨i, e1, h2⟩ := asI_ok h1
    obtain ⟨j, e2, h2⟩ := asI_ok h2
    obtain ⟨c, h3⟩ := grd_ok h2
    subst e0 e1 e2
    obtain ⟨x, t, ex, rx, y, t2, et, ry, rt⟩ := r1
    cases rx; cases ry
    have et2 : t2 = [] := rt
    subst ex et et2
    rw [Bool.and_eq_true] at c
    obtain ⟨c1, c2⟩ := smI_ok c.1
    obtain ⟨c3, c4⟩ := smI_ok c.2
    rw [tNat_eq] at h3
    exact ⟨i, j, rfl, ⟨c1, c2, c3, c4⟩, hk _ m1 s1 H1 s1 noRel _ p1 a1 ⟨fun H2 g ar2 => ⟨.refl, ar2, relOk_no, walk_rng⟩⟩ h3⟩, hkx⟩
end

/-! ### for -/
def lpF (g : XG) (b : XS) (n : KN) (c : KC) (rel : Rel) (l : List D) : List D → S → Bool :=
  List.rec (motive := fun _ => List D → S → Bool) (fun e s => rel s fun s2 => n e s2) (fun d _ ih e s => g d e s (fun e1 s1 => b e1 s1 ih ⟨fun d s => rel s fun s2 => c.kr d s2, fun e s => rel s fun s2 => n e s2, ih, fun i p s => rel s fun s2 => c.kx i p s2⟩) (fun i p s => rel s fun s2 => c.kx i p s2)) l
def sFor (i : XI) (g : XG) (b : XS) : XS := fun e s n c => i e s (fun l s1 rel => lpF g b n c rel l e s1) c.kx
section
variable {B : Bs} {E : XK} {X : Cx} {tg iter : Expr} {m m0 : Md} {s s0 s1 : S} {H H0 : Hp} {rel : Rel}
theorem rel_kd {k : KD} {Q : VK} (p : Post m s H m0 s0 H0) (h : KDok B m s H k Q) (ro : RelOk B m0 s0 H0 s1 rel) : KDok B m0 s1 H0 (fun d s => rel s fun s2 => k d s2) Q := fun d m' s' H' v p' a' r q => by
  obtain ⟨s2, hk, P, A, R⟩ := ro m' s' H' _ p' a' q
  exact h d m' s2 H' v (p.trans P) A (R d v r) hk
theorem rel_kn {k : KN} {Q : L2.St → Hp → Prop} (p : Post m s H m0 s0 H0) (h : KNok B m s H k Q) (ro : RelOk B m0 s0 H0 s1 rel) : KNok B m0 s1 H0 (fun d s => rel s fun s2 => k d s2) Q := fun e m' s' H' σ p' a' r q => by
  obtain ⟨s2, hk, P, A, R⟩ := ro m' s' H' _ p' a' q
  exact h e m' s2 H' σ (p.trans P) A (r.map R) hk
theorem rel_kx {k : KX} {E : XK} (p : Post m s H m0 s0 H0) (h : KXok B m s H k E) (ro : RelOk B m0 s0 H0 s1 rel) : KXok B m0 s1 H0 (fun c d s => rel s fun s2 => k c d s2) E := fun c d m' s' H' cls dd p' a' r q => by
  obtain ⟨s2, hk, P, A, R⟩ := ro m' s' H' _ p' a' q
  refine h c d m' s2 H' cls dd (p.trans P) A ⟨r.1, ?_⟩ hk
  rcases r.2 with z | ⟨x, v, e1, e2, e3⟩
  · exact .inl z
  · exact .inr ⟨x, v, e1, e2, R _ _ e3⟩
theorem s_for {g : XG} {b : XS} {xi : XI} {body : List Stmt} {pos : Pos} {w : List Nat} (hp : PassesOwn (model X.prog X.w) X.A X.env X.xe) (hc : X.calm = true) (hi : PI X tg iter (TIr B E xi)) (hg : PG X tg (TGr B E w g)) (hb : PSs X body (TSt B E b))
    (hs : ∀ x, foldedSetIterable iter X.env x = pure x) : PS X (.For tg iter body [] pos) (TSt B E (sFor xi g b)) := wkS (ps_for hp hc hi hg hb hs) fun Dn σ H ⟨m, s, env, n, c, ar, er, hx, hn, hcc⟩ =>
  ⟨m, s, env, _, c.kx, ar, er, hx, fun l m0 s0 H0 s1 rel J p a0 W h => by
    obtain ⟨p1, a1, ro, wk⟩ := W.now a0
    refine ⟨fun i mm σ' H' => mm = l.length - i ∧ i ≤ l.length ∧ ∃ m' s' env', Post m0 s1 H0 m' s' H' ∧ AR B m' s' H' ∧ ER B m' s' H' env' σ' ∧ lpF g b n c rel (l.drop i) env' s' = true, ⟨l.length, by simp, Nat.zero_le _, m0, s1, env, .refl, a1, er.post (p.trans p1) ar, by simpa using h⟩, ?_⟩
    have KR := rel_kd p hcc.rt ro
    have KN := rel_kn p hn ro
    have KX := rel_kx p hcc.xx ro
    rintro i mm σ' H' ⟨em, hi, m', s', env', p', a', e', h'⟩
    by_cases hl : i < l.length
    · obtain ⟨d, hd⟩ : ∃ d, l[i]? = some d := ⟨l[i], by simp [hl]⟩
      have ed : l.drop i = d :: l.drop (i + 1) := by
        rw [List.drop_eq_getElem_cons hl]
        congr 1
        rw [List.getElem?_eq_getElem hl] at hd
        exact Option.some.inj hd
      rw [ed] at h'
      obtain ⟨go, yl⟩ := wk.step i d m' s' H' p' a' hd
      refine .inr ⟨go, fun σ2 H2 => ∃ m2 s2 env2, Post m0 s1 H0 m2 s2 H2 ∧ AR B m2 s2 H2 ∧ ER B m2 s2 H2 env2 σ2 ∧ lpF g b n c rel (l.drop (i + 1)) env2 s2 = true, fun σ2 H2 z => ⟨l.length - (i + 1), by omega, rfl, hl, z⟩, fun x H2 y => ?_⟩
      obtain ⟨p2, a2, r2⟩ := yl x H2 y
      have h2 : g d env' s' (fun e1 s1 => b e1 s1 (lpF g b n c rel (l.drop (i + 1))) ⟨fun d s => rel s fun s2 => c.kr d s2, fun e s => rel s fun s2 => n e s2, lpF g b n c rel (l.drop (i + 1)), fun i p s => rel s fun s2 => c.kx i p s2⟩) (fun i p s => rel s fun s2 => c.kx i p s2) = true := h'
      have pp := p'.trans p2
      refine ⟨m', s', env', d, _, _, a2, e'.post p2 a', r2, h2, KX.post pp, fun env3 m3 s3 H3 σ3 p3 a3 e3 _ _ h3 => ?_⟩
      have again : KNok B m3 s3 H3 (lpF g b n c rel (l.drop (i + 1))) (fun σ2 H2 => ∃ m2 s2 env2, Post m0 s1 H0 m2 s2 H2 ∧ AR B m2 s2 H2 ∧ ER B m2 s2 H2 env2 σ2 ∧ lpF g b n c rel (l.drop (i + 1)) env2 s2 = true) := fun e4 m4 s4 H4 σ4 p4 a4 r4 h4 => ⟨m4, s4, e4, (pp.trans p3).trans p4, a4, r4, h4⟩
      exact ⟨m3, s3, env3, _, _, a3, e3, h3, again, ⟨(KR.post pp).post p3, (KN.post pp).post p3, again, (KX.post pp).post p3⟩⟩
    · have e : i = l.length := by omega
      subst e
      rw [List.drop_length] at h'
      refine .inl ⟨wk.stop m' s' H' p' a', KN env' m' s' H' σ' p' a' e' h'⟩, hcc.xx⟩
end
end Ev
end
end

/-! part EvI -/
section
set_option Elab.async false
set_option linter.all false
set_option maxRecDepth 100000
set_option maxHeartbeats 4000000
/-! EvI: list comprehensions. -/
noncomputable section
namespace Ev
open PySem PySem.Spec PyProof.Rows L2

abbrev E0 : XK := fun _ _ _ => False
def x0 : KX := fun _ _ _ => false
def wipeD (e : List D) (vs : List Nat) : List D := List.rec (motive := fun _ => List D) e (fun v _ ih => put ih .unb v) vs
def revD (l : List D) : List D := List.rec (motive := fun _ => List D → List D) (fun a => a) (fun x _ ih a => ih (x :: a)) l []
theorem revD_eq (l : List D) : revD l = l.reverse := by
  have h : ∀ (l a : List D), List.rec (motive := fun _ => List D → List D) (fun a => a) (fun x _ ih a => ih (x :: a)) l a = l.reverse ++ a := fun l => by
    induction l with
    | nil => intro a; rfl
    | cons x r ih =>
      intro a
      show List.rec (motive := fun _ => List D → List D) (fun a => a) (fun x _ ih a => ih (x :: a)) r (x :: a) = _
      rw [ih, List.reverse_cons, List.append_assoc]
      rfl
  show List.rec (motive := fun _ => List D → List D) (fun a => a) (fun x _ ih a => ih (x :: a)) l [] = _
  rw [h, List.append_nil]
def trIf (t : Bool) (n : Nat) (s : S) (k : S → Bool) : Bool := Bool.rec (motive := fun _ => Bool) (k s) (trim n s k) t
/-- the turns: what was found, backwards -/
def lpC (g : XG) (t el : XE) (n : Nat) (tr : Bool) (e0 : List D) (fin : List D → S → Bool) (l : List D) : List D → S → Bool :=
  List.rec (motive := fun _ => List D → S → Bool) fin (fun d _ ih acc s => g d e0 s (fun e1 s1 => t e1 s1 (fun b s2 => asB b fun q => ifB q (el e1 s2 (fun y s3 => trIf tr (Nat.succ n) s3 fun s4 => ih (y :: acc) s4) x0) (trIf tr (Nat.succ n) s2 fun s4 => ih acc s4)) x0) x0) l
def shw (n : Nat) (l : List D) (s : S) (k : S → Bool) : Bool := S.rec (motive := fun _ => Bool) (fun nl no os => k (.mk nl no (osSet os n (.lst l)))) s
def xLc (i : XI) (g : XG) (t el : XE) (own : List Nat) (tr : Bool) : XE := fun e s k x => i e s (fun l s1 rel => grd (shortB l) (S.rec (motive := fun _ => Bool) (fun nl no os => frN no fun no =>
  lpC g t el no tr (wipeD e own) (fun acc s2 => shw no (revD acc) s2 fun s3 => rel s3 fun s4 => k (.ref no) s4) l [] (.mk nl (Nat.succ no) ((no, .hid) :: os))) s1)) x

section
variable {B : Bs} {m : Md} {s : S} {H : Hp}
theorem rds_rev {nl no : Nat} {W : Addr → Prop} : ∀ {ds : List D} {xs : List V}, RDs B m nl no W H ds.reverse xs → ∀ {d : D} {x : V}, RD B m nl no W H d x → RDs B m nl no W H (d :: ds).reverse (xs ++ [x]) := fun {ds xs} h {d x} r => by
  rw [List.reverse_cons]
  generalize ds.reverse = l at h
  induction l generalizing xs with
  | nil =>
    have e : xs = [] := h
    rw [e]
    exact ⟨x, [], rfl, r, rfl⟩
  | cons a l ih =>
    obtain ⟨y, t, e, h1, h2⟩ := h
    subst e
    exact ⟨y, t ++ [x], rfl, h1, ih h2⟩
theorem wipe_get (σ : L2.St) : ∀ (vs : List Nat) (i : Nat), (wipe σ vs)[i]? = if i ∈ vs then (σ[i]?).map (fun _ => none) else σ[i]?
  | [], i => by simp [wipe]
  | v :: vs, i => by
    show ((wipe σ vs).set v none)[i]? = _
    rw [List.getElem?_set]
    by_cases h : v = i
    · subst h
      rw [if_pos rfl, wipe_length, if_pos List.mem_cons_self]
      by_cases hl : v < σ.length
      · rw [if_pos hl, List.getElem?_eq_getElem hl]
        rfl
      · rw [if_neg hl, List.getElem?_eq_none (Nat.le_of_not_lt hl)]
        rfl
    · rw [if_neg h, wipe_get σ vs i]
      by_cases h2 : i ∈ vs
      · rw [if_pos h2, if_pos (List.mem_cons_of_mem _ h2)]
      · rw [if_neg h2, if_neg (fun z => (List.mem_cons.mp z).elim (fun q => h q.symm) h2)]
theorem wipe_same {σ σ2 : L2.St} {vs w : List Nat} (hl : σ2.length = σ.length) (hw : ∀ i ∈ w, i ∈ vs) (h : ∀ i, i ∉ w → σ2[i]? = σ[i]?) : wipe σ2 vs = wipe σ vs := by
  refine List.ext_getElem? fun i => ?_
  rw [wipe_get, wipe_get]
  by_cases hi : i ∈ vs
  · rw [if_pos hi, if_pos hi]
    by_cases h1 : i < σ.length
    · rw [List.getElem?_eq_getElem h1, List.getElem?_eq_getElem (by rw [hl]; exact h1)]
      rfl
    · rw [List.getElem?_eq_none (Nat.le_of_not_lt h1), List.getElem?_eq_none (by rw [hl]; exact Nat.le_of_not_lt h1)]
  · rw [if_neg hi, if_neg hi]
    exact h i fun z => hi (hw i z)
theorem wipe_wipe {σ : L2.St} {vs : List Nat} : wipe (wipe σ vs) vs = wipe σ vs := by
  refine List.ext_getElem? fun i => ?_
  rw [wipe_get, wipe_get]
  by_cases hi : i ∈ vs
  · rw [if_pos hi, if_pos hi]
    cases σ[i]? <;> rfl
  · rw [if_neg hi, if_neg hi]
theorem er_wipe {env : List D} {σ : L2.St} (er : ER B m s H env σ) : ∀ (vs : List Nat), ER B m s H (wipeD env vs) (wipe σ vs)
  | [] => er
  | v :: vs => by
    have ih := er_wipe er vs
    show ER B m s H (put (wipeD env vs) .unb v) ((wipe σ vs).set v none)
    refine ⟨by rw [put_eq, List.length_set, List.length_set]; exact ih.len, fun i d h => ?_⟩
    rw [put_eq, List.getElem?_set] at h
    by_cases e : v = i
    · rw [if_pos e] at h
      split at h
      · cases h
        exact .inl rfl
      · cases h
    · rw [if_neg e] at h
      rw [List.getElem?_set_ne e]
      exact ih.at_ i d h
theorem trIf_ok {m0 : Md} {s0 : S} {H0 : Hp} {n : Nat} {t : Bool} {k : S → Bool} (p : Post m0 s0 H0 m s H) (hn : s0.no ≤ n) (n0 : ∀ i o, osGet s0.os i = some o → i < s0.no) (ar : AR B m s H) (h : trIf t n s k = true) :
    ∃ s', k s' = true ∧ Post m0 s0 H0 m s' H ∧ AR B m s' H ∧ (∀ d v, RDw B m s H d v → RDw B m s' H d v) ∧ (∀ d v, RDws B m s H d v → RDws B m s' H d v) ∧ ∀ i o, i < n → osGet s.os i = some o → osGet s'.os i = some o := by
  cases t with
  | false => exact ⟨s, h, p, ar, fun _ _ r => r, fun _ _ r => r, fun _ _ _ r => r⟩
  | true =>
    obtain ⟨nl, no, os⟩ := s
    obtain ⟨P, A, R⟩ := post_trim p hn n0 ar
    have Rs : ∀ d v, RDws B m (.mk nl no os) H d v → RDws B m (.mk nl no (trimO n os)) H d v := fun d => by
      induction d with
      | nil => exact fun v h => h
      | cons a l ih => exact fun v ⟨x, t, e, h1, h2⟩ => ⟨x, t, e, R _ _ h1, ih _ h2⟩
    exact ⟨_, h, P, A, R, Rs, fun i o hi e => trim_keep hi e⟩
theorem post_far {m0 : Md} {s0 : S} {H0 : Hp} {a : Addr} {u : HO} (p : Post m0 s0 H0 m s H) (h : H0 a = none) : Post m0 s0 H0 m s (upd H a u) :=
  ⟨p.more, fun b o e n t => by rw [upd_ne (ne_of_none e h)]; exact p.keep b o e n t, p.wsub, p.alsub, p.fzp⟩
theorem hid_nwr {n : Nat} (ar : AR B m s H) (hg : osGet s.os n = some .hid) : ¬ Wr m s (m.ρ n) := fun ⟨i, o, e, w, q⟩ => by
  have e2 := ar.inj i n o _ e hg q
  subst e2
  rw [hg] at e
  cases e
  cases w
end
/-- a comprehension's block -/
abbrev SI.blk (c : SI) (scope : Scope) : SI := ⟨c.N, relS scope c.sc, c.k, c.gd, fun x => scope.names.lookup x == some .cell, false⟩
theorem cok_blk {B : Bs} {c : SI} {E : XK} {X : Cx} (C : Cok B c E X) (s : Shared) (H : Hp) (scope : Scope) (cl : List (Str × Addr)) (L : Addr) (fp : List Addr) :
    Cok B (c.blk scope) E0 (X.blk s H scope (compEnvC scope cl L X.env) fp) :=
  ⟨C.P, C.w, C.K, C.mg, C.base, C.N, by show relS scope X.env.scope = _; rw [C.sc], C.nd, C.calm, C.room, C.grd, PassesOwn.never, takes0, rfl, fun z => absurd z Bool.false_ne_true⟩
section
variable {B : Bs} {c : SI} {E : XK} {X : Cx} {elt tg iter : Expr} {pos : Pos} {scope : Scope} {own : List (Str × Nat)} {xi : XI} {g : XG} {t el : XE} {tr : Bool}
/-- the reading of a list comprehension: the turns -/
theorem lc_ki {w vs : List Nat} {σ : L2.St} {H : Hp} {Q : VK} {m : Md} {s : S} {env : List D} {k : KD} (hw : ∀ i ∈ w, i ∈ vs) (ar : AR B m s H) (er : ER B m s H env σ) (hk : KDok B m s H k Q) :
    KIok B m s H (fun l s1 rel => grd (shortB l) (S.rec (motive := fun _ => Bool) (fun nl no os => frN no fun no => lpC g t el no tr (wipeD env vs) (fun acc s2 => shw no (revD acc) s2 fun s3 => rel s3 fun s4 => k (.ref no) s4) l [] (.mk nl (Nat.succ no) ((no, .hid) :: os))) s1))
      (fun J H1 => ∀ D, H1 D = none → ∃ W : Nat → Nat → Hp → Prop, (∃ m, W 0 m (upd H1 D (.lst []))) ∧ ∀ i m H, W i m H →
        (J.stop i H ∧ Q (.ref D) H) ∨ (J.go i H ∧ ∃ Nx : Hp → Prop, (∀ H', Nx H' → ∃ m', m' < m ∧ W (i + 1) m' H') ∧ ∀ x H', J.yld i H x H' → TGr B E0 w g x (wipe σ vs) H' fun σ2 H2 => wipe σ2 vs = wipe σ vs ∧ TB B E0 t σ2 H2 fun b H3 =>
          if b = true then TX B E0 el σ2 H3 fun y H4 => ∃ acc, H4 D = some (.lst acc) ∧ acc.length < sizeLine ∧ Nx (upd H4 D (.lst (acc ++ [y]))) else Nx H3)) := by
  intro l m0 s0 H0 s1 rel J p a0 W h
  obtain ⟨p1, a1, ro, wk⟩ := W.now a0
  obtain ⟨hs, h⟩ := grd_ok h
  have hs := shortB_ok hs
  intro A hA
  obtain ⟨nl, no, os⟩ := s1
  have h2 : frN no _ = true := h
  rw [frN_eq] at h2
  obtain ⟨p2, a2, _⟩ := made (o := .hid) (u := .lst []) a1 hA fun m' s' H' P e => ⟨[], e⟩
  have rA : (m0.add no A).ρ no = A := add_same
  have get0 : osGet ((no, O.hid) :: os) no = some .hid := by rw [osGet_cons, if_pos rfl]
  have oldn : ∀ o, osGet os no = some o → False := fun o e => Nat.lt_irrefl _ (a1.num no o e)
  -- at each turn
  let fin : List D → S → Bool := fun acc s2 => shw no (revD acc) s2 fun s3 => rel s3 fun s4 => k (.ref no) s4
  let lp := fun l => lpC g t el no tr (wipeD env vs) fin l
  have hx2 : lp l [] (.mk nl (no + 1) ((no, .hid) :: os)) = true := h2
  have er0 : ER B m0 (.mk nl no os) H0 (wipeD env vs) (wipe σ vs) := er_wipe (er.post (p.trans p1) ar) vs
  let I2 : Nat → Hp → Prop := fun i H' => ∃ m' s' acc xs, Post m0 (.mk nl no os) H0 m' s' H' ∧ AR B m' s' H' ∧ osGet s'.os no = some .hid ∧ m'.ρ no = A ∧ H' A = some (.lst xs) ∧ RDws B m' s' H' acc.reverse xs ∧ acc.length ≤ i ∧ lp (l.drop i) acc s' = true
  refine ⟨fun i mm H' => mm = l.length - i ∧ i ≤ l.length ∧ I2 i H', ⟨l.length, by simp, Nat.zero_le _, _, _, [], [], p2, a2, get0, rA, upd_same, rfl, Nat.le_refl _, by simpa using hx2⟩, ?_⟩
  rintro i mm H' ⟨em, hi, m', s', acc, xs, p', a', g', rho, hA', rx, hacc, h'⟩
  by_cases hl : i < l.length
  · obtain ⟨d, hd⟩ : ∃ d, l[i]? = some d := ⟨l[i], by simp [hl]⟩
    have ed : l.drop i = d :: l.drop (i + 1) := by
      rw [List.drop_eq_getElem_cons hl]
      congr 1
      rw [List.getElem?_eq_getElem hl] at hd
      exact Option.some.inj hd
    rw [ed] at h'
    have h3 : g d (wipeD env vs) s' (fun e1 s1 => t e1 s1 (fun b s2 => asB b fun q => ifB q (el e1 s2 (fun y s3 => trIf tr (Nat.succ no) s3 fun s4 => lp (l.drop (i + 1)) (y :: acc) s4) x0) (trIf tr (Nat.succ no) s2 fun s4 => lp (l.drop (i + 1)) acc s4)) x0) x0 = true := h'
    obtain ⟨go, yl⟩ := wk.step i d m' s' H' p' a' hd
    have kx0 : ∀ {m s H}, KXok B m s H x0 E0 := fun {m s H} c p m' s' H' cls dd _ _ _ z => absurd z Bool.false_ne_true
    refine .inr ⟨go, I2 (i + 1), fun H' z => ⟨l.length - (i + 1), by omega, rfl, hl, z⟩, fun x H2 y => ?_⟩
    obtain ⟨q2, b2, r2⟩ := yl x H2 y
    refine ⟨m', s', wipeD env vs, d, _, x0, b2, er0.post (p'.trans q2) a1, r2, h3, kx0, fun env3 m3 s3 H3 σ3 q3 b3 e3 len3 out3 h4 => ?_⟩
    refine ⟨(wipe_same len3 hw out3).trans wipe_wipe, m3, s3, env3, _, x0, b3, e3, h4, fun bd m4 s4 H4 bv q4 b4 rb h5 => ?_, kx0⟩
    obtain ⟨bb, eb, h6⟩ := asB_ok h5
    subst eb
    cases rb
    refine ⟨bb, rfl, ?_⟩
    show if bb = true then TX B E0 el σ3 H4 (fun y H5 => ∃ acc, H5 A = some (HO.lst acc) ∧ acc.length < sizeLine ∧ I2 (i + 1) (upd H5 A (HO.lst (acc ++ [y])))) else I2 (i + 1) H4
    have Q4 : Post m' s' H' m4 s4 H4 := (q2.trans q3).trans q4
    -- what is known behind any further step
    have fix : ∀ {m5 s5 H5}, Post m' s' H' m5 s5 H5 → osGet s5.os no = some .hid ∧ m5.ρ no = A ∧ H5 A = some (.lst xs) ∧ RDws B m5 s5 H5 acc.reverse xs := fun {m5 s5 H5} q5 =>
      ⟨q5.fzp no _ g' rfl, (q5.more.rho no (a'.num no _ g')).trans rho, q5.keep A _ hA' (by rw [← rho]; exact hid_nwr a' g') (fun ps z => by cases z), q5.rds a' rx⟩
    rcases ifB_ok h6 with ⟨e, h7⟩ | ⟨e, h7⟩
    · rw [if_pos e]
      refine ⟨m4, s4, env3, _, x0, b4, e3.post q4 b3, h7, fun yd m5 s5 H5 yv q5 b5 ry h8 => ?_, kx0⟩
      have Q5 := Q4.trans q5
      obtain ⟨f1, f2, f3, f4⟩ := fix Q5
      obtain ⟨s6, h9, P6, A6, R6, Rs6, G6⟩ := trIf_ok (p'.trans Q5) (Nat.le_succ no) a1.num b5 h8
      have f1' := G6 no _ (Nat.lt_succ_self no) f1
      have len := rds_len f4
      refine ⟨xs, f3, ?_, ?_⟩
      · rw [List.length_reverse] at len
        rw [sizeLine_eq]
        omega
      · obtain ⟨A7, R7, Rs7⟩ := hid_grow (ys := xs ++ [yv]) A6 f1'
        rw [f2] at A7 R7 Rs7
        exact ⟨m5, s6, yd :: acc, xs ++ [yv], post_far P6 hA, A7, f1', f2, upd_same, rds_rev (Rs7 _ _ (Rs6 _ _ f4)) (R7 _ _ (R6 _ _ ry)), by rw [List.length_cons]; omega, h9⟩
    · rw [if_neg (by rw [e]; exact Bool.false_ne_true)]
      obtain ⟨f1, f2, f3, f4⟩ := fix Q4
      obtain ⟨s6, h9, P6, A6, R6, Rs6, G6⟩ := trIf_ok (p'.trans Q4) (Nat.le_succ no) a1.num b4 h7
      exact ⟨m4, s6, acc, xs, P6, A6, G6 no _ (Nat.lt_succ_self no) f1, f2, f3, Rs6 _ _ f4, by omega, h9⟩
  · have e : i = l.length := by omega
    subst e
    rw [List.drop_length] at h'
    refine .inl ⟨wk.stop m' s' H' p' a', ?_⟩
    obtain ⟨nl', no', os'⟩ := s'
    have h3 : rel (.mk nl' no' (osSet os' no (.lst (revD acc)))) (fun s4 => k (.ref no) s4) = true := h'
    rw [revD_eq] at h3
    obtain ⟨P4, A4⟩ := hid_show (l := acc.reverse) a' g' (by rw [rho]; exact hA') rx p' (by rw [rho]; exact fun o z => by rw [hA] at z; cases z) oldn
    obtain ⟨s5, h5, P5, A5, R5⟩ := ro m' _ H' _ P4 A4 h3
    refine hk (.ref no) m' s5 H' _ (p.trans P5) A5 (R5 _ _ ⟨?_, by rw [rho]⟩) h5
    exact a'.num no _ g'
/-- the reading of a list comprehension -/
theorem lc_two {K : PySem.W.Frag} {w vs : List Nat} {σ : L2.St} {H : Hp} {Q : VK} (hw : ∀ i ∈ w, i ∈ vs) (h : TX B E (xLc xi g t el vs tr) σ H Q) :
    tLc (TIr B E xi) (TGr B E0 w g) (TB B E0 t) (TX B E0 el) vs σ H Q := by
  obtain ⟨m, s, env, k, kx, ar, er, hx, hk, hkx⟩ := h
  exact ⟨m, s, env, _, kx, ar, er, hx, lc_ki hw ar er hk, hkx⟩
/-- all the tests of a comprehension: none, or one -/
theorem x_lc {w : List Nat} {ifs : List Expr} (C : Cok B c E X) (hN : c.N.Nodup) (hi : PI X tg iter (TIr B E xi)) (ok : BlkOk c.N c.sc scope own) (hw : ∀ i ∈ w, i ∈ own.map (·.2))
    (hg : ∀ X', Cok B (c.blk scope) E0 X' → PG X' tg (TGr B E0 w g)) (ht : ∀ X', Cok B (c.blk scope) E0 X' → PTs X' ifs (TB B E0 t)) (he : ∀ X', Cok B (c.blk scope) E0 X' → PE X' elt (TX B E0 el)) (hs : ∀ x, foldedSetIterable iter X.env x = pure x) :
    PE X (.ListComp elt [⟨tg, iter, ifs, 0⟩] scope pos) (TX B E (xLc xi g t el (own.map (·.2)) tr)) :=
  wkE (pe_lc C.calm (by rw [C.N]; exact hN) hi (by rw [C.N, C.sc]; exact ok) (fun s H L cl fp => hg _ (cok_blk C s H scope cl L fp)) (fun s H L cl fp => ht _ (cok_blk C s H scope cl L fp)) (fun s H L cl fp => he _ (cok_blk C s H scope cl L fp)) hs) fun σ H Q h => lc_two (K := B.K) hw h
theorem ts_nil {c' : SI} {X' : Cx} (C : Cok B c' E0 X') : PTs X' [] (TB B E0 (xK (.bl true))) := ⟨fun pins s σ H Q I ⟨m, s1, env, k, kx, ar, er, hx, hk, _⟩ => pts_nil.run pins s σ H Q I (by
  obtain ⟨b, e, q⟩ := hk (.bl true) m s1 H _ .refl ar rfl hx
  cases e
  exact q)⟩
theorem ts_one {X' : Cx} {e : Expr} (h : PT X' e (TB B E0 t)) : PTs X' [e] (TB B E0 t) := pts_one h
/-- name = [..] on one line -/
theorem s_setLc {w : List Nat} {ifs : List Expr} {i : Nat} {y : Str} {py spos : Pos} (C : Cok B c E X) (hN : c.N.Nodup) (hy : c.N[i]? = some y) (hyl : c.sc.names.lookup y = some .local) (hi : PI X tg iter (TIr B E xi)) (ok : BlkOk c.N c.sc scope own) (hw : ∀ i ∈ w, i ∈ own.map (·.2))
    (hk : X.env.scope.kind = .function) (hl : (py.line == pos.line) = true) (hna : (scope.names.any fun (n, k) => n == y && (k == .local || k == .cell)) = false)
    (hg : ∀ X', Cok B (c.blk scope) E0 X' → PG X' tg (TGr B E0 w g)) (ht : ∀ X', Cok B (c.blk scope) E0 X' → PTs X' ifs (TB B E0 t)) (he : ∀ X', Cok B (c.blk scope) E0 X' → PE X' elt (TX B E0 el)) (hs : ∀ x, foldedSetIterable iter X.env x = pure x) :
    PS X (.Assign [.Name y py] (.ListComp elt [⟨tg, iter, ifs, 0⟩] scope pos) spos) (TSt B E (sSet i (xLc xi g t el (own.map (·.2)) tr))) :=
  wkS (ps_setLc C.calm (by rw [C.N]; exact hN) (C.at_ hy) (by rw [C.sc]; exact hyl) (sw_true hk (by rw [C.sc]; exact hyl) hl hna) hi (by rw [C.N, C.sc]; exact ok) (fun s H L cl fp => hg _ (cok_blk C s H scope cl L fp)) (fun s H L cl fp => ht _ (cok_blk C s H scope cl L fp)) (fun s H L cl fp => he _ (cok_blk C s H scope cl L fp)) hs) fun Dn σ H ⟨m, s, env, n, cc, ar, er, hx, hn, hc⟩ => by
    refine lc_two (K := B.K) (E := E) hw ⟨m, s, env, _, cc.kx, ar, er, hx, fun d m1 s1 H1 v p1 a1 r1 h => ?_, hc.xx⟩
    exact hn _ m1 s1 H1 _ p1 a1 (er_put (er.post p1 ar) r1 i) h
end
end Ev
end
end

/-! part EvJ -/
section
set_option Elab.async false
set_option linter.all false
set_option maxRecDepth 100000
set_option maxHeartbeats 4000000
/-! EvJ: == and != of data. -/
noncomputable section
namespace Ev
open PySem PySem.Spec PyProof.Rows L2

inductive Vw where
  | no | non | bl (b : Bool) | int (i : Int) | str (x : Str) | rep (n : Nat) | cat (w : Str) (n : Nat) | tp (l : List D) | ls (l : List D)
/-- how a value looks, a list read -/
def vwC (l : List D) : Vw := match l with
  | [.unb, .str w, .sym n] => .cat w n
  | _ => .no
def vw (s : S) : D → Vw
  | .non => .non
  | .bl b => .bl b
  | .int i => .int i
  | .str x => .str x
  | .tup l => .tp l
  | .fl l => .ls l
  | .tm l => .tp l
  | .rep (.sym n) => .rep n
  | .rep (.tup l) => vwC l
  | .ref n => match osGet (sOs s) n with
    | some (.lst l) => .ls l
    | some (.fz l) => .ls l
    | _ => .no
  | _ => .no
def nE : List Nat → List Nat → Bool := List.rec (motive := fun _ => List Nat → Bool) (fun b => List.rec (motive := fun _ => Bool) true (fun _ _ _ => false) b) (fun x _ ih b => List.rec (motive := fun _ => Bool) false (fun y t _ => Bool.rec (motive := fun _ => Bool) false (ih t) (Nat.beq x y)) b)
theorem nE_eq : ∀ a b : List Nat, nE a b = decide (a = b)
  | [], [] => rfl
  | [], _ :: _ => rfl
  | _ :: _, [] => rfl
  | x :: a, y :: b => by
    show Bool.rec (motive := fun _ => Bool) false (nE a b) (Nat.beq x y) = _
    by_cases h : x = y
    · subst h
      rw [Nat.beq_refl, nE_eq a b]
      simp
    · cases e : Nat.beq x y with
      | true => exact absurd (Nat.eq_of_beq_eq_true e) h
      | false =>
        show false = _
        simp [h]
def strE (x y : Str) : Bool := nE x.cps.toList y.cps.toList
theorem strE_eq (x y : Str) : strE x y = (x == y) := by
  unfold strE
  rw [nE_eq, Bool.eq_iff_iff, decide_eq_true_eq, beq_iff_eq]
  constructor
  · intro h
    cases x; cases y
    congr 1
    exact Array.toList_inj.mp h
  · intro h
    rw [h]
def eqL (f : D → D → Option Bool) : List D → List D → Option Bool
  | [], [] => some true
  | x :: xs, y :: ys => match f x y with
    | some true => eqL f xs ys
    | r => r
  | _, _ => some false
def eqW (f : D → D → Option Bool) : Vw → Vw → Option Bool
  | .no, _ => none
  | _, .no => none
  | .non, .non => some true
  | .bl a, .bl b => some (Bool.rec (Bool.rec true false b) b a)
  | .bl a, .int j => some (iEq (Bool.rec 0 1 a) j)
  | .int i, .bl b => some (iEq i (Bool.rec 0 1 b))
  | .int i, .int j => some (iEq i j)
  | .str x, .str y => some (strE x y)
  | .rep i, .rep j => Bool.rec none (some true) (Nat.beq i j)
  | .rep _, .str _ => none
  | .str _, .rep _ => none
  | .cat w i, .cat z j => Bool.rec none (Bool.rec none (some true) (Nat.beq i j)) (strE w z)
  | .cat _ _, .str _ => none
  | .str _, .cat _ _ => none
  | .cat _ _, .rep _ => none
  | .rep _, .cat _ _ => none
  | .tp xs, .tp ys => eqL f xs ys
  | .ls xs, .ls ys => eqL f xs ys
  | _, _ => some false
def eqF (s : S) : Nat → D → D → Option Bool
  | 0, _, _ => none
  | n + 1, a, b => eqW (eqF s n) (vw s a) (vw s b)
/-- what == may be asked of -/
def okS (x : Str) : Bool := PyData.strOk x
def dpF (s : S) : Nat → D → Bool
  | 0, _ => false
  | n + 1, a => match vw s a with
    | .no => false
    | .str x => okS x
    | .cat w _ => okS w
    | .tp l => l.all (dpF s n)
    | .ls l => l.all (dpF s n)
    | _ => true
/-- what is meant -/
def mapO (f : D → Option PyData) : List D → Option (List PyData)
  | [] => some []
  | x :: xs => match f x, mapO f xs with
    | some p, some ps => some (p :: ps)
    | _, _ => none
def pyF (ν : Nat → D) (s : S) : Nat → D → Option PyData
  | 0, _ => none
  | n + 1, a => match vw s a with
    | .no => none
    | .non => some .none
    | .bl b => some (.bool b)
    | .int i => some (.int i)
    | .str x => some (.str x)
    | .rep n => (toPy (ν n)).map fun p => .str p.shown
    | .cat w n => (toPy (ν n)).map fun p => .str (w ++ p.shown)
    | .tp l => (mapO (pyF ν s n) l).map .tuple
    | .ls l => (mapO (pyF ν s n) l).map .list
theorem eqL_ok {f : D → D → Option Bool} {g : D → Option PyData} (h : ∀ a b r p q, f a b = some r → g a = some p → g b = some q → PyData.eqv p q = r) : ∀ (xs ys : List D) (r : Bool) (ps qs : List PyData), eqL f xs ys = some r → mapO g xs = some ps → mapO g ys = some qs → PyData.eqvAll ps qs = r
  | [], [], r, ps, qs, h1, h2, h3 => by
    simp only [eqL, mapO, Option.some.injEq] at h1 h2 h3
    subst h1 h2 h3
    simp only [PyData.eqvAll]
  | [], y :: ys, r, ps, qs, h1, h2, h3 => by
    simp only [eqL, mapO, Option.some.injEq] at h1 h2 h3
    subst h1 h2
    split at h3
    · cases h3
      simp only [PyData.eqvAll]
    · cases h3
  | x :: xs, [], r, ps, qs, h1, h2, h3 => by
    simp only [eqL, mapO, Option.some.injEq] at h1 h2 h3
    subst h1 h3
    split at h2
    · cases h2
      simp only [PyData.eqvAll]
    · cases h2
  | x :: xs, y :: ys, r, ps, qs, h1, h2, h3 => by
    simp only [mapO] at h2 h3
    split at h2
    · rename_i p pt e1 e2
      cases h2
      split at h3
      · rename_i q qt e3 e4
        cases h3
        simp only [eqL] at h1
        simp only [PyData.eqvAll]
        split at h1
        · rename_i e5
          rw [h _ _ _ _ _ e5 e1 e3, Bool.true_and]
          exact eqL_ok h xs ys r pt qt h1 e2 e4
        · rename_i e5
          cases r with
          | true => exact absurd h1 e5
          | false => rw [h _ _ _ _ _ h1 e1 e3, Bool.false_and]
      · cases h3
    · cases h2
theorem eqF_ok {ν : Nat → D} {s : S} : ∀ (n : Nat) (a b : D) (r : Bool) (p q : PyData), eqF s n a b = some r → pyF ν s n a = some p → pyF ν s n b = some q → PyData.eqv p q = r
  | 0, _, _, _, _, _, h, _, _ => by cases h
  | n + 1, a, b, r, p, q, h1, h2, h3 => by
    have ih := eqF_ok (ν := ν) (s := s) n
    have h1' : eqW (eqF s n) (vw s a) (vw s b) = some r := h1
    simp only [pyF] at h2 h3
    generalize vw s a = u at h1' h2
    generalize vw s b = v at h1' h3
    cases u <;> cases v <;> simp only [eqW, Option.some.injEq, Option.map_eq_some_iff, reduceCtorEq] at h1' h2 h3 <;>
      first
        | (obtain ⟨x, hx, rfl⟩ := h2
           obtain ⟨y, hy, rfl⟩ := h3
           simp only [PyData.eqv]
           first
             | exact h1'
             | exact eqL_ok ih _ _ _ _ _ h1' hx hy
             | (split at h1' <;> skip))
        | (obtain ⟨x, hx, rfl⟩ := h2
           subst h3
           simp only [PyData.eqv]
           exact h1')
        | (obtain ⟨y, hy, rfl⟩ := h3
           subst h2
           simp only [PyData.eqv]
           exact h1')
        | (subst h2 h3
           simp only [PyData.eqv]
           first
             | exact h1'
             | (rw [← h1', strE_eq])
             | (rw [← h1', iEq_eq]; simp [beq_eq_decide]; done)
             | (subst h1'; rename_i x y; cases x <;> cases y <;> rfl)
             | (subst h1'; rename_i x y; cases x <;> simp [iEq_eq, beq_eq_decide]; done)
             | (subst h1'; rename_i x y; cases y <;> simp [iEq_eq, beq_eq_decide]; done))
        | skip
    case bl.int x y =>
      subst h2 h3
      rw [← h1', iEq_eq]
      cases x <;> simp only [PyData.eqv] <;> rw [Bool.eq_iff_iff] <;> simp
    case int.bl x y =>
      subst h2 h3
      rw [← h1', iEq_eq]
      cases y <;> simp only [PyData.eqv] <;> rw [Bool.eq_iff_iff] <;> simp
    case int.int x y =>
      subst h2 h3
      rw [← h1', iEq_eq]
      simp only [PyData.eqv]
      rw [Bool.eq_iff_iff]
      simp
    case rep.rep x y =>
      obtain ⟨u, hu, rfl⟩ := h2
      obtain ⟨v, hv, rfl⟩ := h3
      cases e : Nat.beq x y with
      | false => rw [e] at h1'; cases h1'
      | true =>
        rw [e] at h1'
        cases h1'
        have e2 := Nat.eq_of_beq_eq_true e
        subst e2
        rw [hu] at hv
        cases hv
        simp only [PyData.eqv]
        simp
    case cat.cat w x z y =>
      obtain ⟨u, hu, rfl⟩ := h2
      obtain ⟨v, hv, rfl⟩ := h3
      cases e0 : strE w z with
      | false => rw [e0] at h1'; cases h1'
      | true =>
        rw [e0] at h1'
        have ew : w = z := by
          rw [strE_eq, beq_iff_eq] at e0
          exact e0
        subst ew
        cases e : Nat.beq x y with
        | false => rw [e] at h1'; cases h1'
        | true =>
          rw [e] at h1'
          cases h1'
          have e2 := Nat.eq_of_beq_eq_true e
          subst e2
          rw [hu] at hv
          cases hv
          simp only [PyData.eqv]
          simp
theorem strOk_app {x y : Str} (h : PyData.strOk x = true) (h2 : PyData.strOk y = true) : PyData.strOk (x ++ y) = true := by
  unfold PyData.strOk at *
  show (x.cps ++ y.cps).all _ = true
  rw [Array.all_append, h, h2]
  rfl
section
variable {B : Bs} {m : Md} {s : S} {H : Hp}
theorem dpL {K : PySem.W.Frag} {f : D → Bool} {g : D → Option PyData} {N : Nat} {nl no : Nat} {W : Addr → Prop} (h : ∀ d v, f d = true → RD B m nl no W H d v → ∃ p, Dp K H v p ∧ p.canLay0 = true ∧ p.depth ≤ N ∧ g d = some p) :
    ∀ (l : List D) (vs : List V), l.all f = true → RDs B m nl no W H l vs → ∃ ps, DpAll K H vs ps ∧ PyData.canLayAll0 ps = true ∧ PyData.depthAll ps ≤ N ∧ mapO g l = some ps
  | [], vs, _, r => by
    have e : vs = [] := r
    subst e
    exact ⟨[], .nil, by simp only [PyData.canLayAll0], by simp only [PyData.depthAll]; exact Nat.zero_le _, rfl⟩
  | d :: l, vs, ha, r => by
    obtain ⟨v, t, e, r1, r2⟩ := r
    subst e
    rw [List.all_cons, Bool.and_eq_true] at ha
    obtain ⟨p, h1, h2, h3, h4⟩ := h d v ha.1 r1
    obtain ⟨ps, k1, k2, k3, k4⟩ := dpL h l t ha.2 r2
    refine ⟨p :: ps, .cons h1 k1, by simp only [PyData.canLayAll0, h2, k2, Bool.and_self], by simp only [PyData.depthAll]; omega, by simp only [mapO, h4, k4]⟩
theorem vw_ok {d : D} {v : V} (ar : AR B m s H) (r : RDw B m s H d v) : match vw s d with
    | .no => True
    | .non => v = .non
    | .bl b => v = .bl b
    | .int i => v = .int i
    | .str x => v = .str x
    | .rep n => n < s.nl ∧ ∃ p, toPy (m.ν n) = some p ∧ v = .str p.shown
    | .cat w n => n < s.nl ∧ ∃ p, toPy (m.ν n) = some p ∧ v = .str (w ++ p.shown)
    | .tp l => ∃ a xs, v = .ref a ∧ SqT B.K H a xs ∧ RDws B m s H l xs
    | .ls l => ∃ a xs, v = .ref a ∧ H a = some (.lst xs) ∧ RDws B m s H l xs := by
  cases d with
  | rep d =>
    cases d with
    | sym n =>
      obtain ⟨hn, x, hx, ev⟩ := r
      obtain ⟨p, hp⟩ := (B.kdr n _ (ar.lets n hn)).1
      have e : txt (m.ν n) = some x := hx
      rw [txt_py hp] at e
      cases e
      exact ⟨hn, p, hp, ev⟩
    | tup l =>
      show (match vwC l with
        | .no => True
        | .non => v = .non
        | .bl b => v = .bl b
        | .int i => v = .int i
        | .str x => v = .str x
        | .rep n => n < s.nl ∧ ∃ p, toPy (m.ν n) = some p ∧ v = .str p.shown
        | .cat w n => n < s.nl ∧ ∃ p, toPy (m.ν n) = some p ∧ v = .str (w ++ p.shown)
        | .tp l => ∃ a xs, v = .ref a ∧ SqT B.K H a xs ∧ RDws B m s H l xs
        | .ls l => ∃ a xs, v = .ref a ∧ H a = some (.lst xs) ∧ RDws B m s H l xs)
      unfold vwC
      split
      · rename_i e
        split at e
        · cases e
        · exact True.intro
      all_goals first
        | (rename_i e
           split at e
           · cases e
             done
           · cases e
             done)
        | skip
      rename_i w n e
      split at e
      · cases e
        obtain ⟨⟨_, _, hn, _⟩, x, hx, ev⟩ := r
        obtain ⟨p, hp⟩ := (B.kdr n _ (ar.lets n hn)).1
        have e : (toPy (m.ν n)).map (fun p => w ++ p.shown) = some x := hx
        rw [hp] at e
        cases e
        exact ⟨hn, p, hp, ev⟩
      · cases e
    | _ => exact True.intro
  | ref n =>
    obtain ⟨_, e⟩ := r
    simp only [vw, sOs_eq]
    cases hg : osGet s.os n with
    | none => exact True.intro
    | some o =>
      cases o with
      | lst l =>
        obtain ⟨xs, hx, rx⟩ := ar.obj n _ hg
        exact ⟨_, xs, e, hx, rx⟩
      | fz l =>
        obtain ⟨xs, hx, rx⟩ := ar.obj n _ hg
        exact ⟨_, xs, e, hx, rx⟩
      | _ => exact True.intro
  | fl l =>
    obtain ⟨a, xs, e, q, _, t⟩ := r
    exact ⟨a, xs, e, q, t⟩
  | tup l => exact r
  | non => exact r
  | bl b => exact r
  | int i => exact r
  | str x => exact r
  | tm l =>
    obtain ⟨a, xs, o, e, q, _, t⟩ := r
    exact ⟨a, xs, e, .inl (.inr ⟨o, q⟩), t⟩
  | _ => exact True.intro
theorem dp_ok (ar : AR B m s H) : ∀ (n : Nat) (d : D) (v : V), dpF s n d = true → RDw B m s H d v → ∃ p, Dp B.K H v p ∧ p.canLay0 = true ∧ p.depth ≤ n ∧ pyF m.ν s n d = some p
  | 0, _, _, h, _ => absurd h Bool.false_ne_true
  | n + 1, d, v, h, r => by
    have w := vw_ok ar r
    have ih := dp_ok ar n
    simp only [dpF] at h
    simp only [pyF]
    generalize vw s d = u at h w
    cases u with
    | no => exact absurd h Bool.false_ne_true
    | non =>
      subst w
      exact ⟨_, .non, by simp only [PyData.canLay0], by simp only [PyData.depth]; exact Nat.zero_le _, rfl⟩
    | bl b =>
      subst w
      exact ⟨_, .bl b, by simp only [PyData.canLay0], by simp only [PyData.depth]; exact Nat.zero_le _, rfl⟩
    | int b =>
      subst w
      exact ⟨_, .int b, by simp only [PyData.canLay0], by simp only [PyData.depth]; exact Nat.zero_le _, rfl⟩
    | str b =>
      subst w
      exact ⟨_, .str b, by simp only [PyData.canLay0]; exact h, by simp only [PyData.depth]; exact Nat.zero_le _, rfl⟩
    | rep b =>
      obtain ⟨hn, p, hp, e⟩ := w
      subst e
      exact ⟨_, .str _, by simp only [PyData.canLay0]; exact ((B.kdr b _ (ar.lets b hn)).2 p hp).1, by simp only [PyData.depth]; exact Nat.zero_le _, show Option.map (fun p => PyData.str p.shown) (toPy (m.ν b)) = _ by rw [hp]; rfl⟩
    | cat z b =>
      obtain ⟨hn, p, hp, e⟩ := w
      subst e
      exact ⟨_, .str _, by simp only [PyData.canLay0]; exact strOk_app h ((B.kdr b _ (ar.lets b hn)).2 p hp).1, by simp only [PyData.depth]; exact Nat.zero_le _, show Option.map (fun p => PyData.str (z ++ p.shown)) (toPy (m.ν b)) = _ by rw [hp]; rfl⟩
    | tp l =>
      obtain ⟨a, xs, e, q, t⟩ := w
      subst e
      obtain ⟨ps, k1, k2, k3, k4⟩ := dpL (K := B.K) ih l xs h t
      exact ⟨_, .tup q k1, by simp only [PyData.canLay0]; exact k2, by simp only [PyData.depth]; omega, show Option.map PyData.tuple (mapO (pyF m.ν s n) l) = _ by rw [k4]; rfl⟩
    | ls l =>
      obtain ⟨a, xs, e, q, t⟩ := w
      subst e
      obtain ⟨ps, k1, k2, k3, k4⟩ := dpL (K := B.K) ih l xs h t
      exact ⟨_, .lst (sq_lst q) k1, by simp only [PyData.canLay0]; exact k2, by simp only [PyData.depth]; omega, show Option.map PyData.list (mapO (pyF m.ν s n) l) = _ by rw [k4]; rfl⟩
end
/-- a == b, told -/
def eqK (s : S) (a b : D) (k : Bool → Bool) : Bool := grd (dpF s 30 a) (grd (dpF s 30 b) (Option.rec (motive := fun _ => Bool) false k (eqF s 30 a b)))
theorem eqK_ok {B : Bs} {m : Md} {s : S} {H : Hp} {a b : D} {x y : V} {k : Bool → Bool} (ar : AR B m s H) (ra : RDw B m s H a x) (rb : RDw B m s H b y) (h : eqK s a b k = true) :
    ∃ p q, Dp B.K H x p ∧ Dp B.K H y q ∧ SeqAt.shaped p = true ∧ SeqAt.shaped q = true ∧ k (PyData.eqv p q) = true := by
  obtain ⟨h1, h2⟩ := grd_ok h
  obtain ⟨h3, h4⟩ := grd_ok h2
  obtain ⟨p, p1, p2, p3, p4⟩ := dp_ok ar 30 a x h1 ra
  obtain ⟨q, q1, q2, q3, q4⟩ := dp_ok ar 30 b y h3 rb
  cases e : eqF s 30 a b with
  | none => rw [e] at h4; exact absurd (show false = true from h4) Bool.false_ne_true
  | some r =>
    rw [e] at h4
    have e2 := eqF_ok 30 a b r p q e p4 q4
    refine ⟨p, q, p1, q1, ?_, ?_, by rw [e2]; exact h4⟩
    · unfold SeqAt.shaped
      rw [p2, Bool.true_and, decide_eq_true_eq]
      omega
    · unfold SeqAt.shaped
      rw [q2, Bool.true_and, decide_eq_true_eq]
      omega
def xEq (n : Bool) (a b : XE) : XE := fun e s k x => a e s (fun u s1 => b e s1 (fun v s2 => eqK s2 u v fun r => k (.bl (Bool.rec (motive := fun _ => Bool) r (Bool.rec (motive := fun _ => Bool) true false r) n)) s2) x) x
section
variable {B : Bs} {c : SI} {E : XK} {X : Cx} {ea eb : Expr} {pos : Pos} {xa xb : XE}
theorem eq_two {σ : L2.St} {H : Hp} {Q : VK} {n : Bool} (h : TX B E (xEq n xa xb) σ H Q) : tOp (fun x y H Q => ∃ d e, Dp B.K H x d ∧ Dp B.K H y e ∧ SeqAt.shaped d = true ∧ SeqAt.shaped e = true ∧ Q (.bl (Bool.rec (PyData.eqv d e) (Bool.rec true false (PyData.eqv d e)) n)) H) (TX B E xa) (TX B E xb) σ H Q := by
  obtain ⟨m, s, env, k, kx, ar, er, hx, hk, hkx⟩ := h
  exact two ar er hx hkx fun u v m1 s1 H1 m2 s2 H2 x y p1 p2 a1 a2 r1 r2 h => by
    obtain ⟨p, q, h1, h2, h3, h4, h5⟩ := eqK_ok a2 (p2.rd a1 r1) r2 h
    exact ⟨p, q, h1, h2, h3, h4, hk (.bl _) m2 s2 H2 _ (p1.trans p2) a2 rfl h5⟩
theorem rec_not (r : Bool) : (Bool.rec true false r : Bool) = !r := by cases r <;> rfl
theorem op_eqX (C : Cok B c E X) : OpR X (compareOp .Eq) (fun x y H Q => ∃ d e, Dp B.K H x d ∧ Dp B.K H y e ∧ SeqAt.shaped d = true ∧ SeqAt.shaped e = true ∧ Q (.bl (PyData.eqv d e)) H) := by
  have h := op_eqD (X := X) C.room.units
  rw [show rEqD X.K = rEqD B.K by rw [C.K]] at h
  exact h
theorem op_neX (C : Cok B c E X) : OpR X (compareOp .NotEq) (fun x y H Q => ∃ d e, Dp B.K H x d ∧ Dp B.K H y e ∧ SeqAt.shaped d = true ∧ SeqAt.shaped e = true ∧ Q (.bl (Bool.rec true false (PyData.eqv d e))) H) := by
  have h := op_neD (X := X) C.room.units
  rw [show rNeD X.K = rNeD B.K by rw [C.K]] at h
  exact fun pins s σ H x y v u Q I rx ry ⟨d, e, h1, h2, h3, h4, q⟩ => h pins s σ H x y v u Q I rx ry ⟨d, e, h1, h2, h3, h4, by rw [← rec_not]; exact q⟩
theorem x_eq (C : Cok B c E X) (ha : PE X ea (TX B E xa)) (hb : PE X eb (TX B E xb)) : PE X (.Compare ea [.Eq] [eb] pos) (TX B E (xEq false xa xb)) :=
  wkE (pe_cmpR (op_eqX C) ha hb (nomark _ (by decide) (by decide))) fun _ _ _ h => eq_two h
theorem t_eq (C : Cok B c E X) (ha : PE X ea (TX B E xa)) (hb : PE X eb (TX B E xb)) : PT X (.Compare ea [.Eq] [eb] pos) (TB B E (xEq false xa xb)) :=
  wkT (pt_cmpR (op_eqX C) ha hb (nomark _ (by decide) (by decide))) fun _ _ _ h => eq_two h
theorem x_ne (C : Cok B c E X) (ha : PE X ea (TX B E xa)) (hb : PE X eb (TX B E xb)) : PE X (.Compare ea [.NotEq] [eb] pos) (TX B E (xEq true xa xb)) :=
  wkE (pe_cmpR (op_neX C) ha hb (nomark _ (by decide) (by decide))) fun _ _ _ h => eq_two h
theorem t_ne (C : Cok B c E X) (ha : PE X ea (TX B E xa)) (hb : PE X eb (TX B E xb)) : PT X (.Compare ea [.NotEq] [eb] pos) (TB B E (xEq true xa xb)) :=
  wkT (pt_cmpR (op_neX C) ha hb (nomark _ (by decide) (by decide))) fun _ _ _ h => eq_two h
end
end Ev
end
end

/-! part EvK -/
section
set_option Elab.async false
set_option linter.all false
set_option maxRecDepth 100000
set_option maxHeartbeats 4000000
/-! EvK: is, in, + and * of any kind, subscripts, slices. -/
noncomputable section
namespace Ev
open PySem PySem.Spec PyProof.Rows L2

/-! ### is -/
def isNon (d : D) : Option Bool := match d with
  | .unb | .sym _ => none
  | .non => some true
  | _ => some false
def isBl (d : D) (b : Bool) : Option Bool := match d with
  | .unb | .sym _ => none
  | .bl a => some (Bool.rec (Bool.rec true false b) b a)
  | _ => some false
def isK (d : D) (o : Option Bool) (k : Bool → Bool) : Bool := match o with
  | some b => (match isBl d b with | some r => k r | none => false)
  | none => (match isNon d with | some r => k r | none => false)
def negB (n r : Bool) : Bool := Bool.rec (motive := fun _ => Bool) r (Bool.rec (motive := fun _ => Bool) true false r) n
theorem negB_eq (n r : Bool) : negB n r = if n = true then !r else r := by cases n <;> cases r <;> rfl
/-- a is o (None, True, False); n: not -/
def xIs (n : Bool) (o : Option Bool) (a : XE) : XE := fun e s k x => a e s (fun u s1 => isK u o fun r => k (.bl (negB n r)) s1) x
def oV : Option Bool → V
  | some b => .bl b
  | none => .non
def PlV (x : V) : Prop := ∀ v b, RelV x v → plainIs v (.bool b) = true
section
variable {X : Cx}
theorem op_isO (o : Option Bool) : OpR X (compareOp .Is) (fun x y H Q => y = oV o ∧ PlV x ∧ Q (.bl (decide (x = oV o))) H) := by
  cases o with
  | none => exact fun pins s σ H x y v u Q I rx ry ⟨h, _, q⟩ => op_isN pins s σ H x y v u Q I rx ry ⟨h, q⟩
  | some b =>
    intro pins s σ H x y v u Q I rx ry h
    obtain ⟨rfl, pl, q⟩ := h
    cases (show u = Value.bool b from ry)
    by_cases e : x = .bl b
    · subst e
      cases (show v = Value.bool b from rx)
      exact wpAny_is_self rfl ⟨.bl true, H, I, rfl, by simpa [oV] using q⟩
    · have ne : v ≠ .bool b := fun z => by
        subst z
        cases x with
        | bl a => exact e (by cases (show Value.bool b = Value.bool a from rx); rfl)
        | _ => first | (obtain ⟨_, z⟩ := rx; cases z) | cases rx
      have d : decide (x = V.bl b) = false := by simp [e]
      exact wpAny_is_other (pl v b rx) ne ⟨.bl false, H, I, rfl, by rw [← d]; exact q⟩
theorem op_isNotO (o : Option Bool) : OpR X (compareOp .IsNot) (fun x y H Q => y = oV o ∧ PlV x ∧ Q (.bl (!decide (x = oV o))) H) := by
  cases o with
  | none => exact fun pins s σ H x y v u Q I rx ry ⟨h, _, q⟩ => op_notN pins s σ H x y v u Q I rx ry ⟨h, q⟩
  | some b =>
    intro pins s σ H x y v u Q I rx ry h
    obtain ⟨rfl, pl, q⟩ := h
    cases (show u = Value.bool b from ry)
    by_cases e : x = .bl b
    · subst e
      cases (show v = Value.bool b from rx)
      exact wpAny_isNot_self rfl ⟨.bl false, H, I, rfl, by simpa [oV] using q⟩
    · have ne : v ≠ .bool b := fun z => by
        subst z
        cases x with
        | bl a => exact e (by cases (show Value.bool b = Value.bool a from rx); rfl)
        | _ => first | (obtain ⟨_, z⟩ := rx; cases z) | cases rx
      have d : decide (x = V.bl b) = false := by simp [e]
      exact wpAny_isNot_other (pl v b rx) ne ⟨.bl true, H, I, rfl, by have q' : Q (.bl (!decide (x = V.bl b))) H := q; rw [d] at q'; exact q'⟩
end
theorem isK_ok {B : Bs} {m : Md} {s : S} {H : Hp} {d : D} {x : V} {o : Option Bool} {k : Bool → Bool} (r : RDw B m s H d x) (h : isK d o k = true) : PlV x ∧ k (decide (x = oV o)) = true := by
  refine ⟨?_, ?_⟩
  · intro v b rv
    cases d with
    | unb => cases r
    | sym n => cases o <;> exact absurd h Bool.false_ne_true
    | non => cases r; cases rv; rfl
    | bl b => cases r; cases rv; rfl
    | int b => cases r; obtain ⟨t, rfl⟩ := rv; rfl
    | str b => cases r; obtain ⟨t, rfl⟩ := rv; rfl
    | ty b => cases r; cases rv; rfl
    | tup l => obtain ⟨a, xs, e, _⟩ := r; subst e; cases rv; rfl
    | fl l => obtain ⟨a, xs, e, _⟩ := r; subst e; cases rv; rfl
    | fd l _ => obtain ⟨a, e, _⟩ := r; subst e; cases rv; rfl
    | ref n => obtain ⟨_, e⟩ := r; subst e; cases rv; rfl
    | glob n => obtain ⟨_, _, e, _⟩ := r; subst e; cases rv; rfl
    | rep n => obtain ⟨_, _, _, e⟩ := r; subst e; obtain ⟨t, rfl⟩ := rv; rfl
    | tm l => obtain ⟨a, xs, o, e, _⟩ := r; subst e; cases rv; rfl
    | xo c l => obtain ⟨a, C, xs, e, _⟩ := r; subst e; cases rv; rfl
  cases o with
  | none =>
    simp only [isK] at h
    simp only [oV]
    cases d with
    | unb => exact absurd h Bool.false_ne_true
    | sym n => exact absurd h Bool.false_ne_true
    | non => cases r; exact h
    | bl b => cases r; exact h
    | int b => cases r; exact h
    | str b => cases r; exact h
    | ty b => cases r; exact h
    | tup l => obtain ⟨a, xs, e, _⟩ := r; subst e; exact h
    | fl l => obtain ⟨a, xs, e, _⟩ := r; subst e; exact h
    | fd l _ => obtain ⟨a, e, _⟩ := r; subst e; exact h
    | ref n => obtain ⟨_, e⟩ := r; subst e; exact h
    | glob n => obtain ⟨_, _, e, _⟩ := r; subst e; exact h
    | rep n => obtain ⟨_, _, _, e⟩ := r; subst e; exact h
    | tm l => obtain ⟨a, xs, o, e, _⟩ := r; subst e; exact h
    | xo c l => obtain ⟨a, C, xs, e, _⟩ := r; subst e; exact h
  | some b =>
    simp only [isK] at h
    simp only [oV]
    cases d with
    | unb => exact absurd h Bool.false_ne_true
    | sym n => exact absurd h Bool.false_ne_true
    | non => cases r; exact h
    | bl a => cases r; cases a <;> cases b <;> exact h
    | int b => cases r; exact h
    | str b => cases r; exact h
    | ty b => cases r; exact h
    | tup l => obtain ⟨a, xs, e, _⟩ := r; subst e; exact h
    | fl l => obtain ⟨a, xs, e, _⟩ := r; subst e; exact h
    | fd l _ => obtain ⟨a, e, _⟩ := r; subst e; exact h
    | ref n => obtain ⟨_, e⟩ := r; subst e; exact h
    | glob n => obtain ⟨_, _, e, _⟩ := r; subst e; exact h
    | rep n => obtain ⟨_, _, _, e⟩ := r; subst e; exact h
    | tm l => obtain ⟨a, xs, o, e, _⟩ := r; subst e; exact h
    | xo c l => obtain ⟨a, C, xs, e, _⟩ := r; subst e; exact h
section
variable {B : Bs} {c : SI} {E : XK} {X : Cx} {ea eb : Expr} {pos : Pos} {xa xb : XE}
theorem pe_oV {o : Option Bool} {k p} : PE X (.Constant (match o with | some b => .bool b | none => .none) k p) (tC (oV o)) := by
  cases o with
  | none => exact pe_non
  | some b => exact pe_bl
theorem is_two {o : Option Bool} {n : Bool} {σ : L2.St} {H : Hp} {Q : VK} (h : TX B E (xIs n o xa) σ H Q) : tOp (fun x y H Q => y = oV o ∧ PlV x ∧ Q (.bl (if n = true then !decide (x = oV o) else decide (x = oV o))) H) (TX B E xa) (tC (oV o)) σ H Q := by
  obtain ⟨m, s, env, k, kx, ar, er, hx, hk, hkx⟩ := h
  refine ⟨m, s, env, _, kx, ar, er, hx, fun u m1 s1 H1 x p1 a1 r1 h => ?_, hkx⟩
  obtain ⟨pl, h2⟩ := isK_ok r1 h
  rw [negB_eq] at h2
  exact ⟨rfl, pl, hk (.bl _) m1 s1 H1 _ p1 a1 rfl h2⟩
theorem x_is {o : Option Bool} {k p} (ha : PE X ea (TX B E xa)) : PE X (.Compare ea [.Is] [.Constant (match o with | some b => .bool b | none => .none) k p] pos) (TX B E (xIs false o xa)) :=
  wkE (pe_cmpR (op_isO o) ha pe_oV (nomark _ (by decide) (by decide))) fun _ _ _ h => is_two h
theorem t_is {o : Option Bool} {k p} (ha : PE X ea (TX B E xa)) : PT X (.Compare ea [.Is] [.Constant (match o with | some b => .bool b | none => .none) k p] pos) (TB B E (xIs false o xa)) :=
  wkT (pt_cmpR (op_isO o) ha pe_oV (nomark _ (by decide) (by decide))) fun _ _ _ h => is_two h
theorem x_isnot {o : Option Bool} {k p} (ha : PE X ea (TX B E xa)) : PE X (.Compare ea [.IsNot] [.Constant (match o with | some b => .bool b | none => .none) k p] pos) (TX B E (xIs true o xa)) :=
  wkE (pe_cmpR (op_isNotO o) ha pe_oV (nomark _ (by decide) (by decide))) fun _ _ _ h => is_two h
theorem t_isnot {o : Option Bool} {k p} (ha : PE X ea (TX B E xa)) : PT X (.Compare ea [.IsNot] [.Constant (match o with | some b => .bool b | none => .none) k p] pos) (TB B E (xIs true o xa)) :=
  wkT (pt_cmpR (op_isNotO o) ha pe_oV (nomark _ (by decide) (by decide))) fun _ _ _ h => is_two h
end

/-! ### in -/
def anyO (f : D → D → Option Bool) (a : D) : List D → Option Bool
  | [] => some false
  | z :: r => match f z a with
    | some true => some true
    | some false => anyO f a r
    | none => none
theorem anyO_ok {f : D → D → Option Bool} {g : D → Option PyData} (h : ∀ a b r p q, f a b = some r → g a = some p → g b = some q → PyData.eqv p q = r) {a : D} {p : PyData} (ha : g a = some p) : ∀ (l : List D) (r : Bool) (ps : List PyData), anyO f a l = some r → mapO g l = some ps → (ps.any fun z => PyData.eqv z p) = r
  | [], r, ps, h1, h2 => by
    cases h1
    cases h2
    rfl
  | z :: l, r, ps, h1, h2 => by
    simp only [mapO] at h2
    split at h2
    · rename_i q qt e1 e2
      cases h2
      simp only [anyO] at h1
      rw [List.any_cons]
      split at h1
      · rename_i e
        cases h1
        rw [h _ _ _ _ _ e e1 ha, Bool.true_or]
      · rename_i e
        rw [h _ _ _ _ _ e e1 ha, Bool.false_or]
        exact anyO_ok h ha l r qt h1 e2
      · cases h1
    · cases h2
def opK (o : Option Bool) (k : Bool → Bool) : Bool := Option.rec (motive := fun _ => Bool) false k o
theorem opK_ok {o : Option Bool} {k : Bool → Bool} (h : opK o k = true) : ∃ b, o = some b ∧ k b = true := by
  cases o with
  | none => exact absurd (show false = true from h) Bool.false_ne_true
  | some b => exact ⟨b, rfl, h⟩
def inK (s : S) (a b : D) (k : Bool → Bool) : Bool := grd (dpF s 29 a) (grd (dpF s 30 b) (match vw s b with
  | .tp l => opK (anyO (eqF s 29) a l) k
  | .ls l => opK (anyO (eqF s 29) a l) k
  | _ => false))
def xIn (n : Bool) (a b : XE) : XE := fun e s k x => a e s (fun u s1 => b e s1 (fun v s2 => inK s2 u v fun r => k (.bl (negB n r)) s2) x) x
/-- x in a list or a tuple of data -/
def rInA (K : PySem.W.Frag) (n : Bool) : R2 := fun x y H Q => ∃ d ds, Dp K H x d ∧ (Dp K H y (.list ds) ∨ Dp K H y (.tuple ds)) ∧ SeqAt.shaped d = true ∧ SeqAt.shaped (.list ds) = true ∧ Q (.bl (if n = true then !ds.any fun z => PyData.eqv z d else ds.any fun z => PyData.eqv z d)) H
section
variable {X : Cx}
theorem op_inA (hu : X.A.units + 65 < cLine) : OpR X (compareOp .In) (rInA X.K false) := by
  intro pins s σ H x y v u Q I rx ry h
  obtain ⟨d, ds, hd, he, sd, se, q⟩ := h
  obtain ⟨as, r1⟩ := Dp.reads I d x v hd rx
  rcases he with he | he
  · obtain ⟨bs, r2⟩ := Dp.reads I (.list ds) y u he ry
    exact SeqAt.in_list_reads r2 r1 (SeqAt.canLay_of_shaped se) (SeqAt.canLay_of_shaped sd) (room_in_shaped sd hu) ⟨.bl _, H, I, rfl, q⟩
  · obtain ⟨bs, r2⟩ := Dp.reads I (.tuple ds) y u he ry
    exact SeqAt.in_tuple_reads r2 r1 (SeqAt.canLay_of_shaped se) (SeqAt.canLay_of_shaped sd) (room_in_shaped sd hu) ⟨.bl _, H, I, rfl, q⟩
theorem op_notInA (hu : X.A.units + 65 < cLine) : OpR X (compareOp .NotIn) (rInA X.K true) := by
  intro pins s σ H x y v u Q I rx ry h
  obtain ⟨d, ds, hd, he, sd, se, q⟩ := h
  obtain ⟨as, r1⟩ := Dp.reads I d x v hd rx
  rcases he with he | he
  · obtain ⟨bs, r2⟩ := Dp.reads I (.list ds) y u he ry
    exact SeqAt.notIn_list_reads r2 r1 (SeqAt.canLay_of_shaped se) (SeqAt.canLay_of_shaped sd) (room_in_shaped sd hu) ⟨.bl _, H, I, rfl, q⟩
  · obtain ⟨bs, r2⟩ := Dp.reads I (.tuple ds) y u he ry
    exact SeqAt.notIn_tuple_reads r2 r1 (SeqAt.canLay_of_shaped se) (SeqAt.canLay_of_shaped sd) (room_in_shaped sd hu) ⟨.bl _, H, I, rfl, q⟩
end
theorem inK_ok {B : Bs} {m : Md} {s : S} {H : Hp} {a b : D} {x y : V} {k : Bool → Bool} (ar : AR B m s H) (ra : RDw B m s H a x) (rb : RDw B m s H b y) (h : inK s a b k = true) :
    ∃ d ds, Dp B.K H x d ∧ (Dp B.K H y (.list ds) ∨ Dp B.K H y (.tuple ds)) ∧ SeqAt.shaped d = true ∧ SeqAt.shaped (.list ds) = true ∧ k (ds.any fun z => PyData.eqv z d) = true := by
  obtain ⟨h1, h2⟩ := grd_ok h
  obtain ⟨h3, h4⟩ := grd_ok h2
  obtain ⟨p, p1, p2, p3, p4⟩ := dp_ok ar 29 a x h1 ra
  obtain ⟨q, q1, q2, q3, q4⟩ := dp_ok ar 30 b y h3 rb
  have sp : SeqAt.shaped p = true := by
    unfold SeqAt.shaped
    rw [p2, Bool.true_and, decide_eq_true_eq]
    omega
  have q4' : (match vw s b with
    | .no => none
    | .non => some .none
    | .bl b => some (.bool b)
    | .int i => some (.int i)
    | .str x => some (.str x)
    | .rep n => (toPy (m.ν n)).map fun p => .str p.shown
    | .cat w n => (toPy (m.ν n)).map fun p => .str (w ++ p.shown)
    | .tp l => (mapO (pyF m.ν s 29) l).map .tuple
    | .ls l => (mapO (pyF m.ν s 29) l).map .list) = some q := q4
  cases e : vw s b with
  | tp l =>
    rw [e] at h4 q4'
    obtain ⟨r, hr, hk⟩ := opK_ok h4
    obtain ⟨ds, hds, rfl⟩ := Option.map_eq_some_iff.mp q4'
    have e2 := anyO_ok (eqF_ok 29) p4 l r ds hr hds
    simp only [PyData.canLay0, PyData.depth] at q2 q3
    exact ⟨p, ds, p1, .inr q1, sp, by
      unfold SeqAt.shaped
      simp only [PyData.canLay0, PyData.depth]
      rw [q2, Bool.true_and]
      exact decide_eq_true (by omega), by rw [e2]; exact hk⟩
  | ls l =>
    rw [e] at h4 q4'
    obtain ⟨r, hr, hk⟩ := opK_ok h4
    obtain ⟨ds, hds, rfl⟩ := Option.map_eq_some_iff.mp q4'
    have e2 := anyO_ok (eqF_ok 29) p4 l r ds hr hds
    simp only [PyData.canLay0, PyData.depth] at q2 q3
    exact ⟨p, ds, p1, .inl q1, sp, by
      unfold SeqAt.shaped
      simp only [PyData.canLay0, PyData.depth]
      rw [q2, Bool.true_and]
      exact decide_eq_true (by omega), by rw [e2]; exact hk⟩
  | _ => rw [e] at h4; exact absurd h4 Bool.false_ne_true
section
variable {B : Bs} {c : SI} {E : XK} {X : Cx} {ea eb : Expr} {pos : Pos} {xa xb : XE}
theorem in_two {n : Bool} {σ : L2.St} {H : Hp} {Q : VK} (h : TX B E (xIn n xa xb) σ H Q) : tOp (rInA B.K n) (TX B E xa) (TX B E xb) σ H Q := by
  obtain ⟨m, s, env, k, kx, ar, er, hx, hk, hkx⟩ := h
  exact two ar er hx hkx fun u v m1 s1 H1 m2 s2 H2 x y p1 p2 a1 a2 r1 r2 h => by
    obtain ⟨p, q, h1, h2, h3, h4, h5⟩ := inK_ok a2 (p2.rd a1 r1) r2 h
    rw [negB_eq] at h5
    exact ⟨p, q, h1, h2, h3, h4, hk (.bl _) m2 s2 H2 _ (p1.trans p2) a2 rfl h5⟩
theorem u65 (C : Cok B c E X) : X.A.units + 65 < cLine := by have := C.room.un; omega
theorem x_in (C : Cok B c E X) (ha : PE X ea (TX B E xa)) (hb : PE X eb (TX B E xb)) (hm : behindInMarks .In eb = false) : PE X (.Compare ea [.In] [eb] pos) (TX B E (xIn false xa xb)) :=
  wkE (pe_cmpR (op_inA (u65 C)) ha hb hm) fun _ _ _ h => by rw [C.K]; exact in_two h
theorem t_in (C : Cok B c E X) (ha : PE X ea (TX B E xa)) (hb : PE X eb (TX B E xb)) (hm : behindInMarks .In eb = false) : PT X (.Compare ea [.In] [eb] pos) (TB B E (xIn false xa xb)) :=
  wkT (pt_cmpR (op_inA (u65 C)) ha hb hm) fun _ _ _ h => by rw [C.K]; exact in_two h
theorem x_notin (C : Cok B c E X) (ha : PE X ea (TX B E xa)) (hb : PE X eb (TX B E xb)) (hm : behindInMarks .NotIn eb = false) : PE X (.Compare ea [.NotIn] [eb] pos) (TX B E (xIn true xa xb)) :=
  wkE (pe_cmpR (op_notInA (u65 C)) ha hb hm) fun _ _ _ h => by rw [C.K]; exact in_two h
theorem t_notin (C : Cok B c E X) (ha : PE X ea (TX B E xa)) (hb : PE X eb (TX B E xb)) (hm : behindInMarks .NotIn eb = false) : PT X (.Compare ea [.NotIn] [eb] pos) (TB B E (xIn true xa xb)) :=
  wkT (pt_cmpR (op_notInA (u65 C)) ha hb hm) fun _ _ _ h => by rw [C.K]; exact in_two h
end
end Ev
end
end

/-! part EvL -/
section
set_option Elab.async false
set_option linter.all false
set_option maxRecDepth 100000
set_option maxHeartbeats 4000000
/-! EvL: + and * of any kind, subscripts, slices. -/
noncomputable section
namespace Ev
open PySem PySem.Spec PyProof.Rows L2

/-! ### new tuples, new lists as results -/
section
variable {B : Bs} {m : Md} {s : S} {H : Hp} {k : KD} {Q : VK}
theorem fin_tup {l : List D} {xs : List V} (hk : KDok B m s H k Q) (ar : AR B m s H) (r : RDws B m s H l xs) (h : k (.tup l) s = true) : ∀ p, H p = none → Q (.ref p) (upd H p (.tup xs)) := fun p hp => by
  have P := post_new (m := m) (s := s) (o := .tup xs) hp
  exact hk (.tup l) m s _ _ P (ar_new ar hp) ⟨p, xs, rfl, .inl (.inl upd_same), P.rds ar r⟩ h
theorem fin_lst {l : List D} {xs : List V} (hk : KDok B m s H k Q) (ar : AR B m s H) (r : RDws B m s H l xs) (h : newO s (.lst l) k = true) : ∀ p, H p = none → Q (.ref p) (upd H p (.lst xs)) := fun p hp => by
  obtain ⟨nl, no, os⟩ := s
  rw [newO_eq] at h
  obtain ⟨P, a2, r2⟩ := made (o := .lst l) (u := .lst xs) ar hp fun m' s' H' P e => ⟨xs, e, P.rds ar r⟩
  exact hk (.ref no) _ _ _ _ P a2 r2 h
theorem rds_app {nl no : Nat} {W : Addr → Prop} : ∀ {l : List D} {xs : List V} {l2 : List D} {ys : List V}, RDs B m nl no W H l xs → RDs B m nl no W H l2 ys → RDs B m nl no W H (l ++ l2) (xs ++ ys)
  | [], xs, l2, ys, r, r2 => by
    have e : xs = [] := r
    subst e
    exact r2
  | d :: l, xs, l2, ys, ⟨x, t, e, h, h2⟩, r2 => by
    subst e
    exact ⟨x, t ++ ys, rfl, h, rds_app h2 r2⟩
theorem rds_drop {nl no : Nat} {W : Addr → Prop} : ∀ (n : Nat) {l : List D} {xs : List V}, RDs B m nl no W H l xs → RDs B m nl no W H (l.drop n) (xs.drop n)
  | 0, l, xs, r => r
  | n + 1, [], xs, r => by
    have e : xs = [] := r
    subst e
    exact rfl
  | n + 1, d :: l, xs, ⟨x, t, e, h, h2⟩ => by
    subst e
    exact rds_drop n h2
theorem rds_take {nl no : Nat} {W : Addr → Prop} : ∀ (n : Nat) {l : List D} {xs : List V}, RDs B m nl no W H l xs → RDs B m nl no W H (l.take n) (xs.take n)
  | 0, l, xs, r => rfl
  | n + 1, [], xs, r => by
    have e : xs = [] := r
    subst e
    exact rfl
  | n + 1, d :: l, xs, ⟨x, t, e, h, h2⟩ => by
    subst e
    exact ⟨x, t.take n, rfl, h, rds_take n h2⟩
end
theorem opR_or {X : Cx} {f : Value → Value → Sem Value} {r r' : R2} (h : OpR X f r) (h' : OpR X f r') : OpR X f (fun x y H Q => r x y H Q ∨ r' x y H Q) := fun pins s σ H x y v u Q I rx ry q =>
  q.elim (h pins s σ H x y v u Q I rx ry) (h' pins s σ H x y v u Q I rx ry)
/-- a list's items (not a tuple's) -/
def lsI (d : D) (s : S) (k : List D → Bool) : Bool :=
  D.rec (motive_1 := fun _ => Bool) (motive_2 := fun _ => Unit) false false (fun _ => false) (fun _ => false) (fun _ => false) (fun _ => false) (fun _ _ => false) (fun l _ => k l) (fun _ _ _ => false) (fun n => oLst (osGet (sOs s) n) k) (fun _ => false) (fun _ => false) (fun _ _ => false) (fun _ _ => false) (fun _ _ _ => false) () (fun _ _ _ _ => ()) d
def asS (d : D) (k : Str → Bool) : Bool :=
  D.rec (motive_1 := fun _ => Bool) (motive_2 := fun _ => Unit) false false (fun _ => false) (fun _ => false) k (fun _ => false) (fun _ _ => false) (fun _ _ => false) (fun _ _ _ => false) (fun _ => false) (fun _ => false) (fun _ => false) (fun _ _ => false) (fun _ _ => false) (fun _ _ _ => false) () (fun _ _ _ _ => ()) d
theorem asS_ok {d : D} {k : Str → Bool} (h : asS d k = true) : ∃ i, d = .str i ∧ k i = true := by
  cases d <;> first | exact ⟨_, rfl, h⟩ | exact absurd h Bool.false_ne_true
theorem lsI_ok {B : Bs} {m : Md} {s : S} {H : Hp} {d : D} {v : V} {k : List D → Bool} (ar : AR B m s H) (r : RDw B m s H d v) (h : lsI d s k = true) : ∃ a xs l, v = .ref a ∧ H a = some (.lst xs) ∧ RDws B m s H l xs ∧ k l = true := by
  cases d with
  | fl l =>
    obtain ⟨a, xs, e, q, _, t⟩ := r
    exact ⟨a, xs, l, e, q, t, h⟩
  | ref n =>
    obtain ⟨_, e⟩ := r
    obtain ⟨l, hl, hk⟩ := oLst_ok (show oLst (osGet (sOs s) n) k = true from h)
    rw [sOs_eq] at hl
    rcases hl with hl | hl
    · obtain ⟨xs, hx, rx⟩ := ar.obj n _ hl
      exact ⟨_, xs, l, e, hx, rx, hk⟩
    · obtain ⟨xs, hx, rx⟩ := ar.obj n _ hl
      exact ⟨_, xs, l, e, hx, rx, hk⟩
  | _ => exact absurd (show false = true from h) Bool.false_ne_true
/-! ### + -/
def addD (u v : D) (s : S) (k : KD) : Bool :=
  D.rec (motive_1 := fun _ => Bool) (motive_2 := fun _ => Unit) false false (fun _ => false) (fun i => asI v fun j => frI (i + j) fun r => k (.int r) s) (fun x => asS v fun y => grd (Nat.ble (Nat.add x.length y.length) 1000000) (k (.str (x ++ y)) s)) (fun _ => false)
    (fun l _ => asT v fun l2 => grd (shortB (l ++ l2)) (k (.tup (l ++ l2)) s)) (fun _ _ => lsI u s fun l => lsI v s fun l2 => grd (shortB (l ++ l2)) (newO s (.lst (l ++ l2)) k)) (fun _ _ _ => false) (fun _ => lsI u s fun l => lsI v s fun l2 => grd (shortB (l ++ l2)) (newO s (.lst (l ++ l2)) k))
    (fun _ => false) (fun _ => false) (fun _ _ => false) (fun _ _ => false) (fun _ _ _ => false) () (fun _ _ _ _ => ()) u
def xAdd (a b : XE) : XE := fun e s k x => a e s (fun u s1 => b e s1 (fun v s2 => addD u v s2 k) x) x
def rAddA (K : PySem.W.Frag) : R2 := fun x y H Q => rI0 (fun i j => .int (i + j)) x y H Q ∨ (∃ i j, x = .str i ∧ y = .str j ∧ i.length + j.length ≤ sizeLine ∧ Q (.str (i ++ j)) H) ∨ rCatA K x y H Q ∨ rCat x y H Q
theorem op_addA {X : Cx} : OpR X (binaryOp .Add) (rAddA X.K) := opR_or op_add (opR_or op_add_str (opR_or op_catA op_cat))
section
variable {B : Bs} {m : Md} {s : S} {H : Hp} {k : KD} {Q : VK}
theorem addL {u v : D} {x y : V} (ar : AR B m s H) (ru : RDw B m s H u x) (rv : RDw B m s H v y) (hk : KDok B m s H k Q) (h : lsI u s (fun l => lsI v s fun l2 => grd (shortB (l ++ l2)) (newO s (.lst (l ++ l2)) k)) = true) : rCat x y H Q := by
  obtain ⟨a, xs, l, e1, h1, r1, h⟩ := lsI_ok ar ru h
  obtain ⟨b, ys, l2, e2, h2, r2, h⟩ := lsI_ok ar rv h
  obtain ⟨hs, h⟩ := grd_ok h
  have hs := shortB_ok hs
  rw [List.length_append, rds_len r1, rds_len r2] at hs
  exact ⟨a, b, xs, ys, e1, e2, h1, h2, size_ok hs, fin_lst hk ar (rds_app r1 r2) h⟩
theorem addD_ok {u v : D} {x y : V} (ar : AR B m s H) (ru : RDw B m s H u x) (rv : RDw B m s H v y) (hk : KDok B m s H k Q) (h : addD u v s k = true) : rAddA B.K x y H Q := by
  cases u with
  | int i =>
    obtain ⟨j, e, h2⟩ := asI_ok (show asI v _ = true from h)
    subst e
    cases ru; cases rv
    rw [frI_eq] at h2
    exact .inl ⟨i, j, rfl, rfl, hk (.int _) m s H _ .refl ar rfl h2⟩
  | str i =>
    obtain ⟨j, e, h2⟩ := asS_ok (show asS v _ = true from h)
    obtain ⟨h3, h4⟩ := grd_ok h2
    subst e
    cases ru; cases rv
    exact .inr (.inl ⟨i, j, rfl, rfl, size_ok (Nat.le_of_ble_eq_true h3), hk (.str _) m s H _ .refl ar rfl h4⟩)
  | tup l =>
    obtain ⟨l2, e, h2⟩ := asT_ok (show asT v _ = true from h)
    obtain ⟨hs, h4⟩ := grd_ok h2
    have hs := shortB_ok hs
    subst e
    have ru' := ru
    have rv' := rv
    obtain ⟨a, xs, e1, q1, r1⟩ := ru
    obtain ⟨b, ys, e2, q2, r2⟩ := rv
    subst e1 e2
    rw [List.length_append, rds_len r1, rds_len r2] at hs
    refine .inr (.inr (.inl ⟨a, b, xs, ys, rfl, rfl, q1, q2, size_ok hs, fun e => ?_, fun e1 e2 => ?_, fun _ _ => fin_tup hk ar (rds_app r1 r2) h4⟩))
    · have el : l = [] := by
        have := rds_len r1
        rw [e] at this
        exact List.eq_nil_of_length_eq_zero this
      rw [el, List.nil_append] at h4
      exact hk (.tup l2) m s H _ .refl ar rv' h4
    · have el : l2 = [] := by
        have := rds_len r2
        rw [e2] at this
        exact List.eq_nil_of_length_eq_zero this
      rw [el, List.append_nil] at h4
      exact hk (.tup l) m s H _ .refl ar ru' h4
  | fl l => exact .inr (.inr (.inr (addL ar ru rv hk h)))
  | ref n => exact .inr (.inr (.inr (addL ar ru rv hk h)))
  | _ => exact absurd (show false = true from h) Bool.false_ne_true
end
/-! ### * -/
def repD (l : List D) (n : Nat) : List D := Nat.rec (motive := fun _ => List D) [] (fun _ ih => l ++ ih) n
def mulL (u v : D) (s : S) (k : KD) : Bool := lsI u s fun l => asI v fun i => grd (smI i && shortB (repD l (tNat i))) (newO s (.lst (repD l (tNat i))) k)
def mulD (u v : D) (s : S) (k : KD) : Bool :=
  D.rec (motive_1 := fun _ => Bool) (motive_2 := fun _ => Unit) false false (fun _ => false) (fun i => asI v fun j => grd (opOk .mul i j) (frI (i * j) fun r => k (.int r) s)) (fun _ => false) (fun _ => false)
    (fun l _ => asI v fun i => grd (iLt 1 i && iLt i 1001 && Nat.blt 0 l.length && Nat.ble l.length 1000) (k (.tup (repD l (tNat i))) s)) (fun _ _ => mulL u v s k) (fun _ _ _ => false) (fun _ => mulL u v s k)
    (fun _ => false) (fun _ => false) (fun _ _ => false) (fun _ _ => false) (fun _ _ _ => false) () (fun _ _ _ _ => ()) u
def xMul (a b : XE) : XE := fun e s k x => a e s (fun u s1 => b e s1 (fun v s2 => mulD u v s2 k) x) x
def rMulA (K : PySem.W.Frag) : R2 := fun x y H Q => rI CMulW (fun i j => .int (i * j)) x y H Q ∨ rRep x y H Q ∨ rRepT K x y H Q
theorem op_mulA {X : Cx} : OpR X (binaryOp .Mult) (rMulA X.K) := opR_or op_mulW (opR_or op_rep op_repT)
section
variable {B : Bs} {m : Md} {s : S} {H : Hp} {k : KD} {Q : VK}
theorem rds_rep {nl no : Nat} {W : Addr → Prop} {l : List D} {xs : List V} (r : RDs B m nl no W H l xs) : ∀ n, RDs B m nl no W H (repD l n) (List.replicate n xs).flatten
  | 0 => rfl
  | n + 1 => by
    rw [List.replicate_succ, List.flatten_cons]
    exact rds_app r (rds_rep r n)
theorem repD_len (l : List D) : ∀ n, (repD l n).length = l.length * n
  | 0 => rfl
  | n + 1 => by
    show (l ++ repD l n).length = _
    rw [List.length_append, repD_len l n, Nat.mul_succ, Nat.add_comm]
theorem mulL_ok {u v : D} {x y : V} (ar : AR B m s H) (ru : RDw B m s H u x) (rv : RDw B m s H v y) (hk : KDok B m s H k Q) (h : mulL u v s k = true) : rRep x y H Q := by
  obtain ⟨a, xs, l, e1, h1, r1, h2⟩ := lsI_ok ar ru h
  obtain ⟨i, e2, h3⟩ := asI_ok h2
  obtain ⟨hs, h4⟩ := grd_ok h3
  rw [e2] at rv
  cases rv
  rw [Bool.and_eq_true] at hs
  obtain ⟨c1, c2⟩ := smI_ok hs.1
  have c3 := shortB_ok hs.2
  rw [tNat_eq] at h4 c3
  rw [repD_len, rds_len r1] at c3
  refine ⟨a, i, xs, e1, rfl, h1, by omega, by omega, size_ok c3, fin_lst hk ar (rds_rep r1 _) h4⟩
theorem mulD_ok {u v : D} {x y : V} (ar : AR B m s H) (ru : RDw B m s H u x) (rv : RDw B m s H v y) (hk : KDok B m s H k Q) (h : mulD u v s k = true) : rMulA B.K x y H Q := by
  cases u with
  | int i =>
    obtain ⟨j, e, h2⟩ := asI_ok (show asI v _ = true from h)
    obtain ⟨c, h2⟩ := grd_ok h2
    subst e
    cases ru; cases rv
    rw [frI_eq] at h2
    have c' : Nat.blt (Nat.add (Nat.log2 (nAbs i)) (Nat.log2 (nAbs j))) 1000000 = true := c
    rw [nAbs_eq, nAbs_eq, Nat.blt_eq] at c'
    exact .inl ⟨i, j, rfl, rfl, c', hk (.int _) m s H _ .refl ar rfl h2⟩
  | tup l =>
    obtain ⟨i, e, h2⟩ := asI_ok (show asI v _ = true from h)
    obtain ⟨c, h4⟩ := grd_ok h2
    subst e
    cases rv
    obtain ⟨a, xs, e1, q1, r1⟩ := ru
    subst e1
    rw [Bool.and_eq_true, Bool.and_eq_true, Bool.and_eq_true, iLt_eq, iLt_eq, decide_eq_true_eq, decide_eq_true_eq, Nat.blt_eq, rds_len r1] at c
    have c4 := Nat.le_of_ble_eq_true c.2
    rw [tNat_eq] at h4
    refine .inr (.inr ⟨a, i, xs, rfl, rfl, q1, fun z => ?_, by omega, by omega, c4, fin_tup hk ar (rds_rep r1 _) h4⟩)
    rw [z] at c
    exact absurd c.1.2 (Nat.lt_irrefl _)
  | fl l => exact .inr (.inl (mulL_ok ar ru rv hk h))
  | ref n => exact .inr (.inl (mulL_ok ar ru rv hk h))
  | _ => exact absurd (show false = true from h) Bool.false_ne_true
end
section
variable {B : Bs} {c : SI} {E : XK} {X : Cx} {ea eb : Expr} {pos : Pos} {xa xb : XE}
theorem x_addA (C : Cok B c E X) (ha : PE X ea (TX B E xa)) (hb : PE X eb (TX B E xb)) : PE X (.BinOp ea .Add eb pos) (TX B E (xAdd xa xb)) :=
  wkE (pe_op op_addA ha hb) fun σ H Q ⟨m, s, env, k, kx, ar, er, hx, hk, hkx⟩ => two ar er hx hkx fun u v m1 s1 H1 m2 s2 H2 x y p1 p2 a1 a2 r1 r2 h => by
    rw [C.K]
    exact addD_ok a2 (p2.rd a1 r1) r2 (hk.post (p1.trans p2)) h
theorem x_mulA (C : Cok B c E X) (ha : PE X ea (TX B E xa)) (hb : PE X eb (TX B E xb)) : PE X (.BinOp ea .Mult eb pos) (TX B E (xMul xa xb)) :=
  wkE (pe_op op_mulA ha hb) fun σ H Q ⟨m, s, env, k, kx, ar, er, hx, hk, hkx⟩ => two ar er hx hkx fun u v m1 s1 H1 m2 s2 H2 x y p1 p2 a1 a2 r1 r2 h => by
    rw [C.K]
    exact mulD_ok a2 (p2.rd a1 r1) r2 (hk.post (p1.trans p2)) h
end

/-! ### subscripts -/
def nthK (l : List D) (n : Nat) (k : D → Bool) : Bool := List.rec (motive := fun _ => Nat → Bool) (fun _ => false) (fun x _ ih n => Nat.rec (motive := fun _ => Bool) (k x) (fun m _ => ih m) n) l n
theorem nthK_ok : ∀ {l : List D} {n : Nat} {k : D → Bool}, nthK l n k = true → ∃ d, l[n]? = some d ∧ k d = true
  | [], _, _, h => absurd (show false = true from h) Bool.false_ne_true
  | x :: l, 0, k, h => ⟨x, rfl, h⟩
  | x :: l, n + 1, k, h => by
    obtain ⟨d, h1, h2⟩ := nthK_ok (show nthK l n k = true from h)
    exact ⟨d, by simpa using h1, h2⟩
def lenD (l : List D) : Nat := List.rec (motive := fun _ => Nat) 0 (fun _ _ ih => Nat.succ ih) l
theorem lenD_eq : ∀ l : List D, lenD l = l.length
  | [] => rfl
  | _ :: l => congrArg Nat.succ (lenD_eq l)
/-- the item at i, any sign -/
def atK (l : List D) (i : Int) (k : D → Bool) : Bool := Int.rec (motive := fun _ => Bool) (fun n => nthK l n k) (fun n => frN (lenD l) fun z => grd (Nat.blt n z) (nthK l (Nat.sub (Nat.sub z n) 1) k)) i
theorem atK_ok {l : List D} {i : Int} {k : D → Bool} (h : atK l i k = true) : ∃ d, atI l i = some d ∧ k d = true := by
  cases i with
  | ofNat n =>
    obtain ⟨d, h1, h2⟩ := nthK_ok (show nthK l n k = true from h)
    have hl : n < l.length := (List.getElem?_eq_some_iff.mp h1).1
    refine ⟨d, ?_, h2⟩
    unfold atI ixN
    rw [if_pos (show (0 : Int) ≤ Int.ofNat n from Int.natCast_nonneg n), if_pos (show Int.ofNat n < (l.length : Int) from Int.ofNat_lt.mpr hl)]
    exact h1
  | negSucc n =>
    have h' : frN (lenD l) (fun z => grd (Nat.blt n z) (nthK l (Nat.sub (Nat.sub z n) 1) k)) = true := h
    rw [frN_eq, lenD_eq] at h'
    obtain ⟨c, h2⟩ := grd_ok h'
    rw [Nat.blt_eq] at c
    obtain ⟨d, h1, h3⟩ := nthK_ok h2
    refine ⟨d, ?_, h3⟩
    unfold atI ixN
    rw [if_neg (by show ¬ (0 ≤ Int.negSucc n); omega), if_pos (by omega)]
    have e : (Int.negSucc n + (l.length : Int)).toNat = l.length - n - 1 := by omega
    show l[(Int.negSucc n + (l.length : Int)).toNat]? = _
    rw [e]
    exact h1
theorem atI_rds {B : Bs} {m : Md} {nl no : Nat} {W : Addr → Prop} {H : Hp} {l : List D} {xs : List V} {i : Int} {d : D} (r : RDs B m nl no W H l xs) (h : atI l i = some d) : ∃ v, atI xs i = some v ∧ RD B m nl no W H d v := by
  unfold atI at h ⊢
  rw [← rds_len r]
  cases e : ixN l.length i with
  | none => rw [e] at h; cases h
  | some j =>
    rw [e] at h
    exact rds_get r h
def ixD (u v : D) (s : S) (k : KD) : Bool := asI v fun i => itm u s fun l => atK l i fun d => k d s
def xIx (a b : XE) : XE := fun e s k x => a e s (fun u s1 => b e s1 (fun v s2 => ixD u v s2 k) x) x
theorem ixD_ok {B : Bs} {m : Md} {s : S} {H : Hp} {k : KD} {Q : VK} {u v : D} {x y : V} (ar : AR B m s H) (ru : RDw B m s H u x) (rv : RDw B m s H v y) (hk : KDok B m s H k Q) (h : ixD u v s k = true) : rIxL B.K x y H Q ∨ rIxT B.K x y H Q := by
  obtain ⟨i, e, h2⟩ := asI_ok h
  obtain ⟨a, xs, l, e2, q, rl, h3⟩ := itm_ok ar ru h2
  obtain ⟨d, h4, h5⟩ := atK_ok h3
  obtain ⟨w, h6, h7⟩ := atI_rds rl h4
  rw [e] at rv
  cases rv
  have z : Q w H := hk d m s H w .refl ar h7 h5
  rcases q with q | q
  · exact .inr ⟨a, xs, i, w, e2, rfl, q, h6, z⟩
  · exact .inl ⟨a, xs, i, w, e2, rfl, q, h6, z⟩
section
variable {B : Bs} {c : SI} {E : XK} {X : Cx} {ea eb : Expr} {pos : Pos} {xa xb : XE}
theorem x_ix (C : Cok B c E X) (ha : PE X ea (TX B E xa)) (hb : PE X eb (TX B E xb)) (hs : PlainIx eb) : PE X (.Subscript ea eb pos) (TX B E (xIx xa xb)) :=
  wkE (pe_ix (ix_list.or ix_tup) ha hb hs) fun σ H Q ⟨m, s, env, k, kx, ar, er, hx, hk, hkx⟩ => two ar er hx hkx fun u v m1 s1 H1 m2 s2 H2 x y p1 p2 a1 a2 r1 r2 h => by
    rw [C.K]
    exact ixD_ok a2 (p2.rd a1 r1) r2 (hk.post (p1.trans p2)) h
end

/-! ### slices -/
def sI (n d : Nat) (o : Option Int) : Nat := Option.rec (motive := fun _ => Nat) d (fun i => Int.rec (motive := fun _ => Nat) (fun k => Bool.rec (motive := fun _ => Nat) n k (Nat.ble k n)) (fun k => Nat.sub n (Nat.succ k)) i) o
theorem sI_eq (n d : Nat) (o : Option Int) : sI n d o = HT.sIx n d o := by
  cases o with
  | none => rfl
  | some i =>
    cases i with
    | ofNat k =>
      show Bool.rec (motive := fun _ => Nat) n k (Nat.ble k n) = if (k : Int) < 0 then ((k : Int) + (n : Int)).toNat else min (k : Int).toNat n
      rw [if_neg (by omega)]
      by_cases h : k ≤ n
      · rw [Nat.ble_eq_true_of_le h, Int.toNat_natCast, Nat.min_eq_left h]
      · cases e : Nat.ble k n with
        | true => exact absurd (Nat.le_of_ble_eq_true e) h
        | false => rw [Int.toNat_natCast, Nat.min_eq_right (by omega)]
    | negSucc k =>
      show n - (k + 1) = if Int.negSucc k < 0 then (Int.negSucc k + (n : Int)).toNat else min (Int.negSucc k).toNat n
      rw [if_pos (by omega)]
      omega
def cutD (l : List D) (lo hi : Option Int) (k : List D → Bool) : Bool := frN (lenD l) fun n => frN (sI n 0 lo) fun a => frN (Nat.sub (sI n n hi) a) fun z => k ((l.drop a).take z)
theorem cutD_eq (l : List D) (lo hi : Option Int) (k : List D → Bool) : cutD l lo hi k = k ((l.drop (HT.sIx l.length 0 lo)).take (HT.sIx l.length l.length hi - HT.sIx l.length 0 lo)) := by
  unfold cutD
  rw [frN_eq, frN_eq, frN_eq, sI_eq, sI_eq, lenD_eq]
  rfl
abbrev KO := Option Int → S → Bool
abbrev XO := List D → S → KO → KX → Bool
def oNo : XO := fun _ s k _ => k none s
def oSm (a : XE) : XO := fun e s k x => a e s (fun d s1 => asI d fun i => k (some i) s1) x
def slD (u : D) (lo hi : Option Int) (s : S) (k : KD) : Bool :=
  D.rec (motive_1 := fun _ => Bool) (motive_2 := fun _ => Unit) false false (fun _ => false) (fun _ => false) (fun _ => false) (fun _ => false) (fun l _ => cutD l lo hi fun l2 => k (.tup l2) s) (fun _ _ => lsI u s fun l => cutD l lo hi fun l2 => newO s (.lst l2) k) (fun _ _ _ => false) (fun _ => lsI u s fun l => cutD l lo hi fun l2 => newO s (.lst l2) k)
    (fun _ => false) (fun _ => false) (fun _ _ => false) (fun _ _ => false) (fun _ _ _ => false) () (fun _ _ _ _ => ()) u
def xSl (a : XE) (lo hi : XO) : XE := fun e s k x => a e s (fun u s1 => lo e s1 (fun l s2 => hi e s2 (fun h s3 => slD u l h s3 k) x) x) x
def KOok (B : Bs) (m : Md) (s : S) (H : Hp) (k : KO) (Q : Option Int → Hp → Prop) : Prop := ∀ d m' s' H', Post m s H m' s' H' → AR B m' s' H' → k d s' = true → Q d H'
def TOr (B : Bs) (E : XK) (x : XO) : TO := fun σ H Q => ∃ m s env k kx, AR B m s H ∧ ER B m s H env σ ∧ x env s k kx = true ∧ KOok B m s H k Q ∧ KXok B m s H kx E
def rSlD (K : PySem.W.Frag) : V → Option Int → Option Int → Hp → VK → Prop := fun x lo hi H Q => rSlA K x lo hi H Q ∨ rSlL K x lo hi H Q
theorem slD_ok {B : Bs} {m : Md} {s : S} {H : Hp} {k : KD} {Q : VK} {u : D} {x : V} {lo hi : Option Int} (ar : AR B m s H) (ru : RDw B m s H u x) (hk : KDok B m s H k Q) (h : slD u lo hi s k = true) : rSlD B.K x lo hi H Q := by
  have lst : lsI u s (fun l => cutD l lo hi fun l2 => newO s (.lst l2) k) = true → rSlD B.K x lo hi H Q := fun h => by
    obtain ⟨a, xs, l, e1, h1, r1, h2⟩ := lsI_ok ar ru h
    rw [cutD_eq] at h2
    refine .inr ⟨a, xs, e1, sq_lst h1, fin_lst hk ar ?_ h2⟩
    unfold cutV
    rw [← rds_len r1]
    exact rds_take _ (rds_drop _ r1)
  cases u with
  | tup l =>
    have h' : cutD l lo hi (fun l2 => k (.tup l2) s) = true := h
    rw [cutD_eq] at h'
    have ru' := ru
    obtain ⟨a, xs, e1, q1, r1⟩ := ru
    have len := rds_len r1
    refine .inl ⟨a, xs, e1, q1, fun ⟨z1, z2⟩ => ?_, fun _ => ?_⟩
    · rw [len, z1, z2, List.drop_zero, Nat.sub_zero, ← len, List.take_length] at h'
      rw [← e1]
      exact hk (.tup l) m s H _ .refl ar ru' h'
    · refine fin_tup hk ar ?_ h'
      unfold cutV
      rw [← len]
      exact rds_take _ (rds_drop _ r1)
  | fl l => exact lst h
  | ref n => exact lst h
  | _ => exact absurd (show false = true from h) Bool.false_ne_true
section
variable {B : Bs} {c : SI} {E : XK} {X : Cx} {ea eb : Expr} {pos p2 : Pos} {xa xb : XE} {lo hi : Option Expr} {xl xh : XO}
theorem wkO {e : Option Expr} {t t' : TO} (h : PO X e t) (w : ∀ σ H Q, t' σ H Q → t σ H Q) : PO X e t' := ⟨fun pins s σ H Q I q => h.run pins s σ H Q I (w σ H Q q)⟩
theorem o_no : PO X none (TOr B E oNo) := wkO po_none fun σ H Q ⟨m, s, env, k, kx, ar, er, hx, hk, hkx⟩ => hk none m s H .refl ar hx
theorem o_sm (h : PE X ea (TX B E xa)) : PO X (some ea) (TOr B E (oSm xa)) := wkO (po_some h) fun σ H Q ⟨m, s, env, k, kx, ar, er, hx, hk, hkx⟩ =>
  ⟨m, s, env, _, kx, ar, er, hx, fun d m1 s1 H1 v p1 a1 r1 h => by
    obtain ⟨i, e, h2⟩ := asI_ok h
    subst e
    cases r1
    exact ⟨i, rfl, hk (some i) m1 s1 H1 p1 a1 h2⟩, hkx⟩
theorem x_sl (C : Cok B c E X) (ha : PE X ea (TX B E xa)) (hl : PO X lo (TOr B E xl)) (hh : PO X hi (TOr B E xh)) : PE X (.Subscript ea (.Slice lo hi none p2) pos) (TX B E (xSl xa xl xh)) :=
  wkE (pe_slice (sl_tupA.or sl_list) ha hl hh) fun σ H Q ⟨m, s, env, k, kx, ar, er, hx, hk, hkx⟩ =>
    ⟨m, s, env, _, kx, ar, er, hx, fun u m1 s1 H1 x p1 a1 r1 h1 => ⟨m1, s1, env, _, kx, a1, er.post p1 ar, h1, fun l m2 s2 H2 p2 a2 h2 => ⟨m2, s2, env, _, kx, a2, er.post (p1.trans p2) ar, h2, fun h m3 s3 H3 p3 a3 h3 => by
      rw [C.K]
      exact slD_ok a3 ((p2.trans p3).rd a1 r1) (hk.post ((p1.trans p2).trans p3)) h3, hkx.post (p1.trans p2)⟩, hkx.post p1⟩, hkx⟩
end
end Ev
end
end

/-! part EvM -/
section
set_option Elab.async false
set_option linter.all false
set_option maxRecDepth 100000
set_option maxHeartbeats 4000000
/-! EvM: built-ins. -/
noncomputable section
namespace Ev
open PySem PySem.Spec PyProof.Rows L2

abbrev BG := List D → S → KD → Bool
/-- what a built-in gives -/
def rG (B : Bs) (g : BG) : List V → Hp → VK → Prop := fun xs H Q => ∃ m s ds k, AR B m s H ∧ RDws B m s H ds xs ∧ g ds s k = true ∧ KDok B m s H k Q
theorem callR_imp {X : Cx} {f : Value} {r r' : List V → Hp → VK → Prop} (h : CallR X f r) (w : ∀ xs H Q, r' xs H Q → r xs H Q) : CallR X f r' := fun pins s σ H xs us Q I rv q => h pins s σ H xs us Q I rv (w xs H Q q)
section
variable {B : Bs} {m : Md} {nl no : Nat} {W : Addr → Prop} {H : Hp}
theorem rds1 {d : D} {xs : List V} (r : RDs B m nl no W H [d] xs) : ∃ x, xs = [x] ∧ RD B m nl no W H d x := by
  obtain ⟨x, t, e, h, h2⟩ := r
  have e2 : t = [] := h2
  subst e2
  exact ⟨x, e, h⟩
theorem rds2 {d d2 : D} {xs : List V} (r : RDs B m nl no W H [d, d2] xs) : ∃ x y, xs = [x, y] ∧ RD B m nl no W H d x ∧ RD B m nl no W H d2 y := by
  obtain ⟨x, t, e, h, h2⟩ := r
  obtain ⟨y, e2, h3⟩ := rds1 h2
  subst e2
  exact ⟨x, y, e, h, h3⟩
end
/-! ### len, abs, int, max, min -/
def bLen : BG := fun us s k => one us fun d => D.rec (motive_1 := fun _ => Bool) (motive_2 := fun _ => Unit) false false (fun _ => false) (fun _ => false) (fun x => grd (Nat.ble x.length 1000000) (frN x.length fun n => k (.int (.ofNat n)) s)) (fun _ => false) (fun l _ => frN (lenD l) fun n => k (.int (.ofNat n)) s) (fun l _ => frN (lenD l) fun n => k (.int (.ofNat n)) s) (fun _ _ _ => false)
    (fun n => oLst (osGet (sOs s) n) fun l => frN (lenD l) fun n => k (.int (.ofNat n)) s) (fun _ => false) (fun _ => false) (fun _ _ => false) (fun l _ => frN (lenD l) fun n => k (.int (.ofNat n)) s) (fun _ _ _ => false) () (fun _ _ _ _ => ()) d
def bAbs : BG := fun us s k => one us fun d => asI d fun i => frN (nAbs i) fun n => k (.int (.ofNat n)) s
def bInt : BG := fun us s k => one us fun d => D.rec (motive_1 := fun _ => Bool) (motive_2 := fun _ => Unit) false false (fun b => k (.int (Bool.rec 0 1 b)) s) (fun i => k (.int i) s) (fun _ => false) (fun _ => false) (fun _ _ => false) (fun _ _ => false) (fun _ _ _ => false) (fun _ => false) (fun _ => false) (fun _ => false) (fun _ _ => false) (fun _ _ => false) (fun _ _ _ => false) () (fun _ _ _ _ => ()) d
def bMax : BG := fun us s k => twoD us fun d d2 => asI d fun i => asI d2 fun j => ifB (iLt i j) (k d2 s) (k d s)
def bMin : BG := fun us s k => twoD us fun d d2 => asI d fun i => asI d2 fun j => ifB (iLt j i) (k d2 s) (k d s)
/-! ### tuple, list, all, any, sum -/
def bTup : BG := fun us s k => one us fun d => itm d s fun l => k (.tup l) s
def bLst : BG := fun us s k => one us fun d => itm d s fun l => newO s (.lst l) k
def allB (l : List D) (k : Bool → Bool) : Bool := List.rec (motive := fun _ => Bool → Bool) (fun r => k r) (fun d _ ih r => asB d fun b => ih (Bool.rec (motive := fun _ => Bool) false r b)) l true
def anyB (l : List D) (k : Bool → Bool) : Bool := List.rec (motive := fun _ => Bool → Bool) (fun r => k r) (fun d _ ih r => asB d fun b => ih (Bool.rec (motive := fun _ => Bool) r true b)) l false
def sumI (l : List D) (k : Int → Bool) : Bool := List.rec (motive := fun _ => Int → Bool) (fun r => k r) (fun d _ ih r => asI d fun i => frI (r + i) fun z => ih z) l 0
def bAll : BG := fun us s k => one us fun d => lsI d s fun l => allB l fun r => k (.bl r) s
def bAny : BG := fun us s k => one us fun d => lsI d s fun l => anyB l fun r => k (.bl r) s
def bSum : BG := fun us s k => one us fun d => lsI d s fun l => sumI l fun r => k (.int r) s
section
variable {B : Bs} {m : Md} {s : S} {H : Hp}
theorem allB_ok : ∀ {l : List D} {xs : List V} {r : Bool} {k : Bool → Bool}, RDws B m s H l xs → List.rec (motive := fun _ => Bool → Bool) (fun r => k r) (fun d _ ih r => asB d fun b => ih (Bool.rec (motive := fun _ => Bool) false r b)) l r = true → ∃ bs : List Bool, xs = bs.map V.bl ∧ k (r && bs.all id) = true
  | [], xs, r, k, rx, h => by
    have e : xs = [] := rx
    subst e
    exact ⟨[], rfl, by simpa using h⟩
  | d :: l, xs, r, k, rx, h => by
    obtain ⟨x, t, e, r1, r2⟩ := rx
    obtain ⟨b, e2, h2⟩ := asB_ok (show asB d _ = true from h)
    subst e2
    cases r1
    obtain ⟨bs, e3, h3⟩ := allB_ok r2 h2
    subst e e3
    refine ⟨b :: bs, rfl, ?_⟩
    rw [List.all_cons]
    cases b <;> simpa using h3
theorem anyB_ok : ∀ {l : List D} {xs : List V} {r : Bool} {k : Bool → Bool}, RDws B m s H l xs → List.rec (motive := fun _ => Bool → Bool) (fun r => k r) (fun d _ ih r => asB d fun b => ih (Bool.rec (motive := fun _ => Bool) r true b)) l r = true → ∃ bs : List Bool, xs = bs.map V.bl ∧ k (r || bs.any id) = true
  | [], xs, r, k, rx, h => by
    have e : xs = [] := rx
    subst e
    exact ⟨[], rfl, by simpa using h⟩
  | d :: l, xs, r, k, rx, h => by
    obtain ⟨x, t, e, r1, r2⟩ := rx
    obtain ⟨b, e2, h2⟩ := asB_ok (show asB d _ = true from h)
    subst e2
    cases r1
    obtain ⟨bs, e3, h3⟩ := anyB_ok r2 h2
    subst e e3
    refine ⟨b :: bs, rfl, ?_⟩
    rw [List.any_cons]
    cases b <;> simpa using h3
theorem sumI_ok : ∀ {l : List D} {xs : List V} {r : Int} {k : Int → Bool}, RDws B m s H l xs → List.rec (motive := fun _ => Int → Bool) (fun r => k r) (fun d _ ih r => asI d fun i => frI (r + i) fun z => ih z) l r = true → ∃ ns : List Int, xs = ns.map V.int ∧ k (r + ns.sum) = true
  | [], xs, r, k, rx, h => by
    have e : xs = [] := rx
    subst e
    exact ⟨[], rfl, by simpa using h⟩
  | d :: l, xs, r, k, rx, h => by
    obtain ⟨x, t, e, r1, r2⟩ := rx
    obtain ⟨b, e2, h2⟩ := asI_ok (show asI d _ = true from h)
    rw [frI_eq] at h2
    subst e2
    cases r1
    obtain ⟨bs, e3, h3⟩ := sumI_ok r2 h2
    subst e e3
    refine ⟨b :: bs, rfl, ?_⟩
    rw [List.sum_cons, ← Int.add_assoc]
    exact h3
end
section
variable {B : Bs} {c : SI} {E : XK} {X : Cx}
theorem c_len (C : Cok B c E X) : CallR X (.builtin "len") (rG B bLen) := callR_imp call_len fun xs H Q ⟨m, s, ds, k, ar, r, hg, hk⟩ => by
  obtain ⟨d, e, h⟩ := one_ok hg
  subst e
  obtain ⟨x, e, rx⟩ := rds1 r
  subst e
  rw [C.K]
  have fin : ∀ {a xs l}, x = .ref a → (SqT B.K H a xs ∨ SqL B.K H a xs) → RDws B m s H l xs → frN (lenD l) (fun n => k (.int (.ofNat n)) s) = true → ∃ y n, [x] = [y] ∧ LenV B.K y H n ∧ Q (.int n) H := fun {a xs l} ex q rl h => by
    rw [frN_eq, lenD_eq, rds_len rl] at h
    subst ex
    exact ⟨.ref a, xs.length, rfl, q.elim (fun q => .inr ⟨xs, q, rfl⟩) (fun q => .inl ⟨xs, q, rfl⟩), hk (.int _) m s H _ .refl ar rfl h⟩
  cases d with
  | str x =>
    cases rx
    obtain ⟨c1, h2⟩ := grd_ok (show grd (Nat.ble x.length 1000000) (frN x.length fun n => k (.int (.ofNat n)) s) = true from h)
    rw [frN_eq] at h2
    exact ⟨.str x, x.length, rfl, ⟨size_ok (Nat.le_of_ble_eq_true c1), rfl⟩, hk (.int _) m s H _ .refl ar rfl h2⟩
  | tup l =>
    obtain ⟨a, xs, e, q, t⟩ := rx
    exact fin e (.inl q) t h
  | tm l =>
    obtain ⟨a, xs, o, e, q, _, t⟩ := rx
    exact fin e (.inl (.inl (.inr ⟨o, q⟩))) t h
  | fl l =>
    obtain ⟨a, xs, e, q, _, t⟩ := rx
    exact fin e (.inr (sq_lst q)) t h
  | ref n =>
    obtain ⟨a, xs, l, e, q, t, h2⟩ := lsI_ok (d := .ref n) (k := fun l => frN (lenD l) fun n => k (.int (.ofNat n)) s) ar rx h
    exact fin e (.inr (sq_lst q)) t h2
  | _ => exact absurd (show false = true from h) Bool.false_ne_true
theorem c_abs : CallR X (.builtin "abs") (rG B bAbs) := callR_imp call_abs fun xs H Q ⟨m, s, ds, k, ar, r, hg, hk⟩ => by
  obtain ⟨d, e, h⟩ := one_ok hg
  subst e
  obtain ⟨x, e, rx⟩ := rds1 r
  obtain ⟨i, e2, h2⟩ := asI_ok h
  subst e e2
  cases rx
  rw [frN_eq, nAbs_eq] at h2
  have e3 : (if i < 0 then -i else i) = Int.ofNat i.natAbs := by
    show _ = ((i.natAbs : Nat) : Int)
    split <;> omega
  exact ⟨i, rfl, by rw [e3]; exact hk (.int _) m s H _ .refl ar rfl h2⟩
theorem c_int : CallR X (.type "int") (rG B bInt) := callR_imp call_int1 fun xs H Q ⟨m, s, ds, k, ar, r, hg, hk⟩ => by
  obtain ⟨d, e, h⟩ := one_ok hg
  subst e
  obtain ⟨x, e, rx⟩ := rds1 r
  subst e
  cases d with
  | int i =>
    cases rx
    exact .inl ⟨i, rfl, hk (.int i) m s H _ .refl ar rfl h⟩
  | bl b =>
    cases rx
    refine .inr ⟨b, rfl, ?_⟩
    have h' : k (.int (Bool.rec 0 1 b)) s = true := h
    cases b <;> exact hk (.int _) m s H _ .refl ar rfl h'
  | _ => exact absurd (show false = true from h) Bool.false_ne_true
theorem c_max (C : Cok B c E X) : CallR X (.builtin "max") (rG B bMax) := callR_imp (call_max2 C.calm) fun xs H Q ⟨m, s, ds, k, ar, r, hg, hk⟩ => by
  obtain ⟨d, d2, e, h⟩ := twoD_ok hg
  subst e
  obtain ⟨x, y, e, rx, ry⟩ := rds2 r
  obtain ⟨i, e2, h⟩ := asI_ok h
  obtain ⟨j, e3, h⟩ := asI_ok h
  subst e e2 e3
  cases rx; cases ry
  refine ⟨i, j, rfl, ?_⟩
  rcases ifB_ok h with ⟨c, h⟩ | ⟨c, h⟩
  · rw [iLt_eq, decide_eq_true_eq] at c
    rw [if_pos c]
    exact hk (.int j) m s H _ .refl ar rfl h
  · rw [iLt_eq, decide_eq_false_iff_not] at c
    rw [if_neg c]
    exact hk (.int i) m s H _ .refl ar rfl h
theorem c_min (C : Cok B c E X) : CallR X (.builtin "min") (rG B bMin) := callR_imp (call_min2 C.calm) fun xs H Q ⟨m, s, ds, k, ar, r, hg, hk⟩ => by
  obtain ⟨d, d2, e, h⟩ := twoD_ok hg
  subst e
  obtain ⟨x, y, e, rx, ry⟩ := rds2 r
  obtain ⟨i, e2, h⟩ := asI_ok h
  obtain ⟨j, e3, h⟩ := asI_ok h
  subst e e2 e3
  cases rx; cases ry
  refine ⟨i, j, rfl, ?_⟩
  rcases ifB_ok h with ⟨c, h⟩ | ⟨c, h⟩
  · rw [iLt_eq, decide_eq_true_eq] at c
    rw [if_pos c]
    exact hk (.int j) m s H _ .refl ar rfl h
  · rw [iLt_eq, decide_eq_false_iff_not] at c
    rw [if_neg c]
    exact hk (.int i) m s H _ .refl ar rfl h
theorem c_tup (C : Cok B c E X) : CallR X (.type "tuple") (rG B bTup) := callR_imp call_tuple_of fun xs H Q ⟨m, s, ds, k, ar, r, hg, hk⟩ => by
  obtain ⟨d, e, h⟩ := one_ok hg
  subst e
  obtain ⟨x, e, rx⟩ := rds1 r
  subst e
  rw [C.K]
  cases d with
  | tup l =>
    have rx' := rx
    obtain ⟨a, xs, e, q, t⟩ := rx
    subst e
    exact ⟨a, xs, rfl, .inr ⟨q, hk (.tup l) m s H _ .refl ar rx' h⟩⟩
  | tm l =>
    obtain ⟨a, xs, o, e, q, _, t⟩ := rx
    subst e
    exact ⟨a, xs, rfl, .inr ⟨.inl (.inr ⟨o, q⟩), hk (.tup l) m s H _ .refl ar ⟨a, xs, rfl, .inl (.inr ⟨o, q⟩), t⟩ h⟩⟩
  | fl l =>
    obtain ⟨a, xs, e, q, _, t⟩ := rx
    subst e
    exact ⟨a, xs, rfl, .inl ⟨sq_lst q, fin_tup hk ar t h⟩⟩
  | ref n =>
    obtain ⟨a, xs, l, e, q, t, h2⟩ := lsI_ok (d := .ref n) (k := fun l => k (.tup l) s) ar rx h
    subst e
    exact ⟨a, xs, rfl, .inl ⟨sq_lst q, fin_tup hk ar t h2⟩⟩
  | _ => exact absurd (show false = true from h) Bool.false_ne_true
theorem c_lst (C : Cok B c E X) : CallR X (.type "list") (rG B bLst) := callR_imp call_list_of fun xs H Q ⟨m, s, ds, k, ar, r, hg, hk⟩ => by
  obtain ⟨d, e, h⟩ := one_ok hg
  subst e
  obtain ⟨x, e, rx⟩ := rds1 r
  subst e
  rw [C.K]
  obtain ⟨a, xs, l, e, q, t, h2⟩ := itm_ok ar rx h
  subst e
  exact ⟨a, xs, rfl, q.symm, fin_lst hk ar t h2⟩
theorem c_all (C : Cok B c E X) : CallR X (.builtin "all") (rG B bAll) := callR_imp (cr_all C.calm) fun xs H Q ⟨m, s, ds, k, ar, r, hg, hk⟩ => by
  obtain ⟨d, e, h⟩ := one_ok hg
  subst e
  obtain ⟨x, e, rx⟩ := rds1 r
  subst e
  rw [C.K]
  obtain ⟨a, xs, l, e, q, t, h2⟩ := lsI_ok ar rx h
  obtain ⟨bs, e2, h3⟩ := allB_ok t h2
  subst e e2
  exact ⟨a, bs, rfl, sq_lst q, hk (.bl _) m s H _ .refl ar rfl (by simpa using h3)⟩
theorem c_any (C : Cok B c E X) : CallR X (.builtin "any") (rG B bAny) := callR_imp (cr_any C.calm) fun xs H Q ⟨m, s, ds, k, ar, r, hg, hk⟩ => by
  obtain ⟨d, e, h⟩ := one_ok hg
  subst e
  obtain ⟨x, e, rx⟩ := rds1 r
  subst e
  rw [C.K]
  obtain ⟨a, xs, l, e, q, t, h2⟩ := lsI_ok ar rx h
  obtain ⟨bs, e2, h3⟩ := anyB_ok t h2
  subst e e2
  exact ⟨a, bs, rfl, sq_lst q, hk (.bl _) m s H _ .refl ar rfl (by simpa using h3)⟩
theorem c_sum (C : Cok B c E X) : CallR X (.builtin "sum") (rG B bSum) := callR_imp (cr_sum C.calm) fun xs H Q ⟨m, s, ds, k, ar, r, hg, hk⟩ => by
  obtain ⟨d, e, h⟩ := one_ok hg
  subst e
  obtain ⟨x, e, rx⟩ := rds1 r
  subst e
  rw [C.K]
  obtain ⟨a, xs, l, e, q, t, h2⟩ := lsI_ok ar rx h
  obtain ⟨bs, e2, h3⟩ := sumI_ok t h2
  subst e e2
  exact ⟨a, bs, rfl, sq_lst q, hk (.int _) m s H _ .refl ar rfl (by simpa using h3)⟩
end

/-! ### isinstance -/
/-- the types of data: 0 NoneType, 1 bool, 2 int, 3 str, 4 tuple, 5 list, 6 dict -/
def tyN (s : S) (d : D) (k : Nat → Bool) : Bool :=
  D.rec (motive_1 := fun _ => Bool) (motive_2 := fun _ => Unit) false (k 0) (fun _ => k 1) (fun _ => k 2) (fun _ => k 3) (fun _ => false) (fun _ _ => k 4) (fun _ _ => k 5) (fun _ _ _ => k 6)
    (fun n => Option.rec (motive := fun _ => Bool) false (fun o => O.rec (motive := fun _ => Bool) (fun _ => k 5) (fun _ => k 5) (fun _ => k 6) (fun l => List.rec (motive := fun _ => Bool) (k 6) (fun _ _ _ => false) l) false false o) (osGet (sOs s) n)) (fun _ => false) (fun _ => false) (fun _ _ => k 3) (fun _ _ => k 4) (fun _ _ _ => false) () (fun _ _ _ _ => ()) d
def nmT : Nat → String
  | 0 => "NoneType" | 1 => "bool" | 2 => "int" | 3 => "str" | 4 => "tuple" | 5 => "list" | _ => "dict"
/-- isinstance(x, class number c) -/
def isN (t c : Nat) : Bool := Bool.rec (motive := fun _ => Bool) (Bool.rec (motive := fun _ => Bool) false (Nat.beq c 2) (Nat.beq t 1)) true (Nat.beq t c)
def xIsi (c : Nat) (a : XE) : XE := fun e s k x => a e s (fun d s1 => tyN s1 d fun t => k (.bl (isN t c)) s1) x
theorem tyN_ok {B : Bs} {m : Md} {s : S} {H : Hp} {d : D} {v : V} {k : Nat → Bool} (ar : AR B m s H) (r : RDw B m s H d v) (h : tyN s d k = true) : ∃ t, t < 7 ∧ TyX B.K H v (.type (nmT t)) ∧ k t = true := by
  cases d with
  | non => cases r; exact ⟨0, by decide, .base .non, h⟩
  | bl b => cases r; exact ⟨1, by decide, .base (.bl b), h⟩
  | int b => cases r; exact ⟨2, by decide, .base (.int b), h⟩
  | str b => cases r; exact ⟨3, by decide, .base (.str b), h⟩
  | rep b => obtain ⟨_, p, _, e⟩ := r; subst e; exact ⟨3, by decide, .base (.str _), h⟩
  | tup l =>
    obtain ⟨a, xs, e, q, t⟩ := r
    subst e
    refine ⟨4, by decide, ?_, h⟩
    rcases q with (q | ⟨o, q⟩) | ⟨o, its, n, q, c, _⟩
    · exact .base (.tup q)
    · exact .fTuple q
    · exact .kTuple q c
  | tm l =>
    obtain ⟨a, xs, o, e, q, _, t⟩ := r
    subst e
    exact ⟨4, by decide, .fTuple q, h⟩
  | fl l =>
    obtain ⟨a, xs, e, q, _, t⟩ := r
    subst e
    exact ⟨5, by decide, .base (.lst q), h⟩
  | fd ks vs =>
    obtain ⟨a, e, _, q⟩ := r
    subst e
    refine ⟨6, by decide, ?_, h⟩
    rcases q with ⟨_, _, q⟩ | ⟨ws, q, _⟩
    · exact .base (.dT q)
    · exact .base (.dK q)
  | ref n =>
    obtain ⟨_, e⟩ := r
    subst e
    have h' : Option.rec (motive := fun _ => Bool) false (fun o => O.rec (motive := fun _ => Bool) (fun _ => k 5) (fun _ => k 5) (fun _ => k 6) (fun l => List.rec (motive := fun _ => Bool) (k 6) (fun _ _ _ => false) l) false false o) (osGet (sOs s) n) = true := h
    rw [sOs_eq] at h'
    cases hg : osGet s.os n with
    | none => rw [hg] at h'; exact absurd (show false = true from h') Bool.false_ne_true
    | some o =>
      rw [hg] at h'
      have q := ar.obj n o hg
      cases o with
      | lst l => obtain ⟨xs, q, _⟩ := q; exact ⟨5, by decide, .base (.lst q), h'⟩
      | fz l => obtain ⟨xs, q, _⟩ := q; exact ⟨5, by decide, .base (.lst q), h'⟩
      | dK l => obtain ⟨xs, q, _⟩ := q; exact ⟨6, by decide, .base (.dK q), h'⟩
      | dT l =>
        cases l with
        | nil =>
          rcases q with ⟨_, q⟩ | ⟨_, _, e, _⟩
          · exact ⟨6, by decide, .base (.dT q), h'⟩
          · exact absurd rfl e
        | cons _ _ => exact absurd (show false = true from h') Bool.false_ne_true
      | bag => exact absurd (show false = true from h') Bool.false_ne_true
      | hid => exact absurd (show false = true from h') Bool.false_ne_true
  | _ => exact absurd (show false = true from h) Bool.false_ne_true
end Ev
end
end

/-! part EvN -/
section
set_option Elab.async false
set_option linter.all false
set_option maxRecDepth 100000
set_option maxHeartbeats 4000000
/-! EvN: calls of built-ins, methods, assignments, raise. -/
noncomputable section
namespace Ev
open PySem PySem.Spec PyProof.Rows L2

def xBt (g : BG) (a : XA) : XE := fun e s k x => a e s (fun us s1 => g us s1 k) x
section
variable {B : Bs} {c : SI} {E : XK} {X : Cx} {e ea eb o : Expr} {es : List Expr} {pos p q apos : Pos} {xa xb : XE} {za : XA} {x T : Str} {id ty : String} {g : BG}
theorem bt_two {σ : L2.St} {H : Hp} {Q : VK} (h : TX B E (xBt g za) σ H Q) : tCB (rG B g) (TAr B E za) σ H Q := by
  obtain ⟨m, s, env, k, kx, ar, er, hx, hk, hkx⟩ := h
  exact ⟨m, s, env, _, kx, ar, er, hx, fun us m1 s1 H1 xs p1 a1 r1 h1 => ⟨m1, s1, us, k, a1, r1, h1, hk.post p1⟩, hkx⟩
theorem x_btF (C : Cok B c E X) (hc : CallR X (.builtin id) (rG B g)) (hg : c.sc.names.lookup x = some .globalImplicit) (hm : B.mg x = none) (hv : bootBuiltins x = some (.builtin id)) (ha : PA X (e :: es) (TAr B E za)) (hn : x ≠ "__name__") (hdb : (x == ("__debug__" : Str)) = false)
    (he : starEach (e :: es) X.env = (false, eval e X.env) :: starEach es X.env) (hpl : (backTo pos (starEach es X.env)).any (·.1) = false) : PE X (.Call (.Name x p) (e :: es) [] pos) (TX B E (xBt g za)) :=
  wkE (pe_callB hc (C.gl hg) (by rw [C.mg]; exact hm) hv ha hn hdb he hpl) fun _ _ _ h => bt_two h
theorem x_btT (C : Cok B c E X) (hc : CallR X (.type id) (rG B g)) (hg : c.sc.names.lookup x = some .globalImplicit) (hm : B.mg x = none) (hv : bootBuiltins x = some (.type id)) (ha : PA X (e :: es) (TAr B E za)) (hn : x ≠ "__name__") (hdb : (x == ("__debug__" : Str)) = false)
    (he : starEach (e :: es) X.env = (false, eval e X.env) :: starEach es X.env) (hpl : (backTo pos (starEach es X.env)).any (·.1) = false) : PE X (.Call (.Name x p) (e :: es) [] pos) (TX B E (xBt g za)) :=
  wkE (pe_callTy hc (C.gl hg) (by rw [C.mg]; exact hm) hv ha hn hdb he hpl) fun _ _ _ h => bt_two h
/-- isinstance(x, T) -/
theorem kit_all : ∀ n t : Fin 7, kitB (nmT t.1) (nmT n.1) = some (isN t.1 n.1) ∨ n.1 = 0 := by decide +kernel
theorem kit_n {n : Nat} (h : n < 7) (h0 : n ≠ 0) : ∀ t, t < 7 → kitB (nmT t) (nmT n) = some (isN t n) := fun t ht => (kit_all ⟨n, h⟩ ⟨t, ht⟩).resolve_right h0
theorem x_isi {n : Nat} (C : Cok B c E X) (hg : c.sc.names.lookup ("isinstance" : Str) = some .globalImplicit) (hm : B.mg ("isinstance" : Str) = none) (hgT : c.sc.names.lookup T = some .globalImplicit) (hmT : B.mg T = none) (hv : bootBuiltins T = some (.type (nmT n))) (ha : PE X ea (TX B E xa)) (hnT : T ≠ "__name__") (hdT : (T == ("__debug__" : Str)) = false)
    (hk : ∀ t, t < 7 → kitB (nmT t) (nmT n) = some (isN t n)) (he : starEach [ea, .Name T q] X.env = (false, eval ea X.env) :: starEach [.Name T q] X.env) : PE X (.Call (.Name ("isinstance" : Str) p) [ea, .Name T q] [] pos) (TX B E (xIsi n xa)) := by
  have hb : bootBuiltins ("isinstance" : Str) = some (.builtin "isinstance") := by rfl
  have h2 : PE X (.Name T q) (tC (.ty (nmT n))) := pe_bltn (C.gl hgT) (by rw [C.mg]; exact hmT) hv rfl hnT hdT
  refine wkE (pe_callB call_isi (C.gl hg) (by rw [C.mg]; exact hm) hb (pa_cons ha (pa_cons h2 pa_nil rfl) he) (by decide) (by decide) he rfl) fun σ H Q ⟨m, s, env, k, kx, ar, er, hx, hk', hkx⟩ => ?_
  refine ⟨m, s, env, _, kx, ar, er, hx, fun u m1 s1 H1 v p1 a1 r1 h1 => ?_, hkx⟩
  obtain ⟨t, ht, ty, h2⟩ := tyN_ok a1 r1 h1
  rw [C.K]
  exact ⟨v, .ty (nmT n), .type (nmT t), .type (nmT n), isN t n, rfl, .ty _, ty, kit_ty (hk t ht), hk' (.bl _) m1 s1 H1 _ p1 a1 rfl h2⟩
/-- x.bit_length() -/
def bitsN (i : Int) : Nat := Nat.rec (motive := fun _ => Nat) 0 (fun m _ => Nat.succ (Nat.log2 (Nat.succ m))) (nAbs i)
theorem bitsN_eq (i : Int) : bitsN i = Builtin.Int.intBits i := by
  unfold bitsN Builtin.Int.intBits
  rw [nAbs_eq]
  by_cases h : i = 0
  · subst h
    rfl
  · rw [if_neg (by simpa using h)]
    cases e : i.natAbs with
    | zero => exact absurd (Int.natAbs_eq_zero.mp e) h
    | succ m => rfl
def xBits (a : XE) : XE := fun e s k x => a e s (fun u s1 => asI u fun i => frN (bitsN i) fun n => k (.int (.ofNat n)) s1) x
theorem x_bits (ha : PE X ea (TX B E xa)) (hbase : attributeBase ea "bit_length" X.env (eval ea X.env) = eval ea X.env) (hline : (apos.endLine == pos.line) = true) : PE X (.Call (.Attribute ea "bit_length" apos) [] [] pos) (TX B E (xBits xa)) :=
  wkE (pe_bits ha hbase hline) fun σ H Q ⟨m, s, env, k, kx, ar, er, hx, hk, hkx⟩ => ⟨m, s, env, _, kx, ar, er, hx, fun u m1 s1 H1 v p1 a1 r1 h => by
    obtain ⟨i, e, h2⟩ := asI_ok h
    rw [frN_eq, bitsN_eq] at h2
    subst e
    cases r1
    exact ⟨i, rfl, hk (.int _) m1 s1 H1 _ p1 a1 rfl h2⟩, hkx⟩
end

/-! ### methods of lists that write -/
/-- the list that may be written, by its number -/
def wLst (u : D) (s : S) (k : Nat → List D → Bool) : Bool := asR u fun n => Option.rec (motive := fun _ => Bool) false (fun o => O.rec (motive := fun _ => Bool) (fun l => k n l) (fun _ => false) (fun _ => false) (fun _ => false) false false o) (osGet (sOs s) n)
def setL (s : S) (n : Nat) (l : List D) (k : S → Bool) : Bool := S.rec (motive := fun _ => Bool) (fun nl no os => k (.mk nl no (osSet os n (.lst l)))) s
theorem wLst_ok {u : D} {s : S} {k : Nat → List D → Bool} (h : wLst u s k = true) : ∃ n l, u = .ref n ∧ osGet s.os n = some (.lst l) ∧ k n l = true := by
  obtain ⟨n, e, h2⟩ := asR_ok h
  have h3 : Option.rec (motive := fun _ => Bool) false (fun o => O.rec (motive := fun _ => Bool) (fun l => k n l) (fun _ => false) (fun _ => false) (fun _ => false) false false o) (osGet (sOs s) n) = true := h2
  rw [sOs_eq] at h3
  cases hg : osGet s.os n with
  | none => rw [hg] at h3; exact absurd (show false = true from h3) Bool.false_ne_true
  | some o =>
    rw [hg] at h3
    cases o with
    | lst l => exact ⟨n, l, e, hg, h3⟩
    | _ => exact absurd (show false = true from h3) Bool.false_ne_true
/-- a list written -/
theorem setL_ok {B : Bs} {m : Md} {s : S} {H : Hp} {n : Nat} {l l' : List D} {xs' : List V} {k : S → Bool} (ar : AR B m s H) (hg : osGet s.os n = some (.lst l)) (r : RDws B m s H l' xs') (h : setL s n l' k = true) :
    ∃ s', k s' = true ∧ Post m s H m s' (upd H (m.ρ n) (.lst xs')) ∧ AR B m s' (upd H (m.ρ n) (.lst xs')) := by
  obtain ⟨nl, no, os⟩ := s
  obtain ⟨P, A⟩ := put_obj (o' := .lst l') (u := .lst xs') ar hg rfl fun H' p e => ⟨xs', e, p.rds ar r⟩
  exact ⟨_, h, P, A⟩
/-- a method's writing: from the list's items and the arguments the new items and the result -/
abbrev MG := List D → List D → S → (List D → D → Bool) → Bool
def xMt (g : MG) (a : XE) (z : XA) : XE := fun e s k x => a e s (fun u s1 => wLst u s1 fun _ _ => z e s1 (fun us s2 => wLst u s2 fun n l => g l us s2 fun l' d => setL s2 n l' fun s3 => k d s3) x) x
def mApp : MG := fun l us _ k => one us fun d => grd (shortB l) (k (l ++ [d]) .non)
def mExt : MG := fun l us s k => one us fun d => lsI d s fun l2 => grd (shortB (l ++ l2)) (k (l ++ l2) .non)
section
variable {B : Bs} {c : SI} {E : XK} {X : Cx} {e ea eb o : Expr} {es : List Expr} {pos p q apos : Pos} {xa xb : XE} {za : XA} {name : Str} {id : String} {g : MG} {r : V → List V → Hp → VK → Prop}
theorem x_mt (C : Cok B c E X) (slot : Slot "list" name id) (hty : typeOf (.builtin id) = pure (.type "method_descriptor")) (hm : MtR X id r)
    (hr : ∀ (m : Md) (s : S) (H : Hp) (n : Nat) (l ds : List D) (xs vs : List V) (k : List D → D → Bool) (Q : VK), AR B m s H → RDws B m s H l xs → RDws B m s H ds vs → H (m.ρ n) = some (.lst xs) → g l ds s k = true →
      (∀ l' d xs' v, RDws B m s H l' xs' → RDw B m s H d v → k l' d = true → Q v (upd H (m.ρ n) (.lst xs'))) → r (.ref (m.ρ n)) vs H Q)
    (ho : PE X o (TX B E xa)) (ha : PA X (e :: es) (TAr B E za)) (hbase : attributeBase o name X.env (eval o X.env) = eval o X.env)
    (hfew : ((backTo pos (starEach (e :: es) X.env)).all (fun x => !x.1) && (backToKw pos (keywordEach [] X.env)).all (fun x => x.1.isSome)
      && decide ((e :: es).length + ([] : List Keyword).length + (if ([] : List Keyword).isEmpty then 0 else 1) < 30)) = true)
    (hline : (apos.endLine == pos.line) = true) (hs : starEach (e :: es) X.env = (false, eval e X.env) :: starEach es X.env) (hplain : (backTo pos (starEach es X.env)).any (·.1) = false) :
    PE X (.Call (.Attribute o name apos) (e :: es) [] pos) (TX B E (xMt g xa za)) :=
  wkE (pe_bm (T := "list") PySem.F.plainAttrs_list slot hty hm ho ha hbase hfew hline hs hplain) fun σ H Q ⟨m, s, env, k, kx, ar, er, hx, hk, hkx⟩ =>
    ⟨m, s, env, _, kx, ar, er, hx, fun u m1 s1 H1 v p1 a1 r1 h => by
      obtain ⟨n, l, e1, hg, h2⟩ := wLst_ok h
      subst e1
      obtain ⟨hn, ev⟩ := r1
      subst ev
      obtain ⟨xs, hxs, _⟩ := a1.obj n _ hg
      refine ⟨.inl ⟨rfl, xs, sq_lst hxs⟩, m1, s1, env, _, kx, a1, er.post p1 ar, h2, fun us m2 s2 H2 vs p2 a2 r2 h3 => ?_, hkx.post p1⟩
      obtain ⟨n', l2, e2, hg2, h4⟩ := wLst_ok h3
      cases e2
      obtain ⟨xs2, hxs2, rl⟩ := a2.obj n _ hg2
      have e3 : m2.ρ n = m1.ρ n := p2.more.rho n hn
      rw [← e3]
      refine hr m2 s2 H2 n l2 us xs2 vs _ Q a2 rl r2 hxs2 h4 fun l' d xs' v rl' rd hk2 => ?_
      obtain ⟨s3, h5, P, A⟩ := setL_ok a2 hg2 rl' hk2
      exact hk d m2 s3 _ v ((p1.trans p2).trans P) A (P.rd a2 rd) h5, hkx⟩
theorem r_app (m : Md) (s : S) (H : Hp) (n : Nat) (l ds : List D) (xs vs : List V) (k : List D → D → Bool) (Q : VK) (ar : AR B m s H) (rl : RDws B m s H l xs) (rv : RDws B m s H ds vs) (hx : H (m.ρ n) = some (.lst xs)) (h : mApp l ds s k = true)
    (hq : ∀ l' d xs' v, RDws B m s H l' xs' → RDw B m s H d v → k l' d = true → Q v (upd H (m.ρ n) (.lst xs'))) : rAppend (.ref (m.ρ n)) vs H Q := by
  obtain ⟨d, e, h2⟩ := one_ok h
  subst e
  obtain ⟨x, e, rx⟩ := rds1 rv
  obtain ⟨hs, h3⟩ := grd_ok h2
  have hs := shortB_ok hs
  rw [rds_len rl] at hs
  exact ⟨_, xs, x, rfl, e, hx, by rw [sizeLine_eq]; omega, hq (l ++ [d]) .non (xs ++ [x]) .non (rds_app rl (show RDws B m s H [d] [x] from ⟨x, [], rfl, rx, rfl⟩)) rfl h3⟩
theorem r_ext (m : Md) (s : S) (H : Hp) (n : Nat) (l ds : List D) (xs vs : List V) (k : List D → D → Bool) (Q : VK) (ar : AR B m s H) (rl : RDws B m s H l xs) (rv : RDws B m s H ds vs) (hx : H (m.ρ n) = some (.lst xs)) (h : mExt l ds s k = true)
    (hq : ∀ l' d xs' v, RDws B m s H l' xs' → RDw B m s H d v → k l' d = true → Q v (upd H (m.ρ n) (.lst xs'))) : rExtend (.ref (m.ρ n)) vs H Q := by
  obtain ⟨d, e, h2⟩ := one_ok h
  subst e
  obtain ⟨x, e, rx⟩ := rds1 rv
  obtain ⟨b, zs, l2, e2, hb, r2, h3⟩ := lsI_ok ar rx h2
  obtain ⟨hs, h4⟩ := grd_ok h3
  have hs := shortB_ok hs
  rw [List.length_append, rds_len rl, rds_len r2] at hs
  subst e e2
  exact ⟨_, b, xs, zs, rfl, rfl, hx, hb, size_ok hs, hq (l ++ l2) .non (xs ++ zs) .non (rds_app rl r2) rfl h4⟩
end

/-! ### statements -/
def sBrk : XS := fun e s _ c => c.kb e s
def sCnt : XS := fun e s _ c => c.kc e s
def sRetN : XS := fun _ s _ c => c.kr .non s
def sAsg (g : XG) (a : XE) : XS := fun e s n c => a e s (fun d s1 => g d e s1 n c.kx) c.kx
def sPar2 (i j : Nat) (z : XA) : XS := fun e s n c => z e s (fun us s1 => twoD us fun d d2 => n (put (put e d i) d2 j) s1) c.kx
def threeD (us : List D) (k : D → D → D → Bool) : Bool := List.rec (motive := fun _ => Bool) false (fun d r _ => twoD r (k d)) us
def sPar3 (i j l : Nat) (z : XA) : XS := fun e s n c => z e s (fun us s1 => threeD us fun d d2 d3 => n (put (put (put e d i) d2 j) d3 l) s1) c.kx
def sAug (i : Nat) (o : Bop) (a : XE) : XS := fun e s n c => Bool.rec (motive := fun _ => Bool) (a e s (fun v s1 => asI (nth e i) fun p => asI v fun q => grd (opOk o p q) (frI (opVal o p q) fun r => n (put e (.int r) i) s1)) c.kx) false (isUnb (nth e i))
theorem threeD_ok {us : List D} {k : D → D → D → Bool} (h : threeD us k = true) : ∃ d d2 d3, us = [d, d2, d3] ∧ k d d2 d3 = true := by
  cases us with
  | nil => exact absurd (show false = true from h) Bool.false_ne_true
  | cons d r =>
    obtain ⟨d2, d3, e, h2⟩ := twoD_ok (show twoD r (k d) = true from h)
    exact ⟨d, d2, d3, by rw [e], h2⟩
section
variable {B : Bs} {c : SI} {E : XK} {X : Cx} {tg e : Expr} {pos : Pos} {xa : XE} {za : XA} {g : XG}
theorem s_brk : PS X (.Break pos) (TSt B E sBrk) := wkS ps_break fun Dn σ H ⟨m, s, env, n, c, ar, er, hx, hn, hc⟩ => hc.bk env m s H σ .refl ar er hx
theorem s_cnt : PS X (.Continue pos) (TSt B E sCnt) := wkS ps_continue fun Dn σ H ⟨m, s, env, n, c, ar, er, hx, hn, hc⟩ => hc.ct env m s H σ .refl ar er hx
theorem s_retN : PS X (.Return none pos) (TSt B E sRetN) := wkS ps_retN fun Dn σ H ⟨m, s, env, n, c, ar, er, hx, hn, hc⟩ => hc.rt .non m s H _ .refl ar rfl hx
theorem s_asg {w : List Nat} (he : PE X e (TX B E xa)) (hg : PG X tg (TGr B E w g)) (hs : swapsWithSole [tg] e pos.line X.env = pure false) (hw : swappedStores [tg] e X.env = pure none)
    (h1 : (assignEach [tg] X.env).map (·.2) = [assign tg X.env]) : PS X (.Assign [tg] e pos) (TSt B E (sAsg g xa)) := wkS (ps_asg he hg hs hw h1) fun Dn σ H ⟨m, s, env, n, c, ar, er, hx, hn, hc⟩ =>
  ⟨m, s, env, _, c.kx, ar, er, hx, fun d m1 s1 H1 v p1 a1 r1 h => ⟨m1, s1, env, d, n, c.kx, a1, er.post p1 ar, r1, h, hc.xx.post p1, fun env' m' s' H' σ' p' a' e' _ _ h' => hn env' m' s' H' σ' (p1.trans p') a' e' h'⟩, hc.xx⟩
theorem s_par2 {i j : Nat} {x y : Str} {a b : Expr} {px py pt : Pos} {kt k2 pt2} (C : Cok B c E X) (hN : c.N.Nodup) (hi : c.N[i]? = some x) (hj : c.N[j]? = some y) (hij : i ≠ j) (hx : c.sc.names.lookup x = some .local) (hy : c.sc.names.lookup y = some .local) (ha : PA X [a, b] (TAr B E za))
    (hw : swappedStores [.Tuple [.Name x px, .Name y py] kt pt] (.Tuple [a, b] k2 pt2) X.env = pure (some [x, y])) : PS X (.Assign [.Tuple [.Name x px, .Name y py] kt pt] (.Tuple [a, b] k2 pt2) pos) (TSt B E (sPar2 i j za)) :=
  wkS (ps_par C.calm (by rw [C.N]; exact hN) (C.at_ hi) (C.at_ hj) hij (by rw [C.sc]; exact hx) (by rw [C.sc]; exact hy) ha hw rfl) fun Dn σ H ⟨m, s, env, n, c, ar, er, hx, hn, hc⟩ =>
    ⟨m, s, env, _, c.kx, ar, er, hx, fun us m1 s1 H1 vs p1 a1 r1 h => by
      obtain ⟨d, d2, e, h2⟩ := twoD_ok h
      subst e
      obtain ⟨v, w, ev, rv, rw'⟩ := rds2 r1
      exact ⟨v, w, ev, hn _ m1 s1 H1 _ p1 a1 (er_put (er_put (er.post p1 ar) rv i) rw' j) h2⟩, hc.xx⟩
theorem s_par3 {i j l : Nat} {x y z : Str} {a b d : Expr} {px py pz pt : Pos} {kt k2 pt2} (C : Cok B c E X) (hN : c.N.Nodup) (hi : c.N[i]? = some x) (hj : c.N[j]? = some y) (hl : c.N[l]? = some z) (hij : i ≠ j) (hil : i ≠ l) (hjl : j ≠ l) (hx : c.sc.names.lookup x = some .local) (hy : c.sc.names.lookup y = some .local) (hz : c.sc.names.lookup z = some .local) (ha : PA X [a, b, d] (TAr B E za))
    (hw : swappedStores [.Tuple [.Name x px, .Name y py, .Name z pz] kt pt] (.Tuple [a, b, d] k2 pt2) X.env = pure (some [x, y, z])) : PS X (.Assign [.Tuple [.Name x px, .Name y py, .Name z pz] kt pt] (.Tuple [a, b, d] k2 pt2) pos) (TSt B E (sPar3 i j l za)) :=
  wkS (ps_par3 C.calm (by rw [C.N]; exact hN) (C.at_ hi) (C.at_ hj) (C.at_ hl) hij hil hjl (by rw [C.sc]; exact hx) (by rw [C.sc]; exact hy) (by rw [C.sc]; exact hz) ha hw rfl) fun Dn σ H ⟨m, s, env, n, c, ar, er, hx, hn, hc⟩ =>
    ⟨m, s, env, _, c.kx, ar, er, hx, fun us m1 s1 H1 vs p1 a1 r1 h => by
      obtain ⟨d, d2, d3, e, h2⟩ := threeD_ok h
      subst e
      obtain ⟨v, t, ev, rv, rt⟩ := r1
      obtain ⟨w, w2, et, rw', rw2⟩ := rds2 rt
      subst et
      exact ⟨v, w, w2, ev, hn _ m1 s1 H1 _ p1 a1 (er_put (er_put (er_put (er.post p1 ar) rv i) rw' j) rw2 l) h2⟩, hc.xx⟩
theorem s_aug {i : Nat} {x : Str} {op : Operator} {o : Bop} {pos' : Pos} {Cn : Int → Int → Prop} {gg : Int → Int → V} (C : Cok B c E X) (hN : c.N.Nodup) (hi : c.N[i]? = some x) (hx : Loc c.sc x) (hf : c.fn x = true ∨ c.sc.names.lookup x = some .local) (he : PE X e (TX B E xa)) (ho : OpR X (inplaceOp op) (rI Cn gg)) (hC : ∀ i j, opOk o i j = true → Cn i j ∧ gg i j = V.int (opVal o i j)) :
    PS X (.AugAssign (.Name x pos') op e pos) (TSt B E (sAug i o xa)) :=
  wkS (ps_aug (ti := rI Cn gg) (by rw [C.N]; exact hN) (C.at_ hi) (C.loc hx) he ho (by rw [C.fn, C.sc]; exact hf)) fun Dn σ H ⟨m, s, env, n, c, ar, er, hx, hn, hc⟩ => by
    have hx1 : Bool.rec (motive := fun _ => Bool) (xa env s (fun v s1 => asI (nth env i) fun p => asI v fun q => grd (opOk o p q) (frI (opVal o p q) fun r => n (put env (.int r) i) s1)) c.kx) false (isUnb (nth env i)) = true := hx
    cases hu : isUnb (nth env i) with
    | true => rw [hu] at hx1; exact absurd (show false = true from hx1) Bool.false_ne_true
    | false =>
      rw [hu] at hx1
      have hx' : xa env s (fun v s1 => asI (nth env i) fun p => asI v fun q => grd (opOk o p q) (frI (opVal o p q) fun r => n (put env (.int r) i) s1)) c.kx = true := hx1
      obtain ⟨d, hd⟩ : ∃ d, env[i]? = some d := by
        cases e : env[i]? with
        | some d => exact ⟨d, rfl⟩
        | none =>
          rw [nth_eq, e] at hu
          exact absurd (show true = false from hu) (by decide)
      rw [nth_eq, hd] at hu
      rcases er.at_ i d hd with z | ⟨v0, h1, h2⟩
      · rw [z] at hu
        exact absurd (show true = false from hu) (by decide)
      · refine ⟨v0, h1, m, s, env, _, c.kx, ar, er, hx', fun u m1 s1 H1 v p1 a1 r1 h => ?_, hc.xx⟩
        rw [nth_eq, hd] at h
        obtain ⟨p, e1, h3⟩ := asI_ok (show asI d _ = true from h)
        obtain ⟨q, e2, h4⟩ := asI_ok h3
        obtain ⟨c1, h5⟩ := grd_ok h4
        rw [frI_eq] at h5
        obtain ⟨c2, c3⟩ := hC p q c1
        subst e1 e2
        cases h2; cases r1
        refine ⟨p, q, rfl, rfl, c2, ?_⟩
        rw [c3]
        exact hn _ m1 s1 H1 _ p1 a1 (er_put (d := .int (opVal o p q)) (v := .int (opVal o p q)) (er.post p1 ar) rfl i) h5
end
end Ev
end
end

/-! part EvX -/
section
set_option Elab.async false
set_option linter.all false
set_option maxRecDepth 100000
set_option maxHeartbeats 4000000
/-! EvX: exceptions whose __init__ says super().__init__(given); self.f = given. -/
noncomputable section
namespace Ev
open PySem PySem.Spec PyProof.Rows L2

section
open Builtin Builtin.ObjectAttr
/-- self.f = v of an exception that has no dict yet, over any built-in base -/
theorem keep_store {prog : Program} {w : World} {A : Around} {R : Result → Shared → Prop} {hp : Heap} {g : Array GenState} {d : Drawn} {t : Nat} {os : OsState} {K : PySem.W.Frag} {name : Str} {tk : Tok} {v : Value} {x C : Addr} {fv : Array Value} {cd : ClassData}
    (X : K.In hp) (hx : hp.get? x = some { cls := .ref C, data := .fields fv }) (hcd : PySem.W.clsIn K C = some cd) (ne : cd.mro.isEmpty = false) (hob : cd.mro.contains (.type "object") = true) (hps : refuseLoop (.ref x) "__setattr__" cd.mro = pure ()) (hh : cd.hasDict = true) (ha : PySem.W.findIn K (.ref C) name = some none)
    (hq : ∀ h' tk' dx, (∀ b o, b ≠ x → hp.get? b = some o → h'.get? b = some o) → hp.objs.size ≤ dx → dx ≠ x → h'.get? x = some { cls := .ref C, dict := some dx, data := .fields fv } →
      h'.Ns1 dx (fun y => if y = name then some v else none) → R (.ok (.ret .none)) ⟨h', g, d, tk', os⟩) :
    codeAny (model prog w) A (.call (.builtin "object.__setattr__") ⟨[.ref x, .str name tk, v], []⟩) R ⟨hp, g, d, t, os⟩ := by
  have at_ : PySem.W.InstAt hp x { cls := .ref C, data := .fields fv } C none := ⟨hx, rfl, rfl, trivial⟩
  have SF := F.store_object
  have lt := Heap.lt_size hx
  have is_ : PySem.W.Looks (model prog w) hp (isInstance (.ref x) (.type "object")) true := at_.type.andThen (PySem.W.looks_mroIn X (by unfold PySem.W.mroIn; rw [hcd, Option.bind_some, if_neg (by rw [ne]; decide), hob]))
  refine codeAny_call_builtin SF.slot.plain SF.entry (@PySem.W.check_slot (model prog w) _ _ ⟨hp, g, d, t, os⟩ "object.__setattr__" "object" "__setattr__" (.ref x) [.str name tk, v] [] _ SF.kind SF.split is_ (SF.args (.ref x) (.str name tk) v) ?_)
  have mr : PySem.W.Looks (model prog w) hp (mroOf (.ref C)) cd.mro := (PySem.W.looks_clsIn X hcd).andThen .now
  have cl : PySem.W.Looks (model prog w) hp (classData C) cd := PySem.W.looks_clsIn X hcd
  rw [PySem.W.osa_eq, refuse_eq]
  refine wpAny_bind (wpAny_bind (at_.type.at (wpAny_bind (mr.at ?_))))
  rw [hps]
  refine wpAny_pure (wpAny_bind (at_.type.at (wpAny_bind ((PySem.W.looks_findIn X ha).at (wpAny_bind ((PySem.W.Looks.now (a := none)).at ?_))))))
  show wpAny _ _ (storeInOwnDict (.ref x) (.ref C) (.str name tk) name v false) _ _ _
  obtain ⟨nm, bs, mro, ns, qn, hd, sn, sb, ab, col, del⟩ := cd
  dsimp only at hh
  subst hh
  unfold storeInOwnDict ownDictForStores
  repeat (first | with_reducible refine PySem.HandSPX.store_in_new ?_ ?_ | with_reducible refine wpAny_loadPart_at hx ?_ | with_reducible refine cl.at ?_ | wp_step)
  · exact ⟨_, #[], _, (Heap.get?_update_ne _ _ _ _ (Nat.ne_of_gt lt)).trans (Heap.get?_push_at rfl rfl), rfl, fun e he => absurd he (by simp), fun _ => rfl⟩
  · intro h' tk' hn' hs
    refine hq h' tk' hp.objs.size (fun b o hb ho => ?_) (Nat.le_refl _) (Nat.ne_of_gt lt) ?_ hn'
    · exact (hs.2 b (Nat.ne_of_lt (Heap.lt_size ho))).trans ((Heap.get?_update_ne _ _ _ _ hb).trans (Heap.get?_push_of_some _ ho))
    · exact (hs.2 x (Nat.ne_of_lt lt)).trans (Heap.get?_update_self _ (Heap.get?_push_of_some _ hx) rfl)
end
/-- super().__init__(..) called: the args are laid anew -/
theorem super_call {prog : Program} {w : World} {A : Around} {E : Value → Shared → Prop} {h : Heap} {g : Array GenState} {d : Drawn} {t : Nat} {os : OsState} {nm q : Str} {C N u e t0 : Addr} {bs bm bmB : List Value} {hdct : Bool} {sn : List Str} {sub : List Value} {ab : Bool} {col : Option Bool} {dd : Option Addr} {k0 k1 k2 k3 k5 : Option Value} {Bn newId initId : String} {rest : List Value} {Q : Value → Shared → Prop}
    (FB : ExcBaseFacts Bn newId initId bmB) (hC : h.get? C = some (excClassObj nm q C N bs bm hdct sn sub ab col dd k0 k1 k2 k3 k5 newId)) (he : h.get? e = some (PySem.W.excObj C t0 none .none)) (hu : h.get? u = some (PySem.W.kxs_mw initId e)) (hz : rest.length ≤ sizeLine)
    (hq : ∀ h' t1, (∀ b o, b ≠ e → h.get? b = some o → h'.get? b = some o) → h'.get? e = some (PySem.W.excObj C t1 none .none) → Q .none ⟨h', g, d, t, os⟩) : wpAny (model prog w) A (call (.ref u) rest) Q E ⟨h, g, d, t, os⟩ := by
  refine wpAny_call (codeAny_of_tree ?_)
  show wpAny _ A.in1 (callAny (.ref u) ⟨rest, []⟩) _ _ _
  simp only [callAny]
  refine wpAny_bind (wpAny_load hu ?_)
  simp only [PySem.W.kxs_mw, show (Value.type "method-wrapper" == Value.type "method" || Value.type "method-wrapper" == Value.type "builtin_function_or_method" || Value.type "method-wrapper" == Value.type "method-wrapper") = true by decide, if_true]
  refine PySem.W.KFB.if_so (by decide) ?_
  refine wpAny_bind (PySem.W.check_bound_init FB.toExcCallFacts hC he rfl ?_)
  refine wpAny_bind (wpAny_pure (wpAny_pure ?_))
  refine ⟨plainId_quiet FB.init.plain _, codeAny_builtin FB.initEntry ?_⟩
  exact PySem.W.exc_init_tree (cls := .ref C) (t0 := t0) (dv := none) (c2 := .none) (c3 := .none) (b4 := .bool false) he hz fun h' k e' _ => hq h' _ k e'

/-- what is known of such a class -/
structure KeepC (B : Bs) (x fld : Str) where
  (C N fI cc cda : Addr)
  (nm q qual sv gv : Str)
  (bs bm bmB sub : List Value)
  (sn : List Str)
  (ab : Bool)
  (col : Option Bool)
  (dd an od cdd cld : Option Addr)
  (k0 k1 k2 k3 k5 : Option Value)
  (Bn newId initId : String)
  (params : Arguments)
  (scope : Scope)
  (dV kV doc pm ct oc ccl cl : Value)
  (osl ccs csl : Array (Option Value))
  (vs : Array Value)
  (file : Str)
  (tf : Tok)
  (p0 p1 p2 p3 p4 p5 p6 p7 p8 p9 : Pos)
  (ar : Arg)
  F : ExcBaseFacts Bn newId initId bmB
  KF : PySem.W.KxsFacts Bn initId
  hC : B.K.lookup C = some (excClassObj nm q C N bs bm true sn sub ab col dd k0 k1 k2 k3 k5 newId)
  mg : B.mg x = some (.ref C)
  dbg : (x == ("__debug__" : Str)) = false
  kp : PySem.W.keepIn B.K (.ref C) = true
  sa : PySem.W.findIn B.K (.ref C) "__setattr__" = some (some (.builtin "object.__setattr__"))
  exC : PySem.W.subIn B.K (.ref C) (.type "BaseException") = some true
  tyC : PySem.W.typeIn B.K (.ref C) = some (.type "type")
  lk : B.K.lookup fI = some ⟨oc, od, .func (PySem.W.ksFn "__init__" qual params [.Expr (.Call (.Attribute (.Call (.Name "super" p0) [] [] p1) "__init__" p2) [.Name gv p3] [] p4) p5, .Assign [.Attribute (.Name sv p6) fld p7] (.Name gv p8) p9] scope dV kV doc pm an (.ref cda) ct cc), osl⟩
  iC : PySem.W.findIn B.K (.ref C) "__init__" = some (some (.ref fI))
  tI : PySem.W.typeIn B.K (.ref fI) = some (.type "function")
  hcd : PySem.W.codeIn B.K (.ref cda) qual = true
  bind : ∀ (u v : Value) , bindArgs (PySem.W.ksFn "__init__" qual params [.Expr (.Call (.Attribute (.Call (.Name "super" p0) [] [] p1) "__init__" p2) [.Name gv p3] [] p4) p5, .Assign [.Attribute (.Name sv p6) fld p7] (.Name gv p8) p9] scope dV kV doc pm an (.ref cda) ct cc) ⟨[u, v], []⟩ = pure [(sv, u), (gv, v)]
  head : (params.posonlyargs ++ params.args).head? = some ar
  arn : ar.arg = sv
  code : B.K.lookup cda = some ⟨ccl, cdd, .fields vs, ccs⟩
  hvs : vs[2]? = some (.str file tf)
  hfile : ((B.P.main.file : Str) == file) = true
  cell : B.K.lookup cc = some ⟨cl, cld, .cell (some (.ref C)), csl⟩
  hf : PySem.W.findIn B.K (.ref C) fld = some none
  op : PySem.W.nsIn B.K cStatics "thirdparty.any" = some none
  along : PySem.W.alongIn B.K "__init__" bm = some (some (.builtin initId))
  subB : PySem.W.subIn B.K (.ref C) (.type Bn) = some true
  mroC : PySem.W.mroIn B.K C (.ref C) = some true
  mgs : B.mg ("super" : Str) = none
  top : (B.P.main.scope.names.lookup ("super" : Str)).isSome = false
  pass : ∀ self, refuseLoop self "__setattr__" (.ref C :: bm) = pure ()
  obj : bm.contains (.type "object") = true
  hT : ∀ X : String, bm.contains (.type X) = bmB.contains (.type X)
  kind : scope.kind = .function
  co : scope.isCoroutine = false
  gen : scope.isGenerator = false
  nsu : scope.names.lookup ("super" : Str) = some .globalImplicit
  ncl : scope.names.lookup ("__class__" : Str) = some .free
  nsv : scope.names.lookup sv = some .local
  ngv : scope.names.lookup gv = some .local
  nce : ∀ y ∈ scope.names, y.2 ≠ .cell
  sg : (sv == gv) = false
  dsv : (sv == ("__debug__" : Str)) = false
  dgv : (gv == ("__debug__" : Str)) = false
  line : (p2.endLine == p4.line) = true
/-- its __init__ runs -/
theorem KeepC.run {B : Bs} {x fld : Str} (T : KeepC B x fld) {A : Around} {R : Result → Shared → Prop} {s : Shared} {e t0 : Addr} {v : Value} (X : B.K.In s.heap) (lim : s.heap.NoLimit) (gl : s.heap.Ns mainGlobals B.mg) (blt : ∃ mb, s.heap.Ns builtinsNs mb ∧ ∀ y : Str, y ≠ "__name__" → mb y = bootBuiltins y)
    (hd : A.depth < recursionLimit) (hKe : B.K.lookup e = none) (he : s.heap.get? e = some (PySem.W.excObj T.C t0 none .none))
    (h : ∀ s' t1 dx, (∀ b o, b ≠ e → s.heap.get? b = some o → s'.heap.get? b = some o) → s.heap.objs.size ≤ dx → s'.heap.get? e = some { cls := .ref T.C, dict := some dx, data := .fields #[.ref t1, .none, .none, .none, .bool false, .none] } →
      s'.heap.Ns1 dx (fun y => if y = fld then some v else none) → s'.os = s.os → s'.gens = s.gens → R (.ok (.ret .none)) s') : codeAny (model B.P B.w) A (.call (.ref T.fI) ⟨[.ref e, v], []⟩) R s := by
  refine ks_codeAny_call_defAt hd (X _ _ T.lk) rfl lim (PySem.W.codeRec_of X T.hcd) rfl (binds := [(T.sv, .ref e), (T.gv, v)]) (BindsTo.of_eq (T.bind _ _)) T.nce (fun y hy => ?_) (fun h₀ hns kp => ?_) T.co T.gen T.kind
  · rcases List.mem_cons.mp hy with q | hy
    · rw [q]; exact T.nsv
    · rcases List.mem_cons.mp hy with q | hy
      · rw [q]; exact T.ngv
      · cases hy
  have X0 : B.K.In h₀ := X.keeps kp
  have he0 := kp _ _ he
  have eL : e ≠ s.heap.objs.size := Nat.ne_of_lt (Heap.lt_size he)
  have kk := T.kind
  have lg : ([(T.sv, Value.ref e), (T.gv, v)] : List (Str × Value)).reverse.lookup T.gv = some v := by simp [List.lookup]
  have ls : ([(T.sv, Value.ref e), (T.gv, v)] : List (Str × Value)).reverse.lookup T.sv = some (.ref e) := by
    simp only [List.reverse_cons, List.reverse_nil, List.nil_append, List.singleton_append, List.lookup, T.sg, beq_self_eq_true]
  have bsup : bootBuiltins ("super" : Str) = some (.type "super") := by rfl
  obtain ⟨mb, hmb, hmb2⟩ := blt
  have cd0 : PySem.W.clsIn B.K T.C = some { name := T.nm, bases := T.bs, mro := .ref T.C :: T.bm, ns := T.N, qualname := T.q, hasDict := true, slotNames := T.sn, subclasses := T.sub, abstract := T.ab, collection := T.col, hasDel := false } := by
    unfold PySem.W.clsIn
    rw [T.hC] <;> rfl
  have kq : (callEnv (PySem.W.ksFn "__init__" T.qual T.params [.Expr (.Call (.Attribute (.Call (.Name "super" T.p0) [] [] T.p1) "__init__" T.p2) [.Name T.gv T.p3] [] T.p4) T.p5, .Assign [.Attribute (.Name T.sv T.p6) fld T.p7] (.Name T.gv T.p8) T.p9] T.scope T.dV T.kV T.doc T.pm T.an (.ref T.cda) T.ct T.cc) s.heap.objs.size T.fI).scope.kind = .function := T.kind
  refine ks_wpAt_execs_cons (ks_wpAt_Expr_any ?_ (by simp [interactive, kq]) rfl)
  have hpos : ∀ o env, methodCallPos true o env T.p2 T.p4 = pure T.p4 := fun o env => by
    unfold methodCallPos
    simp [T.line]
  generalize hev : callEnv (PySem.W.ksFn "__init__" T.qual T.params [.Expr (.Call (.Attribute (.Call (.Name "super" T.p0) [] [] T.p1) "__init__" T.p2) [.Name T.gv T.p3] [] T.p4) T.p5, .Assign [.Attribute (.Name T.sv T.p6) fld T.p7] (.Name T.gv T.p8) T.p9] T.scope T.dV T.kV T.doc T.pm T.an (.ref T.cda) T.ct T.cc) s.heap.objs.size T.fI = env
  refine ks_wpAt_MethodCall (pl := (do return (← importBound (.Call (.Name "super" T.p0) [] [] T.p1) env).getD true)) ?_ (by
    show (attributeBase _ _ env _ >>= fun ov => standAt _ >>= fun _ => holding [ov] (getMethod ov _ _) >>= fun x => methodCallPos true _ env T.p2 T.p4 >>= fun cp => callWith cp x.1 x.2 _ _) = _
    simp only [hpos, pure_bind]
    rfl)
  subst hev
  refine ks_wpAt_super_base T.nsu T.ncl (by decide) rfl (X0 _ _ T.lk) rfl T.head rfl (X0 _ _ T.code) rfl T.hvs T.hfile T.top ?_
  refine PySem.W.ks_loadName_global kk T.nsu (PySem.Calls.loadGlobal_builtin (gl.keeps kp) T.mgs (hmb.keeps kp) ((hmb2 _ (by decide)).trans bsup) ⟨rfl, ?_⟩)
  refine wpAny_loadName_free kk T.ncl rfl ⟨_, X0 _ _ T.cell, rfl⟩ ?_
  rw [T.arn]
  refine wpAny_loadName_local kk T.nsv hns ls ?_
  refine ks_wpAny_isType_cls (X0 _ _ T.hC) rfl ⟨rfl, ?_⟩
  refine ks_wpAny_call_super (X0 _ _ T.hC) rfl he0 rfl (fun c z => by cases z) (PySem.W.looks_mroIn X0 T.mroC) (fun h1 hso k1 => ?_)
  have X1 : B.K.In h1 := X0.keeps k1
  have eC : e ≠ T.C := fun z => by
    have q1 := X0 _ _ T.hC
    rw [← z, he0] at q1
    cases q1
  have he1 := k1 _ _ he0
  have hns1 := hns.at fun o q => k1 _ _ q
  have L1 : PySem.W.Looks (model B.P B.w) h1 (isInstance (.ref e) (.type T.Bn)) true := (show PySem.W.InstAt h1 e (PySem.W.excObj T.C t0 none .none) T.C none from ⟨he1, rfl, rfl, trivial⟩).type.andThen (PySem.W.looks_subIn X1 T.subB)
  have mr : PySem.W.Looks (model B.P B.w) h1 (mroOf (.ref T.C)) (.ref T.C :: T.bm) := (PySem.W.looks_clsIn X1 cd0).andThen .now
  refine PySem.W.kxs_getMethod T.KF hso (PySem.W.looks_opaque X1 T.op) mr (by simp [List.dropWhile_cons]) X1 T.along L1 eC (by decide) ?_
  have k2 : ∀ b o, h1.get? b = some o → (h1.push (PySem.W.kxs_mw T.initId e)).get? b = some o := fun b o q => Heap.get?_push_of_some _ q
  have he2 := k2 _ _ he1
  have hns2 := hns1.at fun o q => k2 _ _ q
  have hu : (h1.push (PySem.W.kxs_mw T.initId e)).get? h1.objs.size = some (PySem.W.kxs_mw T.initId e) := Heap.get?_push_size _ rfl
  refine PySem.W.kxs_callWith (i := T.initId) (x := e) rfl (PySem.Calls.evalArgs_plain (PySem.Calls.spliced_cons (wpAny_Name (wpAny_loadName_local kk T.ngv hns2 lg ?_) T.dgv)))
  refine PySem.Calls.spliced_nil ⟨hu, ?_⟩
  refine super_call T.F (k2 _ _ (X1 _ _ T.hC)) he2 hu (by simp; rw [sizeLine_eq]; omega) fun h3 t1 k3 he3 => ?_
  have keeps : ∀ {ha hb : Heap}, B.K.In ha → (∀ b o, b ≠ e → ha.get? b = some o → hb.get? b = some o) → B.K.In hb := fun {ha hb} x k b o q => k b o (fun z => by rw [z, hKe] at q; cases q) (x b o q)
  have X3 : B.K.In h3 := keeps (X1.keeps k2) k3
  have nsk : ∀ {ha hb : Heap} {mm : Str → Option Value}, ha.Ns s.heap.objs.size mm → (∀ b o, b ≠ e → ha.get? b = some o → hb.get? b = some o) → hb.Ns s.heap.objs.size mm := fun {ha hb mm} x k => x.at fun o q => k _ _ (Ne.symm eL) q
  have hns3 := nsk hns2 k3
  refine ks_wpAt_execs_cons (ks_wpAt_Assign_Attr ?_ rfl)
  refine wpAt_of_wpAny (wpAny_Name (wpAny_loadName_local kk T.ngv hns3 lg ?_) T.dgv)
  refine wpAny_Name (wpAny_loadName_local kk T.nsv hns3 ls ?_) T.dsv
  refine PySem.W.set_plain X3 (ox := { cls := .ref T.C, data := .fields #[.ref t1, .none, .none, .none, .bool false, .none] }) (od := none) ⟨he3, rfl, rfl, trivial⟩ T.sa ?_
  refine keep_store X3 he3 cd0 rfl ?_ (T.pass _) rfl T.hf fun h4 tk4 dx k4 hdx hdne he4 hdn => ?_
  · rw [List.contains_cons, T.obj, Bool.or_true]
  refine wpAt_of_wpAny (wpAny_execs_nil ?_)
  refine h ⟨h4, _, _, tk4, _⟩ t1 dx (fun b o hb q => k4 b o hb (k3 b o hb (k2 b o (k1 b o (kp b o q))))) ?_ he4 hdn rfl rfl
  obtain ⟨oL, _, _, hL, _⟩ := hns3
  exact Nat.le_trans (Nat.le_of_lt (Heap.lt_size hL)) hdx
/-- C(v): made -/
theorem KeepC.make {B : Bs} {x fld : Str} (T : KeepC B x fld) {c : SI} {E : XK} {X : Cx} (C : Cok B c E X) {e : Expr} {p pos : Pos} {xa : XE} (hr : 1 ≤ c.k) (hg : c.sc.names.lookup x = some .globalImplicit) (ha : PE X e (TX B E xa)) (he : starEach [e] X.env = (false, eval e X.env) :: starEach [] X.env) :
    PMk X (.Call (.Name x p) [e] [] pos) (fun σ H Q => TX B E xa σ H fun v H1 => ∀ d, H1 d = none → Q (.ref T.C) (some d) (upd H1 d (.xd [(fld, v)]))) := by
  intro pins s σ H Q I h
  refine wpAny_Call_Name_kw (ld_glob I (C.gl hg) (by rw [C.mg]; exact T.mg) ?_ T.dbg)
  refine PySem.W.callWith_K (h₀ := X.base) I.ok.mod.kin (by rw [C.K]; exact T.kp) ?_ he rfl
  refine thn ((pa_cons (te := fun σ H Q => TX B E xa σ H Q) ha pa_nil he).run pos pins s σ H (fun vs H1 => ∃ v, vs = [v] ∧ ∀ d, H1 d = none → Q (.ref T.C) (some d) (upd H1 d (.xd [(fld, v)]))) I ?_) fun us s1 ⟨vs, H1, I1, r1, v, ev, q1⟩ => ⟨I1.kIn, ?_⟩
  · exact tb_mono h fun v H1 q => ⟨v, rfl, q⟩
  subst ev
  obtain ⟨u, eu, ru⟩ := Vals.one r1
  subst eu
  show wpAny _ _ (call (.ref T.C) [u]) _ _ _
  have bk := I1.bk
  have hmod := I1.ok.mod
  rw [C.K, C.mg] at hmod
  obtain ⟨hp, g, dr, tk, os⟩ := s1
  have ka : ∀ b o, hp.get? b = some o → ((hp.push (PySem.W.kdv_tup [u])).push (PySem.HandSPX.excO T.C hp.objs.size)).get? b = some o := fun b o q => Heap.get?_push_of_some _ (Heap.get?_push_of_some _ q)
  have at_ : ((hp.push (PySem.W.kdv_tup [u])).push (PySem.HandSPX.excO T.C hp.objs.size)).get? (hp.objs.size + 1) = some (PySem.HandSPX.excO T.C hp.objs.size) := by heap_get
  have kn : B.K.In hp := by
    have q := I1.kIn
    rw [C.K] at q
    exact q
  have bk' : ∀ b o, X.base.get? b = some o → ((hp.push (PySem.W.kdv_tup [u])).push (PySem.HandSPX.excO T.C hp.objs.size)).get? b = some o := fun b o q => ka b o (bk b o q)
  rw [C.P, C.w]
  refine wpAny_call (PySem.HandSPX.call_own T.F T.hT (kn _ _ T.hC) (PySem.W.looks_findIn kn T.iC) (fun self => PySem.W.bind_fn kn self T.tI) (by rw [sizeLine_eq]; exact Nat.succ_le_of_lt (by decide)) ?_)
  refine T.run (t0 := hp.objs.size) (kn.keeps ka) (hmod.nolimit.keeps bk') (hmod.glob.keeps bk') ?_ ((C.room.mono hr).make T.C [u] []).depth ?_ at_ fun s' t1 dx k2 hdx he2 hns ho hg2 => ⟨rfl, ?_⟩
  · obtain ⟨mb, h1, h2⟩ := hmod.blt
    exact ⟨mb, h1.keeps bk', h2⟩
  · cases q : B.K.lookup (hp.objs.size + 1) with
    | none => rfl
    | some o => exact absurd (Heap.lt_size (kn _ _ q)) (Nat.not_lt.mpr (Nat.le_succ _))
  · have sz : hp.objs.size + 2 ≤ dx := by
      have e2 : ((hp.push (PySem.W.kdv_tup [u])).push (PySem.HandSPX.excO T.C hp.objs.size)).objs.size = hp.objs.size + 2 := by rw [Heap.size_push, Heap.size_push]
      rw [← e2]
      exact hdx
    obtain ⟨G, g1, g2⟩ := L2.restrict s'.heap fun b => decide (b ≠ hp.objs.size + 1)
    have gk : ∀ b, b ≠ hp.objs.size + 1 → G.get? b = s'.heap.get? b := fun b hb => g1 b (decide_eq_true hb)
    have ge : G.get? (hp.objs.size + 1) = none := g2 _ (by simp)
    have kG : ∀ b o, hp.get? b = some o → G.get? b = some o := fun b o q => by
      have hb : b ≠ hp.objs.size + 1 := Nat.ne_of_lt (Nat.lt_of_lt_of_le (Heap.lt_size q) (Nat.le_succ _))
      rw [gk b hb]
      exact k2 b o hb (ka b o q)
    have J := I1.laid (t' := tk) (a := dx) (o := .xd [(fld, v)]) (h' := G) kG (by show hp.objs.size ≤ dx; omega) ⟨_, hns.at fun o q => (gk dx (by omega)).trans q, fun f => by
      rw [lookup_put]
      by_cases e : f = fld
      · rw [if_pos e, if_pos e]
        exact ru
      · rw [if_neg e, if_neg e]
        exact True.intro⟩
    have nd : H1 dx = none := I1.hok.fresh (by show hp.objs.size ≤ dx; omega)
    refine ⟨hp.objs.size + 1, _, _, _, _, .ref T.C, some dx, rfl, J, fun b o q => ?_, ge, he2, ⟨rfl, rfl⟩, rfl, rfl, ?_, ho, ?_, raises_own (by rw [C.K]; exact T.exC) (by rw [C.K]; exact T.tyC), q1 dx nd⟩
    · by_cases hb : b = hp.objs.size + 1
      · have q' : G.get? b = some o := q
        rw [hb, ge] at q'
        cases q'
      · exact (gk b hb).symm.trans q
    · rw [upd_ne (show hp.objs.size + 1 ≠ dx from Nat.ne_of_lt sz)]
      exact I1.hok.fresh (Nat.le_succ _)
    · rw [hg2]
      exact I1.bare
end Ev
end
end

/-! part EvO -/
section
set_option Elab.async false
set_option linter.all false
set_option maxRecDepth 100000
set_option maxHeartbeats 4000000
/-! EvO: raise; star arguments; defs with a star parameter; repr. -/
noncomputable section
namespace Ev
open PySem PySem.Spec PyProof.Rows L2

/-- what is known of a class without an __init__ of its own -/
structure PlainC (B : Bs) (x : Str) : Prop where
  ok : ∃ (C : Addr) (bmB : List Value) (Bn newId initId : String), ExcBaseFacts Bn newId initId bmB ∧ PySem.W.excIn B.K C bmB newId = true ∧ B.mg x = some (.ref C) ∧ PySem.W.keepIn B.K (.ref C) = true ∧
    PySem.W.subIn B.K (.ref C) (.type "BaseException") = some true ∧ PySem.W.typeIn B.K (.ref C) = some (.type "type")
  dbg : (x == ("__debug__" : Str)) = false
def sRs (i : Nat) (a : XE) : XS := fun e s _ c => a e s (fun _ s1 => c.kx i .unb s1) c.kx
def sRk (i : Nat) (a : XE) : XS := fun e s _ c => a e s (fun d s1 => c.kx i d s1) c.kx
section
variable {B : Bs} {c : SI} {E : XK} {X : Cx} {e : Expr} {p pos pos' : Pos} {xa : XE} {x fld : Str} {i : Nat}
theorem s_raise (T : PlainC B x) (C : Cok B c E X) (hi : B.cls i = x) (hg : c.sc.names.lookup x = some .globalImplicit) (ha : PE X e (TX B E xa)) (he : starEach [e] X.env = (false, eval e X.env) :: starEach [] X.env) : PS X (.Raise (some (.Call (.Name x p) [e] [] pos)) none pos') (TSt B E (sRs i xa)) := by
  obtain ⟨A, bmB, Bn, newId, initId, F, q, gC, kC, h1, h2⟩ := T.ok
  refine wkS (ps_raise C.calm C.tk (pmk_ownA F (by rw [C.K]; exact q) (by rw [C.mg]; exact gC) (by rw [C.K]; exact kC) (raises_own (by rw [C.K]; exact h1) (by rw [C.K]; exact h2)) (C.gl hg) (pa_cons ha pa_nil he) T.dbg he rfl)) fun Dn σ H ⟨m, s, env, n, cc, ar, er, hx, hn, hc⟩ => ?_
  refine ⟨m, s, env, _, cc.kx, ar, er, hx, fun d m1 s1 H1 v p1 a1 r1 h => ⟨by show 1 ≤ sizeLine; rw [sizeLine_eq]; decide, ?_⟩, hc.xx⟩
  exact hc.xx i .unb m1 s1 H1 _ none p1 a1 ⟨⟨A, by rw [hi]; exact gC, rfl⟩, .inl rfl⟩ h
theorem s_keep (T : KeepC B x fld) (C : Cok B c E X) (hk : 1 ≤ c.k) (hi : B.cls i = x) (hf : B.fld i = fld) (hg : c.sc.names.lookup x = some .globalImplicit) (ha : PE X e (TX B E xa)) (he : starEach [e] X.env = (false, eval e X.env) :: starEach [] X.env) : PS X (.Raise (some (.Call (.Name x p) [e] [] pos)) none pos') (TSt B E (sRk i xa)) := by
  refine wkS (ps_raise C.calm C.tk (T.make C hk hg ha he)) fun Dn σ H ⟨m, s, env, n, cc, ar, er, hx, hn, hc⟩ => ?_
  refine ⟨m, s, env, _, cc.kx, ar, er, hx, fun d m1 s1 H1 v p1 a1 r1 h A hA => ?_, hc.xx⟩
  have P := post_new (m := m1) (s := s1) (o := .xd [(fld, v)]) hA
  exact hc.xx i d m1 s1 _ _ (some A) (p1.trans P) (ar_new a1 hA) ⟨⟨T.C, by rw [hi]; exact T.mg, rfl⟩, .inr ⟨A, v, rfl, by rw [hf, upd_same], P.rd a1 r1⟩⟩ h
end

/-! ### star arguments -/
def aStar (a : XE) (r : XA) : XA := fun e s k x => a e s (fun u s1 => itm u s1 fun l => r e s1 (fun us s2 => k (l ++ us) s2) x) x
section
variable {B : Bs} {c : SI} {E : XK} {X : Cx} {e : Expr} {es : List Expr} {p pos : Pos} {xa : XE} {za : XA}
theorem a_star (C : Cok B c E X) (ha : PE X e (TX B E xa)) (hr : PA X es (TAr B E za)) (hs : starEach (.Starred e p :: es) X.env = (true, eval e X.env) :: starEach es X.env) : PA X (.Starred e p :: es) (TAr B E (aStar xa za)) :=
  wkA (StX.pa_star ha hr hs) fun σ H Q ⟨m, s, env, k, kx, ar, er, hx, hk, hkx⟩ =>
    ⟨m, s, env, _, kx, ar, er, hx, fun u m1 s1 H1 x p1 a1 r1 h1 => by
      obtain ⟨a, xs, l, e1, q, rl, h2⟩ := itm_ok a1 r1 h1
      rw [C.K]
      exact ⟨a, xs, e1, q, m1, s1, env, _, kx, a1, er.post p1 ar, h2, fun us m2 s2 H2 ys p2 a2 r2 h3 => hk _ m2 s2 H2 _ (p1.trans p2) a2 (rds_app (p2.rds a1 rl) r2) h3, hkx.post p1⟩, hkx⟩
/-- x(*y) -/
theorem x_callS1 {l : Nat} {x : Str} {xf : XF} {sp_ : Pos} (C : Cok B c E X) (F : FnC B c.gd l x xf) (hl : l ≤ c.k) (hg : c.sc.names.lookup x = some .globalImplicit) (hdb : (x == ("__debug__" : Str)) = false) (ha : PE X e (TX B E xa)) (hst : starEach [.Starred e sp_] X.env = [(true, eval e X.env)]) :
    PE X (.Call (.Name x p) [.Starred e sp_] [] pos) (TX B E (xCall xf (aStar xa aNil))) := by
  obtain ⟨f, hm, hk, hr⟩ := F.ok
  refine ⟨fun pins s σ H Q I h => ?_⟩
  obtain ⟨m, s0, env, k, kx, ar, er, hx, hkq, hkx⟩ := h
  refine wpAny_Call_Name_kw (ld_glob I (C.gl hg) (by rw [C.mg]; exact hm) ?_ hdb)
  refine PySem.W.callWith_S (h₀ := X.base) I.ok.mod.kin (by rw [C.K]; exact hk) (thn (ha.run pins s σ H (fun y H1 => ∃ a xs, y = V.ref a ∧ (SqT B.K H1 a xs ∨ SqL B.K H1 a xs) ∧ SpF B xf xs H1 Q E) I ⟨m, s0, env, _, kx, ar, er, hx, fun u m1 s1 H1 v p1 a1 r1 h1 => ?_, hkx⟩) fun v s1 ⟨y, H1, I1, ry, a, xs, ey, hxs, q⟩ => ?_) hst
  · obtain ⟨a, xs, l, e1, q, rl, h2⟩ := itm_ok a1 r1 h1
    have h3 : xf (l ++ []) s1 k kx = true := h2
    rw [List.append_nil] at h3
    exact ⟨a, xs, e1, q, m1, s1, l, k, kx, a1, rl, h3, hkq.post p1, hkx.post p1⟩
  · subst ey
    obtain rfl : v = Value.ref a := ry
    rw [← C.K] at hxs
    exact StX.star_any I1 hxs fun us s2 I2 rv => ⟨I2.kIn, C.run hr hl I2 rv q⟩
end

/-! ### a def with a star parameter -/
def xDefS (n p : Nat) (t : Bool) (b : XS) : XF := fun us s k kx => grd (Nat.ble n us.length && shortB us) (xDef (Nat.succ n) p t b (us.take n ++ [.tup (us.drop n)]) s k kx)
theorem fn_defS {B : Bs} {x qual : Str} {params : Arguments} {body : List Stmt} {scope : Scope} {f : Addr} {fd : FuncData} {N ps : List Str} {pv : Str} {k n p : Nat} {t : Bool} {b : XS} (F : FunD B.K x qual params body scope [] [] f fd) (hm : B.mg x = some (.ref f)) (S : FnScope N (ps ++ [pv]) scope) (hn : ps.length = n) (hN : N.length = (n + 1) + p)
    (hb : ∀ (kV doc pm : Value) (an : Option Addr) (cdv ct : Value) (us rest : List Value), us.length = ps.length → bindArgs (PySem.W.fnOf x qual params body scope .none kV doc pm an cdv ct) ⟨us ++ rest, []⟩ = (newTuple rest >>= fun t => pure (ps.zip us ++ [(pv, t)])))
    (hbody : ∀ X E, Cok B ⟨N, scope, k, false, fun _ => true, false⟩ E X → PSs X body (TSt B E b)) : FnC B false (k + 1) x (xDefS n p t b) := by
  refine ⟨f, hm, F.kp, fun A outer s H us vs Q E hr hg e0 r h => ?_⟩
  obtain ⟨m, s0, ds, kd, kx, ar, rds, hx, hk, hkx⟩ := h
  obtain ⟨c, h2⟩ := grd_ok hx
  rw [Bool.and_eq_true] at c
  have c1 := Nat.le_of_ble_eq_true c.1
  have c2 := shortB_ok c.2
  have len := rds_len rds
  obtain ⟨oc, od, dV, kV, doc, pm, an, cdv, ct, osl, rfl, lk, hcd, hD, _⟩ := F.ex
  rcases hD with ⟨_, rfl⟩ | ⟨e, _⟩
  rotate_left 1
  · exact absurd rfl e
  refine StX.fn_star (sp := SpF B (xDef (n + 1) p t b)) lk hcd S StX.cxUp (fun us rest hl => hb kV doc pm an cdv ct us rest hl) (fun A outer s H vs Q E hr hsp => ?_) A outer s H us vs Q E hr e0 r ?_
  · obtain ⟨h3, h4⟩ := x_def hN hsp
    exact ⟨TSt B E b, hbody _ E (cok_def S.nd hr (fun z => absurd z Bool.false_ne_true) (fun z => absurd z Bool.false_ne_true)), h3⟩
  · refine ⟨vs.take n, vs.drop n, (List.take_append_drop n vs).symm, ?_, ?_, fun q hq => ?_⟩
    · rw [List.length_take, hn, ← len]
      exact Nat.min_eq_left c1
    · rw [List.length_drop, ← len]
      exact Nat.le_trans (Nat.sub_le _ _) (size_ok c2)
    · have P := post_new (m := m) (s := s0) (o := .tup (vs.drop n)) hq
      refine ⟨m, s0, _, kd, kx, ar_new ar hq, ?_, h2, hk.post P, hkx.post P⟩
      exact rds_app (P.rds ar (rds_take n rds)) (show RDws B m s0 _ [.tup (ds.drop n)] [V.ref q] from ⟨V.ref q, [], rfl, ⟨q, vs.drop n, rfl, .inl (.inl upd_same), P.rds ar (rds_drop n rds)⟩, rfl⟩)
end Ev
end
end

/-! part EvP -/
section
set_option Elab.async false
set_option linter.all false
set_option maxRecDepth 100000
set_option maxHeartbeats 4000000
/-! EvP: try with many clauses; what a lambda meets. -/
noncomputable section
namespace Ev
open PySem PySem.Spec PyProof.Rows L2

/-- a clause: except x (as n, at slot i): b₀ ..; c the class that x names; ts its suite's reading -/
structure Cl where
  x : Str
  np : Pos
  n : Option (Str × Nat)
  b0 : Stmt
  suite : List Stmt
  pos : Pos
  c : Value
  ts : Addr → Value → Option Addr → TS
def Cl.ast (c : Cl) : ExceptHandler := .ExceptHandler (some (.Name c.x c.np)) (c.n.map (·.1)) (c.b0 :: c.suite) c.pos
/-- what a suite ends with, the name gone again -/
def Cl.ends (c : Cl) (D : Ends) : Ends := match c.n with
  | none => D
  | some (_, i) => { nx := fun σ H => D.nx (σ.set i none) H, rt := D.rt, bk := fun σ H => D.bk (σ.set i none) H, ct := fun σ H => D.ct (σ.set i none) H }
def Cl.bind (c : Cl) (a : Addr) (σ : L2.St) : L2.St := match c.n with
  | none => σ
  | some (_, i) => σ.set i (some (.ref a))
/-- the first clause that takes it -/
def wMany (K : PySem.W.Frag) (D : Ends) : List Cl → WX
  | [] => fun _ _ _ _ => False
  | c :: r => fun cls d σ H => ∃ b, PySem.W.exmOne K cls c.c = some b ∧ (b = true → ∀ a, H a = none → c.ts a cls d (c.ends D) (c.bind a σ) H) ∧ (b = false → wMany K D r cls d σ H)
/-- a clause as it stands in the text -/
structure ClOk (X : Cx) (c : Cl) : Prop where
  nm : Names X c.x c.c
  as_ : ∀ n i, c.n = some (n, i) → X.N[i]? = some n ∧ X.env.kindOf n = some .local
  su : ∀ (a : Addr) (oe : Obj) (cls : Value) (d : Option Addr) (pn : List (Addr × Obj)), Zc cls d oe → (∃ vs, oe.data = .fields vs) → PSs (X.suite a ((a, oe) :: pn)) (c.b0 :: c.suite) (c.ts a cls d)
section
variable {X : Cx} {pins : List (Addr × Obj)}
/-- the clauses, one behind another -/
theorem clauses_run {D : Ends} {a : Addr} {B : Heap} {sI s' : Shared} {σ : L2.St} {H : Hp} {cls : Value} {d : Option Addr} (ok : X.Ok) (hN : X.N.Nodup) (hs : X.stack = X.env :: X.outer) (hf : X.env.frame = some X.env.locals)
    (J : Inv X pins σ H sI) (nb : ∀ b o, sI.heap.get? b = some o → b ∉ frs X.stack → B.get? b = some o) (up : sI.heap.UpToSlots s'.heap) (fl : HandSPX.FlyingZ B (X.env :: X.outer) a (Zc cls d) s'.heap) (na : H a = none) (os : s'.os = sI.os) (ag : AllBare s'.gens) :
    ∀ (cs : List Cl), (∀ c ∈ cs, ClOk X c) → wMany X.K D cs cls d σ H → wpAny (model X.prog X.w) X.A (handleBy (.ref a) X.env (cs.map Cl.ast)) (SP X pins D) X.xe s'
  | [], _, w => w.elim
  | c :: cs, hc, w => by
    have co := hc c List.mem_cons_self
    obtain ⟨b, hb, hyes, hno⟩ := w
    have base : Inv X pins σ H s' := J.landed nb fl.1 up os ag
    obtain ⟨oe, vs, he, hz, hd⟩ := fl.there
    have out : a ∉ frs (X.env :: X.outer) := fun hm => by
      obtain ⟨_, o2, e2, hnf⟩ := fl.2.2.1.mem hm
      rw [he] at e2
      cases e2
      exact hnf _ hd
    have nL : a ≠ X.env.locals := fun z => out (List.mem_filterMap.mpr ⟨X.env, List.mem_cons_self, by rw [hf, z]⟩)
    have nF : a ∉ X.fs := fun hm => by
      obtain ⟨e, h1, h2⟩ := List.mem_filterMap.mp hm
      exact out (List.mem_filterMap.mpr ⟨e, List.mem_cons_of_mem _ h1, h2⟩)
    have S := base.suite he hd na nL nF
    show wpAny _ X.A (handleBy (.ref a) X.env (c.ast :: cs.map Cl.ast)) _ _ _
    refine wpAny_handleBy_cons (codeAny_handlers_test ?_) (by intro q; cases q)
    have LT : PySem.W.Looks (model X.prog X.w) s'.heap (typeOf (.ref a)) cls := fun A Q E s k q => wpAny_typeOf_ref (k _ _ he) (by rw [hz.1]; exact q)
    have LM := PySem.W.exm_one (M := model X.prog X.w) base.kIn LT hb
    have tst : ∀ {Q : Value → Shared → Prop} {E : Value → Shared → Prop}, Q c.c s' → wpAny (model X.prog X.w) (X.A.mark (some (.ref a))) (eval (.Name c.x c.np) X.env) Q E s' := fun {Q E} q => by
      obtain ⟨hg, hdbg, hm | ⟨hm, hv, hnn⟩⟩ := co.nm
      · exact ld_glob (X := X.suite a ((a, oe) :: (X.pn ++ pins))) S hg hm q hdbg
      · exact ld_blt (X := X.suite a ((a, oe) :: (X.pn ++ pins))) S hg hm hv q hnn hdbg
    refine tst (LM.here ?_)
    cases b with
    | false => exact clauses_run ok hN hs hf J nb up fl na os ag cs (fun c' h' => hc c' (List.mem_cons_of_mem _ h')) (hno rfl)
    | true =>
      have y := hyes rfl a na
      cases hn : c.n with
      | none =>
        simp only [Cl.ends, Cl.bind, hn] at y
        simp only [Option.map_none]
        refine codeAny_handlers_suite ?_
        refine HandSPX.lands_againZ fl fun h4 fl4 up4 => ?_
        have J4 : Inv X pins σ H { s' with heap := h4 } := J.landed nb fl4.1 (up.trans up4) os ag
        obtain ⟨oe4, vs4, he4, hz4, hd4⟩ := fl4.there
        refine wpAny_mono ((co.su a oe4 cls d (X.pn ++ pins) hz4 ⟨_, hd4⟩).run [] _ σ H D (J4.suite he4 hd4 na nL nF) y) (fun f s6 hsp => ?_) (fun _ _ z => False.elim z)
        cases f with
        | next =>
          obtain ⟨σ6, H6, S6, q6⟩ := hsp
          exact ⟨_, _, S6.unsuite ok, q6⟩
        | brk =>
          obtain ⟨σ6, H6, S6, q6⟩ := hsp
          exact ⟨_, _, S6.unsuite ok, q6⟩
        | cont =>
          obtain ⟨σ6, H6, S6, q6⟩ := hsp
          exact ⟨_, _, S6.unsuite ok, q6⟩
        | ret u =>
          obtain ⟨v6, σ6, H6, S6, r6, q6⟩ := hsp
          exact ⟨_, _, _, S6.unsuite ok, r6, q6⟩
      | some p =>
        obtain ⟨n, i⟩ := p
        obtain ⟨hi, hln⟩ := co.as_ n i hn
        simp only [Cl.ends, Cl.bind, hn] at y
        simp only [Option.map_some]
        refine codeAny_handlers_suite_as ?_
        refine HandSPX.lands_againZ fl fun h4 fl4 up4 => ?_
        have J4 : Inv X pins σ H { s' with heap := h4 } := J.landed nb fl4.1 (up.trans up4) os ag
        obtain ⟨oe4, vs4, he4, hz4, hd4⟩ := fl4.there
        refine store_ok (X := X.suite a ((a, oe4) :: (X.pn ++ pins))) (v := .ref a) (J4.suite he4 hd4 na nL nF) hN hi (.inl hln) rfl (fun s5 S5 => ?_) (.inr hln)
        refine wpAny_mono ((co.su a oe4 cls d (X.pn ++ pins) hz4 ⟨_, hd4⟩).run [] s5 _ H _ S5 y) (fun f s6 hsp => ?_) (fun _ _ z => False.elim z)
        have gone : ∀ {σ6 : L2.St} {H6 : Hp} {Q : Shared → Prop}, Inv (X.suite a ((a, oe4) :: (X.pn ++ pins))) [] σ6 H6 s6 → (∀ s7, Inv X pins (σ6.set i none) H6 s7 → Q s7) →
            wpAny (model X.prog X.w) X.A (do bindName X.env n .none; unbindBehindTheSuite X.env n c.pos) (fun _ s7 => Q s7) X.xe s6 := fun {σ6 H6 Q} S6 hq => gone_ok (S6.unsuite ok) hN hi hln hq
        cases f with
        | next =>
          obtain ⟨σ6, H6, S6, q6⟩ := hsp
          exact gone S6 fun s7 J7 => ⟨_, _, J7, q6⟩
        | brk =>
          obtain ⟨σ6, H6, S6, q6⟩ := hsp
          exact gone S6 fun s7 J7 => ⟨_, _, J7, q6⟩
        | cont =>
          obtain ⟨σ6, H6, S6, q6⟩ := hsp
          exact gone S6 fun s7 J7 => ⟨_, _, J7, q6⟩
        | ret u =>
          obtain ⟨v6, σ6, H6, S6, r6, q6⟩ := hsp
          exact gone S6 fun s7 J7 => ⟨_, _, _, J7, r6, q6⟩
/-- try: body, clauses -/
theorem try_many {body : List Stmt} {tb : WX → TS} {pos : Pos} (hs : X.stack = X.env :: X.outer) (hf : X.env.frame = some X.env.locals) (hN : X.N.Nodup) (cs : List Cl) (hc : ∀ c ∈ cs, ClOk X c) (hne : cs ≠ [])
    (hb : ∀ (W : WX) (pn : List (Addr × Obj)) (xe : Value → Shared → Prop), Takes (X.tr pn xe) W → PassesOwn (model X.prog X.w) X.A X.env xe → PSs (X.tr pn xe) body (tb W)) :
    PS X (.Try body (cs.map Cl.ast) [] [] pos) (fun D σ H => tb (wMany X.K D cs) D σ H) := by
  refine ⟨fun pins s σ H D I h => ?_⟩
  have ok := I.ok
  have hfr : X.A.frames = some (X.env :: X.outer) := by rw [ok.frames, hs]
  cases cs with
  | nil => exact absurd rfl hne
  | cons c cs =>
    refine wpAny_Try_except ?_
    refine wpAny_mono ((hb (wMany X.K D (c :: cs)) (X.pn ++ pins) (fun e s₁ => wpAny (model X.prog X.w) X.A (noteFrame e X.env) (fun _ s₂ => wpAny (model X.prog X.w) X.A (setFlight e none) (fun _ s₃ =>
      wpAny (model X.prog X.w) X.A (handleBy e X.env ((c :: cs).map Cl.ast)) (SP X pins D) X.xe s₃) X.xe s₂) X.xe s₁) (fun u s' xx => ?_) PassesOwn.looking).run [] s σ H D (I.toTry _) h) (fun f s1 hsp => ?_) (fun e s1 he => he)
    · obtain ⟨a, B, sI, pins', σ', H', cls, d, rfl, J', nb, up, sky, na, os, ag, w⟩ := xx
      have J : Inv X pins σ' H' sI := J'.ofTry ok
      have sky' : Sky B (X.env :: X.outer) a (Zc cls d) X.env.locals s'.heap := by rw [← hs]; exact sky
      show wpAny (model X.prog X.w) X.A (noteFrame (.ref a) X.env) _ _ _
      refine Sky.land Zc.steady hfr hf sky' fun h3 fl3 up3 => ?_
      exact clauses_run (s' := { s' with heap := h3 }) ok hN hs hf J nb (up.trans up3) fl3 na os ag (c :: cs) hc w
    · cases f with
      | next =>
        obtain ⟨σ', H', J', q⟩ := hsp
        exact wpAny_execs_nil ⟨σ', H', J'.ofTry ok, q⟩
      | brk =>
        obtain ⟨σ', H', J', q⟩ := hsp
        exact ⟨σ', H', J'.ofTry ok, q⟩
      | cont =>
        obtain ⟨σ', H', J', q⟩ := hsp
        exact ⟨σ', H', J'.ofTry ok, q⟩
      | ret u =>
        obtain ⟨v, σ', H', J', r, q⟩ := hsp
        exact ⟨v, σ', H', J'.ofTry ok, r, q⟩
end
end Ev
end
end

/-! part EvAE -/
section
set_option Elab.async false
set_option linter.all false
set_option maxRecDepth 100000
set_option maxHeartbeats 4000000
/-! EvAE: repr of a letter. -/
noncomputable section
namespace Ev
open PySem PySem.Spec PyProof.Rows L2

section
variable {X : Cx} {pins : List (Addr × Obj)} {σ : L2.St} {H : Hp} {s : Shared} {W : Addr → Prop}
mutual
theorem reads_of (I : Inv X pins σ H s) : ∀ {d : D} {v : V} {u : Value} {p : PyData}, RD0 X.K W H d v → RelV v u → toPy d = some p → p.hasDict = false → ∃ as, Reads s.heap u p as
  | .non, v, u, p, h, r, e, _ => by
    have ev : v = .non := h
    subst ev
    cases e
    cases r
    exact ⟨_, .none⟩
  | .bl b, v, u, p, h, r, e, _ => by
    have ev : v = .bl b := h
    subst ev
    cases e
    cases r
    exact ⟨_, .bool b⟩
  | .int i, v, u, p, h, r, e, _ => by
    have ev : v = .int i := h
    subst ev
    cases e
    obtain ⟨t, rfl⟩ := r
    exact ⟨_, .int i t⟩
  | .str x, v, u, p, h, r, e, _ => by
    have ev : v = .str x := h
    subst ev
    cases e
    obtain ⟨t, rfl⟩ := r
    exact ⟨_, .str x t⟩
  | .tup l, v, u, p, ⟨a, xs, ev, q, rl⟩, r, e, hd => by
    subst ev
    cases r
    obtain ⟨its, rv, pt, _⟩ := I.tuple q
    have e' : (toPys l).map PyData.tuple = some p := e
    cases el : toPys l with
    | none => rw [el] at e'; cases e'
    | some ps =>
      rw [el] at e'
      cases e'
      obtain ⟨as, hr⟩ := readsAll_of I rl rv el (by simpa [PyData.hasDict] using hd)
      obtain ⟨o, ho, hc, n, hdt⟩ := pt
      exact ⟨as, .tuple ho hc hdt (by simpa using hr)⟩
  | .fl l, v, u, p, ⟨a, xs, ev, q, _, rl⟩, r, e, hd => by
    subst ev
    cases r
    obtain ⟨its, n, rv, ho, _⟩ := I.lst q
    have e' : (toPys l).map PyData.list = some p := e
    cases el : toPys l with
    | none => rw [el] at e'; cases e'
    | some ps =>
      rw [el] at e'
      cases e'
      obtain ⟨as, hr⟩ := readsAll_of I rl rv el (by simpa [PyData.hasDict] using hd)
      exact ⟨a :: as, .list ho rfl rfl (by simpa using hr)⟩
  | .fd ks vs, v, u, p, h, r, e, hd => by
    have e' : (toPys vs).map (fun ps => PyData.dict ((ks.map fun k => match k with | .inl i => PyData.int i | .inr x => PyData.str x).zip ps)) = some p := e
    cases el : toPys vs with
    | none => rw [el] at e'; cases e'
    | some ps =>
      rw [el] at e'
      cases e'
      simp [PyData.hasDict] at hd
  | .unb, _, _, _, h, _, _, _ => h.elim
  | .ty _, _, _, _, _, _, e, _ => by cases e
  | .ref _, _, _, _, h, _, _, _ => h.elim
  | .glob _, _, _, _, h, _, _, _ => h.elim
  | .sym _, _, _, _, h, _, _, _ => h.elim
  | .rep _, _, _, _, h, _, _, _ => h.elim
  | .tm _, _, _, _, h, _, _, _ => h.elim
  | .xo _ _, _, _, _, h, _, _, _ => h.elim
theorem readsAll_of (I : Inv X pins σ H s) : ∀ {ds : List D} {vs : List V} {us : List Value} {ps : List PyData}, RD0s X.K W H ds vs → Vals vs us → toPys ds = some ps → PyData.hasDictAll ps = false → ∃ as, ReadsAll s.heap us ps as
  | [], vs, us, ps, h, r, e, _ => by
    have ev : vs = [] := h
    subst ev
    cases r
    cases e
    exact ⟨_, .nil⟩
  | d :: ds, vs, us, ps, ⟨x, t, ev, h1, h2⟩, r, e, hd => by
    subst ev
    cases r with
    | cons r1 r2 =>
      have e' : (match toPy d, toPys ds with | some p, some ps => some (p :: ps) | _, _ => none) = some ps := e
      split at e'
      · rename_i p ps' e1 e2
        cases e'
        have hd' : (p.hasDict || PyData.hasDictAll ps') = false := hd
        rw [Bool.or_eq_false_iff] at hd'
        obtain ⟨as, q1⟩ := reads_of I h1 r1 e1 hd'.1
        obtain ⟨bs, q2⟩ := readsAll_of I h2 r2 e2 hd'.2
        exact ⟨as ++ bs, .cons q1 q2⟩
      · cases e'
end
end

/-! ### repr -/
/-- the empty dict, read -/
theorem reads_nil {X : Cx} {pins : List (Addr × Obj)} {σ : L2.St} {H : Hp} {s : Shared} {a : Addr} (I : Inv X pins σ H s) (h : H a = some (.dT []) ∨ H a = some (.dK [])) : Reads s.heap (.ref a) (.dict []) [a] ∧ sysModules ∉ [a] := by
  have fin : (a == sysModules) = false → sysModules ∉ [a] := fun e hm => by
    rw [List.mem_singleton] at hm
    rw [hm] at e
    simp at e
  have mk : ∀ {o : Obj} {es : Array DictEntry} {ep : Nat}, s.heap.get? a = some o → o.ExactDict → o.data = .dict es ep → es.toList = [] → Reads s.heap (.ref a) (.dict []) [a] := fun {o es ep} e1 e2 e3 e4 => by
    have q := Reads.dict (h := s.heap) (a := a) (kvs := []) (as := []) (bs := []) e1 e2.1 e3 (by rw [e4]; exact .nil) (by rw [e4]; exact .nil)
    simpa using q
  rcases h with h | h
  · obtain ⟨_, hs, xs, hp, o, es, ep, e1, e2, e3, e4, _⟩ := I.hok a _ h
    cases hp
    exact ⟨mk e1 e2 e3 (by simpa using e4), fin hs⟩
  · obtain ⟨_, hs, vs, hv, o, es, ep, e1, e2, e3, _, e5, _⟩ := I.hok a _ h
    cases hv
    refine ⟨mk e1 e2 e3 ?_, fin hs⟩
    generalize es.toList = l at e5
    cases e5
    rfl
/-- what repr takes and gives -/
def rRepr (K : PySem.W.Frag) : List V → Hp → VK → Prop := fun xs H Q => ∃ v d W p, xs = [v] ∧ RD0 K W H d v ∧ toPy d = some p ∧ p.showable = true ∧ p.shown.length ≤ sizeLine ∧ p.depth ≤ 60 ∧ (∀ n, d = .int n → n.natAbs.log2 < 1920) ∧ (p.hasDict = true → d = .fd [] []) ∧ Q (.str p.shown) H
theorem call_repr {X : Cx} (hu : X.A.units + 200 < cLine) (hg : X.A.guards = some []) : CallR X (.builtin "repr") (rRepr X.K) := by
  rintro pins s σ H xs us Q I r ⟨v, d, W, p, rfl, h0, hp, hs, hz, hd, hi, hdc, q⟩
  cases r with
  | cons r1 r2 =>
  cases r2
  rename_i u
  have byR : ∀ {a : Addr} {as : List Addr}, Reads s.heap (.ref a) p as → (p.hasDict = true → sysModules ∉ as) → wpAny (model X.prog X.w) X.A (call (.builtin "repr") [.ref a]) (EP X pins σ Q) X.xe s := fun {a as} rr hsm =>
    repr_of_reads' rr hs hsm hg (by omega) (fun _ _ e => e) (fun h' u tk hk => ⟨.str p.shown, H, I.kept hk, ⟨_, rfl⟩, q⟩) hz
  cases e : p.hasDict with
  | true =>
    have ed := hdc e
    subst ed
    obtain ⟨a, ev, _, hh⟩ := h0
    subst ev
    cases r1
    have h' : H a = some (.dT []) ∨ H a = some (.dK []) := by
      rcases hh with ⟨_, _, q⟩ | ⟨ws, q, _, _⟩
      · exact .inl q
      · exact .inr (by simpa using q)
    obtain ⟨rr, hn⟩ := reads_nil I h'
    have ep : p = .dict [] := (Option.some.inj (hp.symm.trans (show toPy (.fd [] []) = some (.dict []) from rfl)))
    subst ep
    exact byR rr fun _ => hn
  | false =>
    obtain ⟨as, rr⟩ := reads_of I h0 r1 hp e
    cases rr with
    | none => exact PySem.P.repr_of_none ⟨.str _, H, I.tok _, ⟨_, rfl⟩, q⟩
    | bool b =>
      refine PySem.P.repr_of_bool ⟨.str _, H, I.tok _, ⟨_, rfl⟩, ?_⟩
      simpa only [PyData.shown] using q
    | int i t =>
      refine PySem.P.repr_of_int ?_ ⟨.str _, H, I.tok _, ⟨_, rfl⟩, ?_⟩
      · simpa [PyData.showable] using hs
      · simpa only [PyData.shown] using q
    | str x t =>
      refine PySem.P.repr_of_str ⟨.str _, H, I.tok _, ⟨_, rfl⟩, ?_⟩ ?_
      · simpa only [PyData.shown] using q
      · simpa only [PyData.shown] using hz
    | list h1 h2 h3 h4 => exact byR (.list h1 h2 h3 h4) fun z => absurd (e.symm.trans z) Bool.false_ne_true
    | tuple h1 h2 h3 h4 => exact byR (.tuple h1 h2 h3 h4) fun z => absurd (e.symm.trans z) Bool.false_ne_true
    | dict h1 h2 h3 h4 h5 => exact byR (.dict h1 h2 h3 h4 h5) fun z => absurd (e.symm.trans z) Bool.false_ne_true
/-- the letter n, with all that is known of it -/
theorem sym_repr {B : Bs} {m : Md} {s : S} {H : Hp} {n : Nat} {v : V} {Q : VK} (ar : AR B m s H) (r : RDw B m s H (.sym n) v) (q : ∀ w, RDw B m s H (.rep (.sym n)) w → Q w H) : rRepr B.K [v] H Q := by
  obtain ⟨h1, h2⟩ := r
  obtain ⟨⟨p, hp⟩, hk⟩ := B.kdr n _ (ar.lets n h1)
  obtain ⟨a1, a2, a3, a4, a5, a6⟩ := hk p hp
  exact ⟨v, _, _, p, rfl, h2, hp, a2, Nat.le_trans a3 (by rw [sizeLine_eq]; decide), a4, a5, a6, q _ ⟨h1, _, txt_py hp, rfl⟩⟩
/-- .. behind a text -/
theorem cat_rd {B : Bs} {m : Md} {s : S} {H : Hp} {n : Nat} {w : Str} {v : V} (ar : AR B m s H) (r : RDw B m s H (.rep (.sym n)) v) : ∃ x, v = .str x ∧ x.length ≤ 1000000 ∧ RDw B m s H (.rep (.tup [.unb, .str w, .sym n])) (.str (w ++ x)) := by
  obtain ⟨h1, x, h2, h3⟩ := r
  obtain ⟨⟨p, hp⟩, hk⟩ := B.kdr n _ (ar.lets n h1)
  have e : txt (m.ν n) = some x := h2
  rw [txt_py hp] at e
  cases e
  refine ⟨p.shown, h3, (hk p hp).2.2.1, ⟨True.intro, True.intro, h1, True.intro⟩, _, ?_, rfl⟩
  show (toPy (m.ν n)).map (fun p => w ++ p.shown) = _
  rw [hp]
  rfl
def isSym (u : D) (k : Nat → Bool) : Bool := match u with
  | .sym n => k n
  | _ => false
theorem isSym_ok {u : D} {k : Nat → Bool} (h : isSym u k = true) : ∃ n, u = .sym n ∧ k n = true := by
  cases u with
  | sym n => exact ⟨n, rfl, h⟩
  | _ => exact absurd (show false = true from h) Bool.false_ne_true
def xRepr (a : XE) : XE := fun e s k x => a e s (fun u s1 => isSym u fun n => k (.rep (.sym n)) s1) x
theorem x_repr {B : Bs} {c : SI} {E : XK} {X : Cx} {ea : Expr} {p pos : Pos} {xa : XE} (C : Cok B c E X) (hgd : c.gd = true) (hg : c.sc.names.lookup ("repr" : Str) = some .globalImplicit) (hm : B.mg ("repr" : Str) = none) (ha : PE X ea (TX B E xa))
    (he : starEach [ea] X.env = (false, eval ea X.env) :: starEach [] X.env) : PE X (.Call (.Name ("repr" : Str) p) [ea] [] pos) (TX B E (xRepr xa)) := by
  have hu : X.A.units + 200 < cLine := by have := C.room.un; omega
  refine wkE (pe_callB (call_repr hu (C.grd hgd)) (C.gl hg) (by rw [C.mg]; exact hm) rfl (pa_cons ha pa_nil he) (by decide) (by decide) he rfl) fun σ H Q ⟨m, s, env, k, kx, ar, er, hx, hk, hkx⟩ => ?_
  refine ⟨m, s, env, _, kx, ar, er, hx, fun u m1 s1 H1 v p1 a1 r1 h1 => ?_, hkx⟩
  obtain ⟨n, rfl, h2⟩ := isSym_ok h1
  rw [C.K]
  exact sym_repr a1 r1 fun w r2 => hk (.rep (.sym n)) m1 s1 H1 w p1 a1 r2 h2
def xCatR (w : Str) (a : XE) : XE := fun e s k x => a e s (fun u s1 => isSym u fun n => grd (Nat.ble w.length 1000000) (k (.rep (.tup [.unb, .str w, .sym n])) s1)) x
theorem cat_len {w x : Str} (h : w.length ≤ 1000000) (h2 : x.length ≤ 1000000) : w.length + x.length ≤ sizeLine := by
  rw [sizeLine_eq]
  omega
theorem x_catr {B : Bs} {c : SI} {E : XK} {X : Cx} {ea : Expr} {w : Str} {j : Nat} {p p1 pos pos2 : Pos} {xa : XE} (C : Cok B c E X) (hgd : c.gd = true) (hg : c.sc.names.lookup ("repr" : Str) = some .globalImplicit) (hm : B.mg ("repr" : Str) = none) (ha : PE X ea (TX B E xa))
    (he : starEach [ea] X.env = (false, eval ea X.env) :: starEach [] X.env) : PE X (.BinOp (.Constant (.str w) j p1) .Add (.Call (.Name ("repr" : Str) p) [ea] [] pos) pos2) (TX B E (xCatR w xa)) := by
  have hu : X.A.units + 200 < cLine := by have := C.room.un; omega
  have R := pe_callB (pos := pos) (p := p) (call_repr hu (C.grd hgd)) (C.gl hg) (by rw [C.mg]; exact hm) rfl (pa_cons ha pa_nil he) (by decide) (by decide) he rfl
  refine wkE (pe_op op_add_str (pe_str (x := w) (j := j) (pos := p1)) R) fun σ H Q ⟨m, s, env, k, kx, ar, er, hx, hk, hkx⟩ => ?_
  refine ⟨m, s, env, _, kx, ar, er, hx, fun u m1 s1 H1 v p2 a1 r1 h1 => ?_, hkx⟩
  obtain ⟨n, rfl, h2⟩ := isSym_ok h1
  obtain ⟨c1, h3⟩ := grd_ok h2
  rw [C.K]
  refine sym_repr (Q := fun y H2 => ∃ i j, V.str w = .str i ∧ y = .str j ∧ i.length + j.length ≤ sizeLine ∧ Q (.str (i ++ j)) H2) a1 r1 fun t r2 => ?_
  obtain ⟨x, rfl, lx, r3⟩ := cat_rd (w := w) a1 r2
  exact ⟨w, x, rfl, rfl, cat_len (Nat.le_of_ble_eq_true c1) lx, hk _ m1 s1 H1 _ p2 a1 r3 h3⟩
end Ev
end
end

/-! part EvAM -/
section
set_option Elab.async false
set_option linter.all false
set_option maxRecDepth 100000
set_option maxHeartbeats 4000000
/-! EvAM: a lambda with one parameter that has an int for its default, handed to a def that calls it bare. -/
noncomputable section
namespace Ev
open PySem PySem.Spec PyProof.Rows L2

section
variable {M : Model} {A : Around} {E : Value → Shared → Prop} {s : Shared} {name qual : Str} {params : Arguments} {body : FuncBody} {scope : Scope} {env : Env} {pos : Pos} {ln : Nat}
theorem mk_tup {dv : List Value} {Q : Value → Shared → Prop} (hne : dv.isEmpty = false) (h : wpAny M A (makeTail name qual params body scope env (.ref s.heap.objs.size) .none none pos ln) Q E { s with heap := s.heap.push (PySem.W.kdv_tup dv) }) :
    wpAny M A (makeFunction name qual params body scope env dv [] [] pos ln) Q E s := by
  rw [makeFunction_eq]
  simp only [List.zip_nil_right, List.filterMap_nil, List.isEmpty_nil, if_true, pure_bind, hne, Bool.false_eq_true, if_false]
  exact wpAny_bind (wpAny_newTextTuple h)
end
/-- the lambda's function object -/
abbrev lamO (X : Cx) (params : Arguments) (body : Expr) (scope : Scope) (T0 : Addr) (doc pm : Value) (c' : Addr) (ctv : Value) : Obj := PySem.W.kdv_obj "<lambda>" (X.env.qual ++ "<lambda>") params (.expr body) scope (cloFrom X.env.cells scope.names []) (.ref T0) doc pm c' ctv
section
variable {X : Cx} {pins : List (Addr × Obj)} {σ : L2.St} {H HZ : Hp} {s s1 : Shared}
theorem far_frs (I : Inv X pins σ H s) {f : Addr} (hf : s.heap.objs.size ≤ f) : f ∉ frs X.stack := fun z => by
  rcases List.mem_cons.mp (I.stkSub _ z) with e | e
  · have l := I.lt
    rw [← e] at l
    exact absurd (Nat.lt_of_lt_of_le l hf) (Nat.lt_irrefl _)
  · exact I.nofs hf e
theorem lamD_make {T : List (Addr × Str)} {c P : Addr} {params : Arguments} {body : Expr} {scope : Scope} {pos p0 : Pos} {i0 : Int} {k0 : Nat} {E : Value → Shared → Prop} {Q : Value → Shared → Prop} (I : Inv X pins σ H s) (TB : LamX.TabB X.base X.mg c P) (hcode : X.env.code = .ref c)
    (hm : (P, X.env.qual ++ "<lambda>") ∈ T) (hu : ∀ p ∈ T, p.1 = P → p.2 = X.env.qual ++ "<lambda>") (hT : LamX.Tabs T H) (hd : params.defaults = [.Constant (.int i0) k0 p0]) (hk : params.kw_defaults = []) (hfree : ∀ y ∈ scope.names, y.2 = .free → ∃ c, X.env.cells.lookup y.1 = some c)
    (h : ∀ (f T0 c' : Addr) (t : Tok) (doc pm ctv : Value) (H1 : Hp) (s' : Shared), Inv X pins σ H1 s' → LamX.ExtN H H1 → LamX.Tabs T H1 → s'.heap.get? f = some (lamO X params body scope T0 doc pm c' ctv) → s'.heap.get? T0 = some (PySem.W.kdv_tup [.int i0 t]) →
      H1 f = none → H1 T0 = none → f ∉ frs X.stack → T0 ∉ frs X.stack → H1 c' = some (LamX.CodeO c' (X.env.qual ++ "<lambda>")) → Q (.ref f) s') :
    wpAny (model X.prog X.w) X.A (eval (.Lambda params body scope pos) X.env) Q E s := by
  refine PySem.W.kdv_lam (by rw [hd]; rfl) hk ?_
  rw [hd]
  refine PySem.W.kdv_all1 ?_
  have hq : ∀ {R : Value → Shared → Prop}, (∀ (t : Tok) (s1 : Shared), Inv X pins σ H s1 → R (.int i0 t) s1) → wpAny (model X.prog X.w) X.A (eval (.Constant (.int i0) k0 p0) X.env) R E s := fun {R} hR => by
    have I' := I.wish E
    exact wpAny_mono ((pe_int (X := X.wish E) (i := i0) (j := k0) (pos := p0)).run pins s σ H (fun v H1 => v = .int i0 ∧ H1 = H) I' ⟨rfl, rfl⟩) (fun u s1 ⟨v, H1, I1, r1, ev, eH⟩ => by
      subst ev eH
      obtain ⟨t, rfl⟩ := r1
      exact hR t s1 I1.unwish) fun _ _ z => z
  refine hq fun t s1 I1 => PySem.W.kdv_all0 (mk_tup rfl ?_)
  generalize hT0 : s1.heap.objs.size = T0
  generalize hs2 : ({ s1 with heap := s1.heap.push (PySem.W.kdv_tup [.int i0 t]) } : Shared) = s2
  have gT : s2.heap.get? T0 = some (PySem.W.kdv_tup [.int i0 t]) := by
    rw [← hs2, ← hT0]
    exact Heap.get?_push_size _ rfl
  have I2 : Inv X pins σ H s2 := by
    rw [← hs2]
    exact I1.kept (t' := s1.toks) fun b o e => Heap.get?_push_of_some _ e
  have nT : H T0 = none := I1.hok.fresh (Nat.le_of_eq hT0)
  have fT : T0 ∉ frs X.stack := far_frs I1 (Nat.le_of_eq hT0)
  clear hs2 hT0
  obtain ⟨tri, gP, okT, inT⟩ := hT _ hm
  have bP := TB.bm.keeps I2.bk
  have oP : s2.heap.get? P = some { cls := .none, data := .fields tri } := I2.hok P _ gP
  have PT : P ≠ T0 := fun z => by
    rw [z, nT] at gP
    cases gP
  cases am : codeAmong pos tri.toList with
  | none =>
    refine PySem.W.kdv_makeTail (mg := X.mg) (c := c) (P := P) (ps := tri) (closure_ok hfree) I2.ok.glob (I2.mod.glob.keeps I2.bk) hcode (TB.code.keeps I2.bk) oP okT am TB.gP bP fun c' ctv doc h' tk ext above below rec_ tab => ?_
    obtain ⟨c2, oc, vs, tt, ec, goc, dc, vq⟩ := rec_
    cases ec
    have big : s2.heap.objs.size ≤ h'.objs.size := Nat.le_trans above (Nat.le_of_lt below)
    have freshC : H c' = none := I2.hok.fresh above
    have J := LamX.inv_table (t' := tk) (more := #[rawInt pos.line, rawInt pos.col, .ref c']) (h' := h'.push (lamO X params body scope T0 doc ((X.mg "__name__").getD .none) c' ctv)) I2 gP
      (fun b o nb e => Heap.get?_push_of_some _ (ext b o nb e)) (Heap.get?_push_of_some _ tab) above ⟨oc, vs, tt, Heap.get?_push_of_some _ goc, dc, vq⟩
    have only : LamX.ExtN H (upd (upd H P (.tbl (tri ++ #[rawInt pos.line, rawInt pos.col, .ref c']))) c' (LamX.CodeO c' (X.env.qual ++ "<lambda>"))) := fun b o e n => by
      rw [upd_ne (ne_of_none e freshC), upd_ne (fun z => by rw [z, gP] at e; exact n tri (Option.some.inj e).symm)]
      exact e
    have asL : (tri ++ #[rawInt pos.line, rawInt pos.col, .ref c']).toList = tri.toList ++ [rawInt pos.line, rawInt pos.col, .ref c'] := by simp
    have offT : ∀ b, b ≠ P → b ≠ c' → upd (upd H P (.tbl (tri ++ #[rawInt pos.line, rawInt pos.col, .ref c']))) c' (LamX.CodeO c' (X.env.qual ++ "<lambda>")) b = H b := fun b n1 n2 => by rw [upd_ne n2, upd_ne n1]
    have lT : T0 < s2.heap.objs.size := Heap.lt_size gT
    refine h h'.objs.size T0 c' t doc ((X.mg "__name__").getD .none) ctv _ _ J only (fun p hp => ?_) (Heap.get?_push_size _ rfl) (Heap.get?_push_of_some _ (ext T0 _ (Ne.symm PT) gT)) ?_ ?_ (far_frs I2 big) fT upd_same
    · by_cases eb : p.1 = P
      · rw [hu p hp eb, eb]
        refine ⟨_, by rw [upd_ne (ne_of_none gP freshC), upd_same], by rw [asL]; exact PySem.TriplesOk_snoc _ _ _ _ okT, fun p' cv hcv => ?_⟩
        rw [asL] at hcv
        rcases LamX.among_app _ okT hcv with z | z
        · obtain ⟨c3, z1, z2⟩ := inT p' cv z
          exact ⟨c3, z1, only _ _ z2 LamX.codeO_ne⟩
        · exact ⟨c', z, upd_same⟩
      · obtain ⟨ps', z1, z2, z3⟩ := hT p hp
        refine ⟨ps', by rw [upd_ne (ne_of_none z1 freshC), upd_ne eb]; exact z1, z2, fun p' cv hcv => ?_⟩
        obtain ⟨c3, w1, w2⟩ := z3 p' cv hcv
        exact ⟨c3, w1, only _ _ w2 LamX.codeO_ne⟩
    · rw [offT _ (Nat.ne_of_gt (Nat.lt_of_lt_of_le (Heap.lt_size oP) big)) (Nat.ne_of_gt below)]
      exact I2.hok.fresh big
    · rw [offT _ (Ne.symm PT) (Nat.ne_of_lt (Nat.lt_of_lt_of_le lT above))]
      exact nT
  | some cv =>
    obtain ⟨c', ec, kn⟩ := inT pos cv am
    subst ec
    refine PySem.W.kdv_makeTailHit (mg := X.mg) (c := c) (P := P) (ps := tri) (closure_ok hfree) I2.ok.glob (I2.mod.glob.keeps I2.bk) hcode (TB.code.keeps I2.bk) oP okT am bP fun ctv doc h' tk ext big => ?_
    have J : Inv X pins σ H { s2 with heap := h'.push (lamO X params body scope T0 doc ((X.mg "__name__").getD .none) c' ctv), toks := tk } := I2.kept fun b o e => Heap.get?_push_of_some _ (ext b o e)
    exact h h'.objs.size T0 c' t doc ((X.mg "__name__").getD .none) ctv H _ J (LamX.ExtN.refl H) hT (Heap.get?_push_size _ rfl) (Heap.get?_push_of_some _ (ext T0 _ gT)) (I2.hok.fresh big) nT (far_frs I2 big) fT kn
end
/-! ### its names -/
/-- captured names, globals, the one parameter d, which is none of the slots -/
structure LamD (N : List Str) (sc scope : Scope) (d : Str) : Prop where
  kind : scope.kind = .function
  co : scope.isCoroutine = false
  gen : scope.isGenerator = false
  own : ∀ y ∈ scope.names, y.2 ≠ .cell ∧ (y.2 = .local → y.1 = d)
  free : ∀ y ∈ scope.names, y.2 = .free → sc.names.lookup y.1 = some .cell ∨ sc.names.lookup y.1 = some .free
  par : scope.names.lookup d = some .local
  out : d ∉ N
theorem LamD.has {X : Cx} {N : List Str} {scope : Scope} {d : Str} (L : LamD N X.env.scope scope d) (ok : X.Ok) : ∀ y ∈ scope.names, y.2 = .free → ∃ c, X.env.cells.lookup y.1 = some c := fun y hy e => by
  rcases L.free y hy e with k | k
  · exact ok.has _ (.inl k)
  · exact ok.has _ (.inr k)
section
variable {X : Cx} {pins : List (Addr × Obj)} {σ : L2.St} {H HZ : Hp} {s s1 : Shared}
theorem clo_cell {scope : Scope} {N : List Str} {d : Str} (L : LamD N X.env.scope scope d) (ok : X.Ok) {y : Str} {c : Addr} (e : (cloFrom X.env.cells scope.names []).lookup y = some c) : X.env.cells.lookup y = some c := by
  rcases cloFrom_mem (PySem.mem_of_lookup e) with z | ⟨z1, z2⟩
  · cases z
  · obtain ⟨c1, q⟩ := L.has ok _ z1 rfl
    have q : X.env.cells.lookup y = some c1 := q
    have e2 : c = c1 := by
      rw [z2, q] <;> rfl
    rw [e2]
    exact q
theorem clo_there {cells : List (Str × Addr)} {scope : Scope} {y : Str} (e : scope.names.lookup y = some .free) : ∃ c, (cloFrom cells scope.names []).lookup y = some c := by
  have hy : (y, NameKind.free) ∈ scope.names := PySem.mem_of_lookup e
  exact mem_lookup (cloFrom_has (cells := cells) (acc := []) hy)
/-- the body's start -/
theorem lamD_start {A : Around} {outer : List Env} {E : XK} {scope : Scope} {d : Str} {v0 : Value} {f c' : Addr} {h₁ : Heap} {tk : Nat} (I : Inv X pins σ H s) (L : LamD X.N X.env.scope scope d) (e0 : Env0 X.prog X.w X.K X.mg X.base A outer s1 HZ) (hd : A.handled = none)
    (un : Un (frs X.stack) [] H HZ s.heap s1.heap) (hns : h₁.Ns s1.heap.objs.size fun y => ([(d, v0)] : List (Str × Value)).reverse.lookup y) (kp : ∀ b o, s1.heap.get? b = some o → h₁.get? b = some o) :
    Inv (LamX.lamCx X A outer s1 HZ E scope f c') [] σ HZ { s1 with heap := h₁, toks := tk } := by
  have old : ∀ {c : Addr} {v : Option Value}, H c = none → s.heap.IsCell c v → h₁.IsCell c v := fun {c v} n ⟨o, ho, q⟩ => by
    obtain ⟨sl, z⟩ := un.any ho n (by simp)
    exact ⟨_, kp _ _ z, q⟩
  have none_ : ∀ b : Addr, b ∉ (LamX.lamCx X A outer s1 HZ E scope f c').ex := fun b z => by cases z
  have okX : (LamX.lamCx X A outer s1 HZ E scope f c').Ok := by
    refine ⟨e0.mod, L.kind, rfl, rfl, Nat.le_refl _, fun y z c q1 q2 => I.ok.inj y z c (clo_cell L I.ok q1) (clo_cell L I.ok q2), fun y hy => ?_, fun y c q _ => ?_, fun _ => hd, Around.frames_deeper e0.frames, .inr ⟨rfl, rfl⟩, fun b z => absurd z (none_ b), e0.bs, e0.bsz, fun b _ _ => none_ b,
      fun b z => absurd z (none_ b), e0.funs, e0.frf⟩
    · rcases (show scope.names.lookup y = some .cell ∨ scope.names.lookup y = some .free from hy) with z | z
      · exact absurd rfl (L.own _ (PySem.mem_of_lookup z)).1
      · exact clo_there z
    · exact absurd (show false = true from q) Bool.false_ne_true
  refine ⟨okX, rfl, e0.bare, Un.kept kp, ⟨_, hns, fun i y v e1 e2 e3 => ?_⟩, fun y c e => ?_, e0.hok.fresh (Nat.le_refl _), fun y c e => ?_, fun q hq => (by cases hq), e0.hok.kept kp, I.len⟩
  · rcases (show Vis scope y from e3) with z | z | z
    · have ey := (L.own _ (PySem.mem_of_lookup z)).2 rfl
      have ey : y = d := ey
      rw [ey] at e1
      exact absurd (List.mem_of_getElem? e1) L.out
    · exact absurd rfl (L.own _ (PySem.mem_of_lookup z)).1
    · obtain ⟨m, _, hl⟩ := I.loc
      have seen : Vis X.env.scope y := (L.free _ (PySem.mem_of_lookup z) rfl).elim (fun k => .inr (.inl k)) (fun k => .inr (.inr k))
      obtain ⟨u, r, q⟩ := hl i y v e1 e2 seen
      obtain ⟨c2, h2⟩ := clo_there (cells := X.env.cells) z
      have c1 := clo_cell L I.ok h2
      refine ⟨u, r, .inr ⟨.inr z, c2, h2, ?_⟩⟩
      rcases q with ⟨k1, _⟩ | ⟨_, c3, k2, k3⟩
      · have k1 : X.env.scope.names.lookup y = some .local := k1
        rcases L.free _ (PySem.mem_of_lookup z) rfl with k2 | k2 <;> rw [show X.env.scope.names.lookup y = _ from k2] at k1 <;> cases k1
      · rw [c1] at k2
        cases k2
        exact old (I.freeC y _ c1) k3
  · obtain ⟨u, z⟩ := I.cell y c (clo_cell L I.ok e)
    exact ⟨u, old (I.freeC y c (clo_cell L I.ok e)) z⟩
  · obtain ⟨u, o, ho, _⟩ := I.cell y c (clo_cell L I.ok e)
    exact un.free c o ho (I.freeC y c (clo_cell L I.ok e)) (by simp)
/-- a(), in the def that got the lambda -/
theorem lamD_act {CXg : CXT} {Eg : XK} {Ng : List Str} {qg : Str} {sg : Scope} {g f T0 c' : Addr} {cdg doc pm ctv : Value} {params : Arguments} {body : Expr} {scope : Scope} {d : Str} {i0 : Int} {t0 : Tok} {k i : Nat} {a : Str} {pn : List (Addr × Obj)} {xe : Value → Shared → Prop} {W : WX} {E : XK} {tb : TE} {p1 p2 : Pos}
    (I : Inv X pins σ H s) (L : LamD X.N X.env.scope scope d) (hf : s.heap.get? f = some (lamO X params body scope T0 doc pm c' ctv)) (hT : s.heap.get? T0 = some (PySem.W.kdv_tup [.int i0 t0])) (nf : H f = none) (nT : H T0 = none) (rf : f ∉ frs X.stack) (rT : T0 ∉ frs X.stack)
    (hbind : ∀ (fd : FuncData), fd.params = params → ∃ kk : Option (Array Value) → Sem (List (Str × Value)), bindArgs fd ⟨[], []⟩ = seqItems? fd.defaults >>= kk ∧ ∀ v : Value, kk (some #[v]) = pure [(d, v)])
    (tk : Takes ((cxOf CXg X.prog X.w X.K X.mg X.base Ng qg sg g cdg X.A X.stack s H Eg).tr pn xe) W) (hW : ∀ cls d σ' H', E cls d H' → W cls d σ' H') (hr : Room (k + 1) (X.A.deeper (envOfC qg sg s.heap.objs.size g cdg)))
    (hbody : ∀ (A : Around) (outer : List Env) (s : Shared) (H : Hp), Room k (A.deeper (LamX.lamEnv X scope s.heap.objs.size f c')) → PE (LamX.lamCx X A outer s H E scope f c') body tb)
    (hN : Ng[i]? = some a) (hv : Vis sg a) (hd : (a == ("__debug__" : Str)) = false) (hcd : (a == ("__classdict__" : Str)) = false) :
    PE ((cxOf CXg X.prog X.w X.K X.mg X.base Ng qg sg g cdg X.A X.stack s H Eg).tr pn xe) (.Call (.Name a p1) [] [] p2)
      (fun σZ HZ Q => σZ[i]? = some (some (.ref f)) ∧ HZ c' = some (LamX.CodeO c' (X.env.qual ++ "<lambda>")) ∧ tb σ HZ Q) := by
  refine ⟨fun pinsZ sZ σZ HZ Q IZ ⟨z1, z2, z3⟩ => ?_⟩
  refine wpAny_Call_Name_kw (thn ((pe_var (pos := p1) (i := i) hN hv hd hcd).run pinsZ sZ σZ HZ (fun v H1 => v = .ref f ∧ H1 = HZ) IZ ⟨.ref f, z1, rfl, rfl⟩) fun u s1 ⟨v, H1, I1, r1, ev, eH⟩ => ?_)
  subst ev
  rw [eH] at I1
  obtain rfl : u = Value.ref f := r1
  have stay : ∀ {b : Addr} {o : Obj}, s.heap.get? b = some o → H b = none → b ∉ frs X.stack → s1.heap.get? b = some o := fun {b o} e n nr => I1.base.keep b o e n nr (fun z => nomatch (show b ∈ ([] : List Addr) from z))
  have gf := stay hf nf rf
  have gT := stay hT nT rT
  refine PySem.W.callWith_F0 ⟨_, _, _, _, gf⟩ ?_
  obtain ⟨⟨oc, vs, t, goc, dc, vq⟩, _, _⟩ := I1.hok c' _ z2
  have did : codeAny (model X.prog X.w) (X.A.deeper (envOfC qg sg s.heap.objs.size g cdg)) (.call (.ref f) ⟨[], []⟩) (CR (L2.CX X.prog X.w) (envOfC qg sg s.heap.objs.size g cdg :: X.stack) X.prog X.w HZ s1 Q E) s1 := by
    refine PySem.W.kla_callFunE hr.depth gf rfl L.co L.gen rfl ⟨c', oc, vs, t, rfl, goc, dc, vq⟩ ?_
    obtain ⟨kk, b1, b2⟩ := hbind (PySem.W.kdv_fn "<lambda>" (X.env.qual ++ "<lambda>") params (.expr body) scope (cloFrom X.env.cells scope.names []) (.ref T0) doc pm (.ref c') ctv) rfl
    have bt : BindsTo s1 (PySem.W.kdv_fn "<lambda>" (X.env.qual ++ "<lambda>") params (.expr body) scope (cloFrom X.env.cells scope.names []) (.ref T0) doc pm (.ref c') ctv) ⟨[], []⟩ [(d, .int i0 t0)] := BindsTo.of_defaults rfl gT rfl b1 (b2 _)
    refine bt _ _ _ _ ?_
    refine wpAny_newFunctionEnv (fun y hy => (L.own y hy).1) (fun y hy => ?_) (fun h₁ hns hsb => ⟨I1.nolimit.fresh _ hsb, ?_⟩) L.kind
    · rw [List.mem_singleton] at hy
      rw [hy]
      exact L.par
    show codeAny _ _ (.expr body (LamX.lamEnv X scope s1.heap.objs.size f c')) _ _
    have more : ∀ b o, s1.heap.get? b = some o → h₁.get? b = some o := fun b o e => hsb.extBut b o (Nat.ne_of_lt (Heap.lt_size e)) (Heap.get?_push_of_some _ e)
    have J := lamD_start (E := E) (f := f) (c' := c') (A := X.A.deeper (envOfC qg sg s.heap.objs.size g cdg)) (outer := envOfC qg sg s.heap.objs.size g cdg :: X.stack) (tk := s1.toks + ([(d, Value.int i0 t0)] : List (Str × Value)).length) I L I1.env0 hr.hd I1.base hns more
    refine PySem.W.kla_codeExpr (wpAny_mono ((hbody _ _ s1 HZ (hr.deeper _)).run [] _ _ HZ Q J z3) (fun v s' ⟨w', H', J', rv, q⟩ => ?_) fun e s' hq => hq)
    exact ⟨w', H', J'.os, J'.bare, J'.base, J'.hok, rv, q⟩
  have thr : Passes (L2.CX X.prog X.w) ((cxOf CXg X.prog X.w X.K X.mg X.base Ng qg sg g cdg X.A X.stack s H Eg).tr pn xe) E := passes_call tk hW
  refine wpAny_call (codeAny_mono did fun r s' hq => ?_)
  cases r with
  | error e => exact thr pinsZ σZ HZ s1 e s' I1 hq
  | ok fl =>
    cases fl with
    | ret u => exact I1.after hq
    | next => exact hq.elim
    | brk => exact hq.elim
    | cont => exact hq.elim
end
theorem bind_dflt {a0 : Arg} {e : Expr} {fd : FuncData} (h : fd.params = ⟨[], [a0], none, [], [], none, [e]⟩) : ∃ kk : Option (Array Value) → Sem (List (Str × Value)), bindArgs fd ⟨[], []⟩ = seqItems? fd.defaults >>= kk ∧ ∀ v : Value, kk (some #[v]) = pure [(a0.arg, v)] := by
  unfold bindArgs
  rw [h]
  refine ⟨_, rfl, fun v => ?_⟩
  simp
/-- x(lambda d=i: body) -/
theorem lamD_call {X : Cx} {T : List (Addr × Str)} {TT : (XK → Hp → VK → Prop) → Hp → VK → Prop} {x a : Str} {g c P : Addr} {k : Nat} {pg : Arguments} {bg : List Stmt} {sg : Scope} {dV kV doc pm cdv ct oc : Value} {an od : Option Addr} {osl : Array (Option Value)} {Ng : List Str}
    {a0 : Arg} {i0 : Int} {k0 : Nat} {p0 : Pos} {body : Expr} {scope : Scope} {t : XK → TE} {p lpos pos : Pos} (hg : Gl X x) (hm : X.mg x = some (.ref g)) (hk : PySem.W.keepIn X.K (.ref g) = true)
    (lk : X.K.lookup g = some ⟨oc, od, .func (PySem.W.fnOf x x pg bg sg dV kV doc pm an cdv ct), osl⟩) (hcg : PySem.W.codeIn X.K cdv x = true) (hb : L2.Binds X.K (PySem.W.fnOf x x pg bg sg dV kV doc pm an cdv ct) [a] []) (Sg : FnScope Ng [a] sg) (hNg : Ng[0]? = some a) (hva : Vis sg a)
    (hG : LamX.GivesTo X Ng x sg g cdv bg a (X.env.qual ++ "<lambda>") TT)
    (TB : LamX.TabB X.base X.mg c P) (hcode : X.env.code = .ref c) (hmT : (P, X.env.qual ++ "<lambda>") ∈ T) (hu : ∀ p ∈ T, p.1 = P → p.2 = X.env.qual ++ "<lambda>") (hr : Room (k + 2) X.A) (L : LamD X.N X.env.scope scope a0.arg)
    (hbody : ∀ (A : Around) (outer : List Env) (s : Shared) (H : Hp) (E : XK) (f c' : Addr), Room k (A.deeper (LamX.lamEnv X scope s.heap.objs.size f c')) → PE (LamX.lamCx X A outer s H E scope f c') body (t E))
    (hdb : (x == ("__debug__" : Str)) = false) (hd : (a == ("__debug__" : Str)) = false) (hcd : (a == ("__classdict__" : Str)) = false) :
    PE X (.Call (.Name x p) [.Lambda ⟨[], [a0], none, [], [], none, [.Constant (.int i0) k0 p0]⟩ body scope lpos] [] pos) (LamX.tLam T TT t) := by
  refine ⟨fun pins s σ H Q I ⟨hT, h⟩ => ?_⟩
  refine wpAny_Call_Name_kw (ld_glob I hg hm ?_ hdb)
  refine PySem.W.callWith_K (h₀ := X.base) I.ok.mod.kin hk ?_ (by rfl) (by rfl)
  show wpAny _ _ (spliced ((false, eval (.Lambda ⟨[], [a0], none, [], [], none, [.Constant (.int i0) k0 p0]⟩ body scope lpos) X.env) :: backTo pos (starEach [] X.env))) _ _ s
  refine Calls.spliced_cons (lamD_make I TB hcode hmT hu hT rfl rfl (L.has I.ok) fun f T0 c' t0 doc' pm' ctv H1 s' I1 eN T1 gf gT nf nT rf rT kn => ?_)
  refine Calls.spliced_nil ⟨I1.kIn, ?_⟩
  have did : codeAny (model X.prog X.w) X.A (.call (.ref g) ⟨[.ref f], []⟩) (CR C8.CX0 X.stack X.prog X.w H1 s' Q C8.E0) s' := by
    refine LamX.run_ofS (N := Ng) (ps := [a]) (us := [.ref f]) (vs := [.ref f]) lk hcg Sg hr I1.env0 (hb s' [.ref f] I1.kIn rfl) (.cons rfl .nil) rfl fun room => ?_
    obtain ⟨t', b1, b2⟩ := hG f c' s' H1 Q (fun E H' Q' => t E σ H' Q') (fun W pn xe E p1 p2 tk hW => lamD_act (i := 0) I1 L gf gT nf nT rf rT (fun fd e => bind_dflt e) tk hW room (fun A outer s H r2 => hbody A outer s H E f c' r2) hNg hva hd hcd) kn (h H1 eN T1)
    exact ⟨t', b1.nox, b2⟩
  refine wpAny_call (codeAny_mono did fun r s2 hq => ?_)
  cases r with
  | error e => exact (show False from hq).elim
  | ok fl =>
    cases fl with
    | ret u => exact I1.after hq
    | next => exact hq.elim
    | brk => exact hq.elim
    | cont => exact hq.elim
end Ev
end
end

/-! part EvQ -/
section
set_option Elab.async false
set_option linter.all false
set_option maxRecDepth 100000
set_option maxHeartbeats 4000000
/-! EvQ: what a lambda meets: met(lambda: body). -/
noncomputable section
namespace Ev
open PySem PySem.Spec PyProof.Rows L2

/-- what a clause gives: ('w',); 'w'; ('w', error.f); error.f; ('w', repr(error.f)) -/
inductive HK where
  | t (w : Str) | s (w : Str) | tp (w : Str) | p | r (w : Str) | sr (w : Str)
def isR : HK → Bool
  | .r _ => true
  | .sr _ => true
  | _ => false
def hkD (h : HK) (p : D) (s : S) (k : KD) : Bool := match h with
  | .t w => k (.tup [.str w]) s
  | .s w => k (.str w) s
  | .tp w => Bool.rec (motive := fun _ => Bool) (k (.tup [.str w, p]) s) false (isUnb p)
  | .p => Bool.rec (motive := fun _ => Bool) (k p s) false (isUnb p)
  | .r w => isSym p fun n => k (.tup [.str w, .rep (.sym n)]) s
  | .sr w => isSym p fun n => grd (Nat.ble w.length 1000000) (k (.rep (.tup [.unb, .str w, .sym n])) s)
def metL (cs : List (Nat × HK)) (c : Nat) (p : D) (s : S) (k : KD) : Bool :=
  List.rec (motive := fun _ => Bool) false (fun q _ ih => Prod.rec (motive := fun _ => Bool) (fun j h => Bool.rec (motive := fun _ => Bool) ih (hkD h p s k) (Nat.beq c j)) q) cs
def metK (n : Nat) (cs : List (Nat × HK)) (c : Nat) (p : D) (s : S) (k : KD) : Bool := grd (Nat.blt c n) (metL cs c p s k)
def xMet (n : Nat) (cs : List (Nat × HK)) (f : HK) (a : XE) : XE := fun e s k _ => frN (sNo s) fun z => a e s (fun _ s1 => trim z s1 fun s2 => hkD f .unb s2 k) (fun c p s1 => trim z s1 fun s2 => metK n cs c p s2 k)
/-- as a wish: C the class, f the field, i the name's slot -/
def hkTS (K : PySem.W.Frag) (h : HK) (i : Nat) (f : Str) (C : Addr) : Addr → Value → Option Addr → TS := fun a cls d D σ H => match h with
  | .t w => ∀ p, H p = none → D.rt (.ref p) (upd H p (.tup [.str w]))
  | .s w => D.rt (.str w) H
  | .tp w => ∃ v dd, σ[i]? = some (some (.ref a)) ∧ cls = .ref C ∧ d = some dd ∧ H dd = some (.xd [(f, v)]) ∧ ∀ p, H p = none → D.rt (.ref p) (upd H p (.tup [.str w, v]))
  | .p => ∃ v dd, σ[i]? = some (some (.ref a)) ∧ cls = .ref C ∧ d = some dd ∧ H dd = some (.xd [(f, v)]) ∧ D.rt v H
  | .r w => ∃ v dd, σ[i]? = some (some (.ref a)) ∧ cls = .ref C ∧ d = some dd ∧ H dd = some (.xd [(f, v)]) ∧ rRepr K [v] H fun t H1 => ∀ p, H1 p = none → D.rt (.ref p) (upd H1 p (.tup [.str w, t]))
  | .sr w => ∃ v dd, σ[i]? = some (some (.ref a)) ∧ cls = .ref C ∧ d = some dd ∧ H dd = some (.xd [(f, v)]) ∧ rRepr K [v] H fun t H1 => ∃ x, t = .str x ∧ w.length + x.length ≤ sizeLine ∧ D.rt (.str (w ++ x)) H1
/-- the expression that a clause returns; e: the name of the error -/
inductive HE (e : Str) (f : Str) : HK → Expr → Prop where
  | t {w k p n q} : HE e f (.t w) (.Tuple [.Constant (.str w) k p] n q)
  | s {w k p} : HE e f (.s w) (.Constant (.str w) k p)
  | tp {w k p n q p1 p2} : HE e f (.tp w) (.Tuple [.Constant (.str w) k p, .Attribute (.Name e p1) f p2] n q)
  | p {p1 p2} : HE e f .p (.Attribute (.Name e p1) f p2)
  | r {w k p n q p1 p2 p3 p4} : HE e f (.r w) (.Tuple [.Constant (.str w) k p, .Call (.Name ("repr" : Str) p3) [.Attribute (.Name e p1) f p2] [] p4] n q)
  | sr {w k p q p1 p2 p3 p4} : HE e f (.sr w) (.BinOp (.Constant (.str w) k p) .Add (.Call (.Name ("repr" : Str) p3) [.Attribute (.Name e p1) f p2] [] p4) q)
/-- the clauses of the text -/
inductive HsOk (B : Bs) (sg : Scope) (Ng : List Str) : List ExceptHandler → List (Nat × HK) → Prop where
  | nil : HsOk B sg Ng [] []
  | plain {j h C ex x np p q hs cs} (hx : B.cls j = x) (mg : B.mg x = some (.ref C)) (gl : sg.names.lookup x = some .globalImplicit) (db : (x == ("__debug__" : Str)) = false) (he : HE "" "" h ex) (ht : (∃ w, h = .t w) ∨ ∃ w, h = .s w) (r : HsOk B sg Ng hs cs) :
      HsOk B sg Ng (.ExceptHandler (some (.Name x np)) none [.Return (some ex) p] q :: hs) ((j, h) :: cs)
  | named {j h C ex x np p q hs cs e} {i : Nat} (hx : B.cls j = x) (mg : B.mg x = some (.ref C)) (gl : sg.names.lookup x = some .globalImplicit) (db : (x == ("__debug__" : Str)) = false) (hi : Ng[i]? = some e) (hl : sg.names.lookup e = some .local) (de : (e == ("__debug__" : Str)) = false) (dc : (e == ("__classdict__" : Str)) = false)
      (T : XfC B.K C) (hf : PySem.W.findIn B.K (.ref C) (B.fld j) = some none) (hrp : isR h = true → sg.names.lookup ("repr" : Str) = some .globalImplicit ∧ B.mg ("repr" : Str) = none) (he : HE e (B.fld j) h ex) (r : HsOk B sg Ng hs cs) : HsOk B sg Ng (.ExceptHandler (some (.Name x np)) (some e) [.Return (some ex) p] q :: hs) ((j, h) :: cs)
theorem isUnb_ok {p : D} {b : Bool} (h : Bool.rec (motive := fun _ => Bool) b false (isUnb p) = true) : p ≠ .unb ∧ b = true := by
  cases p with
  | unb => exact absurd (show false = true from h) Bool.false_ne_true
  | _ => exact ⟨(fun z => by cases z), h⟩
section
variable {B : Bs} {Xm : Cx} {sg : Scope} {Ng : List Str}
theorem pe_tup1 {X : Cx} {w k p n q} : PE X (.Tuple [.Constant (.str w) k p] n q) (fun σ H Q => ∀ a, H a = none → Q (.ref a) (upd H a (.tup [.str w]))) :=
  wkE (pe_tup (pa_cons pe_str pa_nil)) fun σ H Q h => ⟨size_ok (show 1 ≤ 1000000 by decide), h⟩
/-- every class of errors takes its own alone -/
def Exm (B : Bs) (n : Nat) : Prop := ∀ i j, i < n → j < n → ∀ C C', B.mg (B.cls i) = some (.ref C) → B.mg (B.cls j) = some (.ref C') → PySem.W.exmOne B.K (.ref C) (.ref C') = some (Nat.beq i j)
/-- a clause's result is what it is told to be -/
theorem hk_wish {h : HK} {m : Md} {s : S} {H : Hp} {k : KD} {c : Nat} {p : D} {C : Addr} {d : Option Addr} {D : Ends} {σ : L2.St} {i : Nat} {a : Addr} (ar : AR B m s H) (hC : B.mg (B.cls c) = some (.ref C)) (x : XR B m s H c p (.ref C) d) (hk : KDok B m s H k D.rt) (hq : hkD h p s k = true) (hi : i < σ.length) :
    hkTS B.K h i (B.fld c) C a (.ref C) d D (σ.set i (some (.ref a))) H := by
  have at_ : (σ.set i (some (.ref a)))[i]? = some (some (V.ref a)) := by rw [List.getElem?_set, if_pos rfl, if_pos hi]
  cases h with
  | t w => exact fin_tup hk ar (show RDws B m s H [.str w] [.str w] from ⟨_, _, rfl, rfl, rfl⟩) hq
  | s w => exact hk (.str w) m s H _ .refl ar rfl hq
  | tp w =>
    obtain ⟨np, hq⟩ := isUnb_ok hq
    rcases x.2 with z | ⟨dd, v, e1, e2, r⟩
    · exact absurd z np
    · exact ⟨v, dd, at_, rfl, e1, e2, fin_tup hk ar (show RDws B m s H [.str w, p] [.str w, v] from ⟨_, _, rfl, rfl, v, [], rfl, r, rfl⟩) hq⟩
  | p =>
    obtain ⟨np, hq⟩ := isUnb_ok hq
    rcases x.2 with z | ⟨dd, v, e1, e2, r⟩
    · exact absurd z np
    · exact ⟨v, dd, at_, rfl, e1, e2, hk p m s H v .refl ar r hq⟩
  | r w =>
    obtain ⟨n, rfl, hq⟩ := isSym_ok hq
    rcases x.2 with z | ⟨dd, v, e1, e2, r⟩
    · cases z
    · exact ⟨v, dd, at_, rfl, e1, e2, sym_repr ar r fun t r2 => fin_tup hk ar (show RDws B m s H [.str w, .rep (.sym n)] [.str w, t] from ⟨_, _, rfl, rfl, t, [], rfl, r2, rfl⟩) hq⟩
  | sr w =>
    obtain ⟨n, rfl, hq⟩ := isSym_ok hq
    obtain ⟨c1, hq⟩ := grd_ok hq
    rcases x.2 with z | ⟨dd, v, e1, e2, r⟩
    · cases z
    · refine ⟨v, dd, at_, rfl, e1, e2, sym_repr ar r fun t r2 => ?_⟩
      obtain ⟨y, rfl, ly, r3⟩ := cat_rd (w := w) ar r2
      exact ⟨y, rfl, cat_len (Nat.le_of_ble_eq_true c1) ly, hk _ m s H _ .refl ar r3 hq⟩
theorem hk_plain {h : HK} {m : Md} {s : S} {H : Hp} {k : KD} {p : D} {C a : Addr} {d : Option Addr} {cls : Value} {D : Ends} {σ : L2.St} {i : Nat} {f : Str} (ar : AR B m s H) (hk : KDok B m s H k D.rt) (hq : hkD h p s k = true) (ht : (∃ w, h = .t w) ∨ ∃ w, h = .s w) : hkTS B.K h i f C a cls d D σ H := by
  rcases ht with ⟨w, rfl⟩ | ⟨w, rfl⟩
  · exact fin_tup hk ar (show RDws B m s H [.str w] [.str w] from ⟨_, _, rfl, rfl, rfl⟩) hq
  · exact hk (.str w) m s H _ .refl ar rfl hq
/-- a suite -/
theorem hk_suite {h : HK} {e f : Str} {ex : Expr} {p : Pos} {X : Cx} {i : Nat} {C : Addr} (he : HE e f h ex) (hK : X.K = B.K) (hi : ((∃ w, h = .t w) ∨ ∃ w, h = .s w) ∨ (X.N[i]? = some e ∧ X.env.scope.names.lookup e = some .local ∧ (e == ("__debug__" : Str)) = false ∧ (e == ("__classdict__" : Str)) = false ∧ XfC B.K C ∧ PySem.W.findIn B.K (.ref C) f = some none)) (hrp : isR h = true → X.A.guards = some [] ∧ X.A.units + 200 < cLine ∧ X.env.scope.names.lookup ("repr" : Str) = some .globalImplicit ∧ X.mg ("repr" : Str) = none)
    {a : Addr} {oe : Obj} {cls : Value} {d : Option Addr} {pn : List (Addr × Obj)} (hz : Zc cls d oe) (hf : ∃ vs, oe.data = .fields vs) : PSs (X.suite a ((a, oe) :: pn)) [.Return (some ex) p] (hkTS B.K h i f C a cls d) := by
  cases he with
  | t => exact wkSs (pss_one (ps_ret pe_tup1)) fun D σ H h => h
  | s => exact wkSs (pss_one (ps_ret pe_str)) fun D σ H h => h
  | tp =>
    rcases hi with (⟨w, z⟩ | ⟨w, z⟩) | ⟨h1, h2, h3, h4, T, h5⟩
    · cases z
    · cases z
    · have pv : ∀ q, PE (X.suite a ((a, oe) :: pn)) (.Name e q) (tVar i) := fun q => pe_var (X := X.suite a ((a, oe) :: pn)) h1 (.inl h2) h3 h4
      have pa : ∀ q q2, PE (X.suite a ((a, oe) :: pn)) (.Attribute (.Name e q) f q2) (tXf a cls d C f (tVar i)) := fun q q2 => pe_xf (X := X) (a := a) (oe := oe) (cls := cls) (d := d) (pn := pn) (n := f) (by rw [hK]; exact T) (by rw [hK]; exact h5) hz hf (pv _) rfl
      refine wkSs (pss_one (ps_ret (pe_tup (pa_cons pe_str (pa_cons (pa _ _) pa_nil rfl) rfl)))) fun D σ H h => ?_
      obtain ⟨v, dd, e1, e2, e3, e4, q⟩ := h
      exact ⟨.ref a, e1, rfl, e2, dd, [(f, v)], v, e3, e4, by simp [List.lookup], size_ok (show 2 ≤ 1000000 by decide), q⟩
  | p =>
    rcases hi with (⟨w, z⟩ | ⟨w, z⟩) | ⟨h1, h2, h3, h4, T, h5⟩
    · cases z
    · cases z
    · have pv : ∀ q, PE (X.suite a ((a, oe) :: pn)) (.Name e q) (tVar i) := fun q => pe_var (X := X.suite a ((a, oe) :: pn)) h1 (.inl h2) h3 h4
      have pa : ∀ q q2, PE (X.suite a ((a, oe) :: pn)) (.Attribute (.Name e q) f q2) (tXf a cls d C f (tVar i)) := fun q q2 => pe_xf (X := X) (a := a) (oe := oe) (cls := cls) (d := d) (pn := pn) (n := f) (by rw [hK]; exact T) (by rw [hK]; exact h5) hz hf (pv _) rfl
      refine wkSs (pss_one (ps_ret (pa _ _))) fun D σ H h => ?_
      obtain ⟨v, dd, e1, e2, e3, e4, q⟩ := h
      exact ⟨.ref a, e1, rfl, e2, dd, [(f, v)], v, e3, e4, by simp [List.lookup], q⟩
  | r =>
    rcases hi with (⟨w, z⟩ | ⟨w, z⟩) | ⟨h1, h2, h3, h4, T, h5⟩
    · cases z
    · cases z
    · obtain ⟨r1, r2, r3, r4⟩ := hrp rfl
      have pv : ∀ q, PE (X.suite a ((a, oe) :: pn)) (.Name e q) (tVar i) := fun q => pe_var (X := X.suite a ((a, oe) :: pn)) h1 (.inl h2) h3 h4
      have pa : ∀ q q2, PE (X.suite a ((a, oe) :: pn)) (.Attribute (.Name e q) f q2) (tXf a cls d C f (tVar i)) := fun q q2 => pe_xf (X := X) (a := a) (oe := oe) (cls := cls) (d := d) (pn := pn) (n := f) (by rw [hK]; exact T) (by rw [hK]; exact h5) hz hf (pv _) rfl
      have pr : ∀ q q2 q3 q4, PE (X.suite a ((a, oe) :: pn)) (.Call (.Name ("repr" : Str) q3) [.Attribute (.Name e q) f q2] [] q4) (tCB (rRepr B.K) (tCons (tXf a cls d C f (tVar i)) tNil)) := fun q q2 q3 q4 =>
        pe_callB (X := X.suite a ((a, oe) :: pn)) (by rw [← hK]; exact call_repr (X := X.suite a ((a, oe) :: pn)) r2 r1) r3 r4 rfl (pa_cons (pa q q2) pa_nil rfl) (by decide) (by decide) rfl rfl
      refine wkSs (pss_one (ps_ret (pe_tup (pa_cons pe_str (pa_cons (pr _ _ _ _) pa_nil rfl) rfl)))) fun D σ H h => ?_
      obtain ⟨v, dd, e1, e2, e3, e4, v', dd', W, p', ev, q1, q2, q3, q4, q5, q6, q7, q8⟩ := h
      cases ev
      refine ⟨.ref a, e1, rfl, e2, dd, [(f, v)], v, e3, e4, by simp [List.lookup], v, dd', W, p', rfl, q1, q2, q3, q4, q5, q6, q7, size_ok (show 2 ≤ 1000000 by decide), q8⟩
  | sr =>
    rcases hi with (⟨w, z⟩ | ⟨w, z⟩) | ⟨h1, h2, h3, h4, T, h5⟩
    · cases z
    · cases z
    · obtain ⟨r1, r2, r3, r4⟩ := hrp rfl
      have pv : ∀ q, PE (X.suite a ((a, oe) :: pn)) (.Name e q) (tVar i) := fun q => pe_var (X := X.suite a ((a, oe) :: pn)) h1 (.inl h2) h3 h4
      have pa : ∀ q q2, PE (X.suite a ((a, oe) :: pn)) (.Attribute (.Name e q) f q2) (tXf a cls d C f (tVar i)) := fun q q2 => pe_xf (X := X) (a := a) (oe := oe) (cls := cls) (d := d) (pn := pn) (n := f) (by rw [hK]; exact T) (by rw [hK]; exact h5) hz hf (pv _) rfl
      have pr : ∀ q q2 q3 q4, PE (X.suite a ((a, oe) :: pn)) (.Call (.Name ("repr" : Str) q3) [.Attribute (.Name e q) f q2] [] q4) (tCB (rRepr B.K) (tCons (tXf a cls d C f (tVar i)) tNil)) := fun q q2 q3 q4 =>
        pe_callB (X := X.suite a ((a, oe) :: pn)) (by rw [← hK]; exact call_repr (X := X.suite a ((a, oe) :: pn)) r2 r1) r3 r4 rfl (pa_cons (pa q q2) pa_nil rfl) (by decide) (by decide) rfl rfl
      refine wkSs (pss_one (ps_ret (pe_op op_add_str pe_str (pr _ _ _ _)))) fun D σ H h => ?_
      obtain ⟨v, dd, e1, e2, e3, e4, v', dd', W, p', ev, q1, q2, q3, q4, q5, q6, q7, x, ex, lx, q8⟩ := h
      cases ev
      cases ex
      exact ⟨.ref a, e1, rfl, e2, dd, [(f, v)], v, e3, e4, by simp [List.lookup], v, dd', W, p', rfl, q1, q2, q3, q4, q5, q6, q7, _, _, rfl, rfl, lx, q8⟩
/-- the clauses -/
theorem clauses_of {n : Nat} (hx : Exm B n) {hs : List ExceptHandler} {cs : List (Nat × HK)} (h : HsOk B sg Ng hs cs) : (∀ q ∈ cs, q.1 < n) →
    ∃ l : List Cl, hs = l.map Cl.ast ∧ (∀ Xm : Cx, Xm.K = B.K → Xm.mg = B.mg → Xm.N = Ng → Xm.env.scope = sg → ((cs.any fun q => isR q.2) = true → Xm.A.guards = some [] ∧ Xm.A.units + 200 < cLine) → ∀ c ∈ l, ClOk Xm c) ∧ ∀ (Dn : Ends) (m : Md) (s : S) (H : Hp) (k : KD) (c : Nat) (p : D) (cls : Value) (d : Option Addr) (σ : L2.St), c < n → AR B m s H → XR B m s H c p cls d → KDok B m s H k Dn.rt → metL cs c p s k = true → σ.length = Ng.length → wMany B.K Dn l cls d σ H := by
  induction h with
  | nil => exact fun _ => ⟨[], rfl, (fun _ _ _ _ _ _ c hc => by cases hc), fun D m s H k c p cls d σ _ _ _ _ z => absurd (show false = true from z) Bool.false_ne_true⟩
  | @plain j h C ex x np p q hs cs hxj mg gl db he ht r ih =>
    intro hn
    obtain ⟨l, e1, e2, e3⟩ := ih fun q hq => hn q (List.mem_cons_of_mem _ hq)
    have hj : j < n := hn (j, h) List.mem_cons_self
    refine ⟨⟨x, np, none, .Return (some ex) p, [], q, .ref C, hkTS B.K h 0 "" C⟩ :: l, by rw [List.map_cons, ← e1]; rfl, fun Xm hK hmg hN hsc hr c hc => ?_, fun D m s H k c p cls d σ hc ar xr hk hm hl => ?_⟩
    · rcases List.mem_cons.mp hc with z | hc
      · subst z
        exact ⟨⟨by show Xm.env.scope.names.lookup x = _; rw [hsc]; exact gl, db, .inl (by rw [hmg]; exact mg)⟩, (fun n i z => by cases z), fun a oe cls d pn hz hf => hk_suite he hK (.inl ht) (fun z => by rcases ht with ⟨w, rfl⟩ | ⟨w, rfl⟩ <;> cases z) hz hf⟩
      · exact e2 Xm hK hmg hN hsc (fun z => hr (by rw [List.any_cons, z, Bool.or_true])) c hc
    · have hm' : Bool.rec (motive := fun _ => Bool) (metL cs c p s k) (hkD h p s k) (Nat.beq c j) = true := hm
      obtain ⟨⟨C', hC', rfl⟩, hp⟩ := id xr
      refine ⟨Nat.beq c j, hx c j hc hj C' C hC' (by rw [hxj]; exact mg), fun z a ha => ?_, fun z => ?_⟩
      · rw [z] at hm'
        exact hk_plain ar hk hm' ht
      · rw [z] at hm'
        exact e3 D m s H k c p (.ref C') d σ hc ar xr hk hm' hl
  | @named j h C ex x np p q hs cs e i hxj mg gl db hi hl de dc T hf hrp he r ih =>
    intro hn
    obtain ⟨l, e1, e2, e3⟩ := ih fun q hq => hn q (List.mem_cons_of_mem _ hq)
    have hj : j < n := hn (j, h) List.mem_cons_self
    refine ⟨⟨x, np, some (e, i), .Return (some ex) p, [], q, .ref C, hkTS B.K h i (B.fld j) C⟩ :: l, by rw [List.map_cons, ← e1]; rfl, fun Xm hK hmg hN hsc hr c hc => ?_, fun D m s H k c p cls d σ hc ar xr hk hm hlen => ?_⟩
    · rcases List.mem_cons.mp hc with z | hc
      · subst z
        refine ⟨⟨by show Xm.env.scope.names.lookup x = _; rw [hsc]; exact gl, db, .inl (by rw [hmg]; exact mg)⟩, fun n' i' z => ?_, fun a oe cls d pn hz hf' => hk_suite he hK (.inr ⟨by rw [hN]; exact hi, by rw [hsc]; exact hl, de, dc, T, hf⟩) (fun z => by
          obtain ⟨r1, r2⟩ := hr (by rw [List.any_cons, z]; rfl)
          obtain ⟨r3, r4⟩ := hrp z
          exact ⟨r1, r2, by rw [hsc]; exact r3, by rw [hmg]; exact r4⟩) hz hf'⟩
        cases z
        exact ⟨by rw [hN]; exact hi, by show Xm.env.scope.names.lookup e = _; rw [hsc]; exact hl⟩
      · exact e2 Xm hK hmg hN hsc (fun z => hr (by rw [List.any_cons, z, Bool.or_true])) c hc
    · have hm' : Bool.rec (motive := fun _ => Bool) (metL cs c p s k) (hkD h p s k) (Nat.beq c j) = true := hm
      obtain ⟨⟨C', hC', rfl⟩, hp⟩ := id xr
      refine ⟨Nat.beq c j, hx c j hc hj C' C hC' (by rw [hxj]; exact mg), fun z a ha => ?_, fun z => ?_⟩
      · rw [z] at hm'
        have ej : c = j := Nat.eq_of_beq_eq_true z
        subst ej
        rw [hxj, mg] at hC'
        cases hC'
        have hil : i < σ.length := by
          rw [hlen]
          exact (List.getElem?_eq_some_iff.mp hi).1
        exact hk_wish (D := ⟨_, D.rt, _, _⟩) ar (by rw [hxj]; exact mg) xr hk hm' hil
      · rw [z] at hm'
        exact e3 D m s H k c p (.ref C') d σ hc ar xr hk hm' hlen
end
/-- what is known of the def that calls what it got -/
structure MetOk (B : Bs) (x : Str) (n : Nat) (cs : List (Nat × HK)) (f : HK) : Prop where
  ok : ∃ (g : Addr) (fd : FuncData) (params : Arguments) (sg : Scope) (a : Str) (Ng : List Str) (hs : List ExceptHandler) (fe : Expr) (p1 p2 p3 p4 p5 : Pos),
    B.mg x = some (.ref g) ∧ FunD B.K x x params [.Try [.Expr (.Call (.Name a p1) [] [] p2) p3] hs [] [] p4, .Return (some fe) p5] sg [] [] g fd ∧
    (∀ (kV doc pm : Value) (an : Option Addr) (cdv ct : Value) (us : List Value), us.length = [a].length → bindArgs (PySem.W.fnOf x x params [.Try [.Expr (.Call (.Name a p1) [] [] p2) p3] hs [] [] p4, .Return (some fe) p5] sg .none kV doc pm an cdv ct) ⟨us, []⟩ = pure ([a].zip us)) ∧
    FnScope Ng [a] sg ∧ Ng[0]? = some a ∧ Vis sg a ∧ (a == ("__debug__" : Str)) = false ∧ (a == ("__classdict__" : Str)) = false ∧ HsOk B sg Ng hs cs ∧ hs ≠ [] ∧ HE "" "" f fe ∧ ((∃ w, f = .t w) ∨ ∃ w, f = .s w)
  cn : ∀ q ∈ cs, q.1 < n
  ex : Exm B n
  db : (x == ("__debug__" : Str)) = false
/-- what the def makes of the reading of what it calls -/
def TTm (K : PySem.W.Frag) (len : Nat) (cs : List Cl) (f : HK) : (XK → Hp → VK → Prop) → Hp → VK → Prop := fun tl H Q =>
  ∃ E : XK, (∀ (D : Ends) cls d σ H', D.rt = Q → σ.length = len → E cls d H' → wMany K D cs cls d σ H') ∧ tl E H fun _ H1 => hkTS K f 0 "" 0 0 .none none { nx := fun _ _ => False, rt := Q } [] H1
theorem takes_len {X : Cx} {W : WX} (t : Takes X W) : Takes X (fun cls d σ H => σ.length = X.N.length → W cls d σ H) := fun u s' ⟨a, b, sI, pins, σ, H, cls, d, e, I, nb, up, sky, na, os, ag, w⟩ =>
  t u s' ⟨a, b, sI, pins, σ, H, cls, d, e, I, nb, up, sky, na, os, ag, w I.len⟩
/-- wMany looks at the returns alone, where every suite returns -/
theorem met_gives {B : Bs} {x : Str} {f : HK} {X : Cx} {Ng : List Str} {sg : Scope} {g : Addr} {cdg : Value} {a q : Str} {hs : List ExceptHandler} {fe : Expr} {p1 p2 p3 p4 p5 : Pos} (hK : X.K = B.K) {l : List Cl} (hl : hs = l.map Cl.ast) (hne : hs ≠ [])
    (hc : ∀ s H, ∀ c ∈ l, ClOk (cxOf C8.CX0 X.prog X.w X.K X.mg X.base Ng x sg g cdg X.A X.stack s H C8.E0).nox c) (hN : Ng.Nodup)
    (hf : HE "" "" f fe) (ht : (∃ w, f = .t w) ∨ ∃ w, f = .s w) (h0 : ∀ f : Addr, (L2.start Ng [V.ref f])[0]? = some (some (V.ref f))) :
    LamX.GivesTo X Ng x sg g cdg [.Try [.Expr (.Call (.Name a p1) [] [] p2) p3] hs [] [] p4, .Return (some fe) p5] a q (TTm B.K Ng.length l f) := by
  intro fl c' s H Q tl act hco h
  obtain ⟨E, hE, htl⟩ := h
  subst hl
  have hfe : PE (cxOf C8.CX0 X.prog X.w X.K X.mg X.base Ng x sg g cdg X.A X.stack s H C8.E0).nox fe (fun σ H Q => hkTS B.K f 0 "" 0 0 .none none { nx := fun _ _ => False, rt := Q } [] H) := by
    rcases ht with ⟨w, rfl⟩ | ⟨w, rfl⟩
    · cases hf
      exact wkE pe_tup1 fun _ _ _ h => h
    · cases hf
      exact wkE pe_str fun _ _ _ h => h
  refine ⟨_, pss_cons (try_many (X := (cxOf C8.CX0 X.prog X.w X.K X.mg X.base Ng x sg g cdg X.A X.stack s H C8.E0).nox) (tb := fun W D σ H => ∃ Ech : XK, (∀ cls d σ' H', Ech cls d H' → σ'.length = Ng.length → W cls d σ' H') ∧ σ[0]? = some (some (.ref fl)) ∧ H c' = some (LamX.CodeO c' q) ∧ tl Ech H fun _ H1 => D.nx σ H1)
    rfl rfl hN l (hc s H) (fun z => hne (by rw [z]; rfl)) fun W pn xe tk _ => ?_) (pss_one (ps_ret hfe)), ?_⟩
  · refine ⟨fun pins s' σ H' D I h' => ?_⟩
    obtain ⟨Ech, hW, h1, h2, h3⟩ := h'
    have hp := act _ pn xe Ech p1 p2 (takes_len tk) fun cls d σ' H' z => hW cls d σ' H' z
    exact (pss_one (ps_expr (pos := p3) hp rfl)).run pins s' σ H' D I ⟨h1, h2, h3⟩
  · refine ⟨E, fun cls d σ' H' z hlen => ?_, h0 fl, hco, htl⟩
    show wMany X.K _ l cls d σ' H'
    rw [hK]
    exact hE _ cls d σ' H' rfl hlen z
/-- only tables differ -/
theorem post_ext {B : Bs} {m : Md} {s : S} {H H1 : Hp} (ar : AR B m s H) (e : LamX.ExtN H H1) (t : LamX.Tabs B.T H1) : Post m s H m s H1 ∧ AR B m s H1 := by
  have P : Post m s H m s H1 := ⟨.refl, fun b o h _ n => e b o h n, fun _ h => .inl h, fun _ h => .inl h, fun _ _ h _ => h⟩
  refine ⟨P, ⟨ar.desc, ar.num, ar.inj, fun i o h => ?_, t, ar.lets⟩⟩
  obtain ⟨u0, h0, q0⟩ := (ar.is_obj h).nt
  exact P.or_ ar (fun u q => e _ _ q (fun ps z => by rw [h0] at q; cases q; exact q0 ps z)) (ar.obj i o h)
/-- met(lambda: body) -/
theorem x_met {B : Bs} {c : SI} {E : XK} {X : Cx} {x : Str} {n k : Nat} {cs : List (Nat × HK)} {f : HK} (M : MetOk B x n cs f) (C : Cok B c E X) (hgr : (cs.any fun q => isR q.2) = true → c.gd = true) (hlm : c.lm = true) (hk : k + 2 ≤ c.k) (hg : c.sc.names.lookup x = some .globalImplicit) {params : Arguments} {body : Expr} {scope : Scope} {xa : XE} {p lpos pos : Pos}
    (L : LamX.LamS c.sc scope) (hdef : defaultsOf params X.env = ([], [])) (hbind : ∀ (q : Str) (cl : List (Str × Addr)) (pm cv ctv : Value), bindArgs (PySem.W.kla_fn "<lambda>" q params body scope cl pm cv ctv) ⟨[], []⟩ = pure [])
    (hbody : ∀ X' E', Cok B ⟨c.N, scope, k, false, fun _ => false, false⟩ E' X' → PE X' body (TX B E' xa)) : PE X (.Call (.Name x p) [.Lambda params body scope lpos] [] pos) (TX B E (xMet n cs f xa)) := by
  obtain ⟨g, fd, pg, sg, a, Ng, hs, fe, p1, p2, p3, p4, p5, mg, F, hb, Sg, hN0, hva, da, dc, hsok, hne, hf, ht⟩ := M.ok
  obtain ⟨cd, P, hcode, TB, hmT, hu⟩ := C.lm hlm
  have bnd := F.bindsN hb
  obtain ⟨oc, od, dV, kV, doc, pm, an, cdv, ct, osl, rfl, lk, hcd, _, _⟩ := F.ex
  obtain ⟨l, e1, e2, e3⟩ := clauses_of M.ex hsok M.cn
  have h0 : ∀ f : Addr, (L2.start Ng [V.ref f])[0]? = some (some (V.ref f)) := fun f => rfl
  have hK := C.K
  have hmg := C.mg
  have G := met_gives (X := X) (x := x) (cdg := cdv) (g := g) (a := a) (q := X.env.qual ++ "<lambda>") (p1 := p1) (p2 := p2) (p3 := p3) (p4 := p4) (p5 := p5) hK e1 hne (fun s H => e2 _ hK hmg rfl rfl fun z => ⟨C.grd (hgr z), by
    have u := C.room.un
    show X.A.units + 3 + 200 < cLine
    omega⟩) Sg.nd hf ht h0
  have room : Room (k + 2) X.A := C.room.mono hk
  refine wkE (LamX.pe_lamcall (T := B.T) (k := k) (t := fun E' => TX B E' xa) (C.gl hg) (by rw [hmg]; exact mg) (by rw [hK]; exact F.kp) (by rw [hK]; exact lk) (by rw [hK]; exact hcd) (by rw [hK]; exact bnd) Sg hN0 hva G (by rw [C.base, hmg]; exact TB) hcode hmT hu room (by rw [C.sc]; exact L) hdef hbind
    (fun A outer s H E' f c' hr => hbody _ E' ?_) M.db da dc) fun σ H Q h => ?_
  · exact ⟨C.P, C.w, hK, hmg, C.base, C.N, rfl, C.nd, rfl, hr, fun z => absurd z Bool.false_ne_true, passes_of (K := fun e s'' => L2.CX X.prog X.w outer H s E' e s'') rfl, takes_of rfl rfl rfl rfl, rfl, fun z => absurd z Bool.false_ne_true⟩
  · obtain ⟨m, s, env, kk, kx, ar, er, hx, hkk, hkx⟩ := h
    have hx' : frN (sNo s) (fun z => xa env s (fun _ s1 => trim z s1 fun s2 => hkD f .unb s2 kk) (fun c p s1 => trim z s1 fun s2 => metK n cs c p s2 kk)) = true := hx
    rw [frN_eq, sNo_eq] at hx'
    refine ⟨ar.tabs, fun H1 eN T1 => ?_⟩
    obtain ⟨P0, a0⟩ := post_ext ar eN T1
    refine ⟨fun cls d H2 => ∀ D σ, D.rt = Q → σ.length = Ng.length → wMany B.K D l cls d σ H2, fun D cls d σ' H2 h1 h2 h3 => h3 D σ' h1 h2, m, s, env, _, _, a0, er.post P0 ar, hx', fun d m' s' H' v p' a' r' h' => ?_, fun i p m' s' H' cls dd p' a' r' h' D σ' hD hlen => ?_⟩
    · obtain ⟨nl, no, os⟩ := s'
      obtain ⟨P, A, R⟩ := post_trim p' (Nat.le_refl _) ar.num a'
      have h2 : hkD f .unb (.mk nl no (trimO s.no os)) kk = true := h'
      exact hk_plain (D := ⟨_, Q, _, _⟩) A (hkk.post (P0.trans P)) h2 ht
    · obtain ⟨nl, no, os⟩ := s'
      obtain ⟨P, A, R⟩ := post_trim p' (Nat.le_refl _) ar.num a'
      have h2 : metK n cs i p (.mk nl no (trimO s.no os)) kk = true := h'
      obtain ⟨c1, h3⟩ := grd_ok h2
      refine e3 D m' _ H' kk i p cls dd σ' (by rw [← Nat.blt_eq]; exact c1) A ⟨r'.1, ?_⟩ (by rw [hD]; exact hkk.post (P0.trans P)) h3 hlen
      rcases r'.2 with z | ⟨x, v, q1, q2, q3⟩
      · exact .inl z
      · exact .inr ⟨x, v, q1, q2, R _ _ q3⟩
/-- met(lambda d=i: body) -/
theorem x_metD {B : Bs} {c : SI} {E : XK} {X : Cx} {x : Str} {n k : Nat} {cs : List (Nat × HK)} {f : HK} (M : MetOk B x n cs f) (C : Cok B c E X) (hgr : (cs.any fun q => isR q.2) = true → c.gd = true) (hlm : c.lm = true) (hk : k + 2 ≤ c.k) (hg : c.sc.names.lookup x = some .globalImplicit) {a0 : Arg} {i0 : Int} {k0 : Nat} {p0 : Pos} {body : Expr} {scope : Scope} {xa : XE} {p lpos pos : Pos}
    (L : LamD c.N c.sc scope a0.arg)
    (hbody : ∀ X' E', Cok B ⟨c.N, scope, k, false, fun _ => false, false⟩ E' X' → PE X' body (TX B E' xa)) : PE X (.Call (.Name x p) [.Lambda ⟨[], [a0], none, [], [], none, [.Constant (.int i0) k0 p0]⟩ body scope lpos] [] pos) (TX B E (xMet n cs f xa)) := by
  obtain ⟨g, fd, pg, sg, a, Ng, hs, fe, p1, p2, p3, p4, p5, mg, F, hb, Sg, hN0, hva, da, dc, hsok, hne, hf, ht⟩ := M.ok
  obtain ⟨cd, P, hcode, TB, hmT, hu⟩ := C.lm hlm
  have bnd := F.bindsN hb
  obtain ⟨oc, od, dV, kV, doc, pm, an, cdv, ct, osl, rfl, lk, hcd, _, _⟩ := F.ex
  obtain ⟨l, e1, e2, e3⟩ := clauses_of M.ex hsok M.cn
  have h0 : ∀ f : Addr, (L2.start Ng [V.ref f])[0]? = some (some (V.ref f)) := fun f => rfl
  have hK := C.K
  have hmg := C.mg
  have G := met_gives (X := X) (x := x) (cdg := cdv) (g := g) (a := a) (q := X.env.qual ++ "<lambda>") (p1 := p1) (p2 := p2) (p3 := p3) (p4 := p4) (p5 := p5) hK e1 hne (fun s H => e2 _ hK hmg rfl rfl fun z => ⟨C.grd (hgr z), by
    have u := C.room.un
    show X.A.units + 3 + 200 < cLine
    omega⟩) Sg.nd hf ht h0
  have room : Room (k + 2) X.A := C.room.mono hk
  refine wkE (lamD_call (T := B.T) (k := k) (t := fun E' => TX B E' xa) (C.gl hg) (by rw [hmg]; exact mg) (by rw [hK]; exact F.kp) (by rw [hK]; exact lk) (by rw [hK]; exact hcd) (by rw [hK]; exact bnd) Sg hN0 hva G (by rw [C.base, hmg]; exact TB) hcode hmT hu room (by rw [C.sc, C.N]; exact L)
    (fun A outer s H E' f c' hr => hbody _ E' ?_) M.db da dc) fun σ H Q h => ?_
  · exact ⟨C.P, C.w, hK, hmg, C.base, C.N, rfl, C.nd, rfl, hr, fun z => absurd z Bool.false_ne_true, passes_of (K := fun e s'' => L2.CX X.prog X.w outer H s E' e s'') rfl, takes_of rfl rfl rfl rfl, rfl, fun z => absurd z Bool.false_ne_true⟩
  · obtain ⟨m, s, env, kk, kx, ar, er, hx, hkk, hkx⟩ := h
    have hx' : frN (sNo s) (fun z => xa env s (fun _ s1 => trim z s1 fun s2 => hkD f .unb s2 kk) (fun c p s1 => trim z s1 fun s2 => metK n cs c p s2 kk)) = true := hx
    rw [frN_eq, sNo_eq] at hx'
    refine ⟨ar.tabs, fun H1 eN T1 => ?_⟩
    obtain ⟨P0, a0⟩ := post_ext ar eN T1
    refine ⟨fun cls d H2 => ∀ D σ, D.rt = Q → σ.length = Ng.length → wMany B.K D l cls d σ H2, fun D cls d σ' H2 h1 h2 h3 => h3 D σ' h1 h2, m, s, env, _, _, a0, er.post P0 ar, hx', fun d m' s' H' v p' a' r' h' => ?_, fun i p m' s' H' cls dd p' a' r' h' D σ' hD hlen => ?_⟩
    · obtain ⟨nl, no, os⟩ := s'
      obtain ⟨P, A, R⟩ := post_trim p' (Nat.le_refl _) ar.num a'
      have h2 : hkD f .unb (.mk nl no (trimO s.no os)) kk = true := h'
      exact hk_plain (D := ⟨_, Q, _, _⟩) A (hkk.post (P0.trans P)) h2 ht
    · obtain ⟨nl, no, os⟩ := s'
      obtain ⟨P, A, R⟩ := post_trim p' (Nat.le_refl _) ar.num a'
      have h2 : metK n cs i p (.mk nl no (trimO s.no os)) kk = true := h'
      obtain ⟨c1, h3⟩ := grd_ok h2
      refine e3 D m' _ H' kk i p cls dd σ' (by rw [← Nat.blt_eq]; exact c1) A ⟨r'.1, ?_⟩ (by rw [hD]; exact hkk.post (P0.trans P)) h3 hlen
      rcases r'.2 with z | ⟨x, v, q1, q2, q3⟩
      · exact .inl z
      · exact .inr ⟨x, v, q1, q2, R _ _ q3⟩
end Ev
end
end

/-! part EvR -/
section
set_option Elab.async false
set_option linter.all false
set_option maxRecDepth 100000
set_option maxHeartbeats 4000000
/-! EvR: what is asked of a text, as tests. -/
noncomputable section
namespace Ev
open PySem PySem.Spec PyProof.Rows L2

/-! ### small tests -/
def lkS {α : Type} : List (Str × α) → Str → Option α
  | [], _ => none
  | (y, a) :: r, x => Bool.rec (lkS r x) (some a) (strE x y)
theorem lkS_eq {α : Type} : ∀ (l : List (Str × α)) (x : Str), lkS l x = l.lookup x
  | [], _ => rfl
  | (y, a) :: r, x => by
    unfold lkS
    rw [List.lookup, strE_eq, lkS_eq r x]
    cases x == y <;> rfl
def kL : Option NameKind → Bool
  | some .local => true
  | _ => false
def kC : Option NameKind → Bool
  | some .cell => true
  | _ => false
def kF : Option NameKind → Bool
  | some .free => true
  | _ => false
def kG : Option NameKind → Bool
  | some .globalImplicit => true
  | _ => false
theorem kL_ok {o : Option NameKind} (h : kL o = true) : o = some .local := by
  cases o with
  | none => cases h
  | some k => cases k <;> first | rfl | cases h
theorem kC_ok {o : Option NameKind} (h : kC o = true) : o = some .cell := by
  cases o with
  | none => cases h
  | some k => cases k <;> first | rfl | cases h
theorem kF_ok {o : Option NameKind} (h : kF o = true) : o = some .free := by
  cases o with
  | none => cases h
  | some k => cases k <;> first | rfl | cases h
theorem kG_ok {o : Option NameKind} (h : kG o = true) : o = some .globalImplicit := by
  cases o with
  | none => cases h
  | some k => cases k <;> first | rfl | cases h
def isG (c : SI) (x : Str) : Bool := kG (lkS c.sc.names x)
theorem isG_ok {c : SI} {x : Str} (h : isG c x = true) : c.sc.names.lookup x = some .globalImplicit := by
  rw [← lkS_eq]
  exact kG_ok h
/-- the name x at slot i, seen -/
def nAt (c : SI) (i : Nat) (x : Str) : Bool := match c.N[i]? with
  | some y => strE y x
  | none => false
theorem nAt_ok {c : SI} {i : Nat} {x : Str} (h : nAt c i x = true) : c.N[i]? = some x := by
  unfold nAt at h
  cases e : c.N[i]? with
  | none => rw [e] at h; cases h
  | some y =>
    rw [e] at h
    have h' : strE y x = true := h
    rw [strE_eq, beq_iff_eq] at h'
    rw [h']
def isV (c : SI) (x : Str) : Bool := let o := lkS c.sc.names x; kL o || kC o || kF o
theorem isV_ok {c : SI} {x : Str} (h : isV c x = true) : Vis c.sc x := by
  unfold isV at h
  rw [Bool.or_eq_true, Bool.or_eq_true, lkS_eq] at h
  rcases h with (h | h) | h
  · exact .inl (kL_ok h)
  · exact .inr (.inl (kC_ok h))
  · exact .inr (.inr (kF_ok h))
/-- a name that may be stored -/
def isW (c : SI) (x : Str) : Bool := let o := lkS c.sc.names x; kL o || (kC o && c.fn x)
theorem isW_ok {c : SI} {x : Str} (h : isW c x = true) : Loc c.sc x ∧ (c.fn x = true ∨ c.sc.names.lookup x = some .local) := by
  unfold isW at h
  rw [Bool.or_eq_true, Bool.and_eq_true, lkS_eq] at h
  rcases h with h | ⟨h, h2⟩
  · exact ⟨.inl (kL_ok h), .inr (kL_ok h)⟩
  · exact ⟨.inr (kC_ok h), .inl h2⟩
def notD (x : Str) : Bool := !strE x "__debug__" && !strE x "__classdict__" && !strE x "__name__"
theorem notD_ok {x : Str} (h : notD x = true) : (x == ("__debug__" : Str)) = false ∧ (x == ("__classdict__" : Str)) = false ∧ x ≠ "__name__" := by
  unfold notD at h
  rw [Bool.and_eq_true, Bool.and_eq_true, Bool.not_eq_true', Bool.not_eq_true', Bool.not_eq_true', strE_eq, strE_eq, strE_eq] at h
  exact ⟨h.1.1, h.1.2, fun z => by rw [z] at h; simp at h⟩
def isStar : Expr → Bool
  | .Starred .. => true
  | _ => false
theorem star_no {e : Expr} {es : List Expr} {env : Env} (h : isStar e = false) : starEach (e :: es) env = (false, eval e env) :: starEach es env := by
  cases e <;> first | rfl | cases h
theorem any_star {pos : Pos} {env : Env} : ∀ (es : List Expr), (backTo pos (starEach es env)).any (·.1) = es.any isStar
  | [] => rfl
  | e :: es => by
    rw [List.any_cons, ← any_star es]
    cases e <;> rfl
theorem assign_map {env : Env} : ∀ (e : Expr) (es : List Expr), isStar e = false → (assignEach (e :: es) env).map (·.2) = assign e env :: (assignEach es env).map (·.2) := fun e es h => by
  cases e <;> first | rfl | cases h
theorem assign_len {env : Env} : ∀ (es : List Expr), (assignEach es env).length = es.length
  | [] => rfl
  | e :: es => by
    rw [List.length_cons, ← assign_len es]
    cases e <;> rfl
theorem assign_find {env : Env} : ∀ (es : List Expr), es.any isStar = false → (assignEach es env).findIdx? (·.1) = none
  | [], _ => rfl
  | e :: es, h => by
    rw [List.any_cons, Bool.or_eq_false_iff] at h
    have ih := assign_find (env := env) es h.2
    have e1 : (assignEach (e :: es) env) = (false, assign e env) :: assignEach es env := by cases e <;> first | rfl | (cases h.1)
    rw [e1, List.findIdx?_cons]
    show (if false = true then _ else _) = _
    rw [if_neg (by decide), ih]
    rfl
def isComp : Expr → Bool
  | .ListComp .. => true
  | .SetComp .. => true
  | .DictComp .. => true
  | _ => false
theorem comp_no {e : Expr} {t : Option Expr} {l : Nat} {env : Env} (h : isComp e = false) : swapsWith e t l env = pure false := by
  cases e <;> first | rfl | cases h
theorem comp_sole {e : Expr} {t : Expr} {l : Nat} {env : Env} (h : isComp e = false) : swapsWithSole [t] e l env = pure false := comp_no h
def isSet : Expr → Bool
  | .Set .. => true
  | _ => false
theorem set_no {e : Expr} {env : Env} (h : isSet e = false) : ∀ x, foldedSetIterable e env x = pure x := fun x => by
  cases e <;> first | rfl | cases h
theorem mark_no {e : Expr} {op : CmpOp} (h : isSet e = false) : behindInMarks op e = false := by
  cases e <;> first | rfl | cases h
def isSlice : Expr → Bool
  | .Slice .. => true
  | _ => false
theorem ix_plain {e : Expr} (h : isSlice e = false) : PlainIx e := fun o i => by
  cases e <;> first | rfl | cases h
/-- an expression whose test is its value's truth -/
def isPlainT : Expr → Bool
  | .BoolOp .. => false
  | .UnaryOp .. => false
  | .Compare .. => false
  | .IfExp .. => false
  | .NamedExpr .. => false
  | _ => true
/-- super() alone is told apart ahead of a dot -/
def isCallE : Expr → Bool
  | .Call .. => true
  | _ => false
theorem base_no {e : Expr} {x : Str} {env : Env} {t : Sem Value} (h : isCallE e = false) : attributeBase e x env t = t := by
  cases e <;> first | rfl | cases h
theorem isTrue_plain {e : Expr} {env : Env} (h : isPlainT e = true) (w : Sem Value) : isTrue e env w = (do let v ← w; standAt e.pos; holding [v] (truthy v)) := by
  cases e <;> first | rfl | cases h
end Ev
end
end

/-! part EvY -/
section
set_option Elab.async false
set_option linter.all false
set_option maxRecDepth 100000
set_option maxHeartbeats 4000000
/-! EvY: zip of two sequences, each a list or a tuple. -/
noncomputable section
namespace Ev
open PySem PySem.Spec PyProof.Rows L2

/-- an iterator over a tuple (t) or a list -/
def ItK (t : Bool) (h : Heap) (i l : Addr) (k : Nat) : Prop := match t with
  | true => h.IsTupleIter i l k
  | false => h.IsListIter i l k
def SqK (t : Bool) (h : Heap) (l : Addr) (xs : Array Value) : Prop := match t with
  | true => h.IsTuple l xs
  | false => h.IsList l xs
def SqV (t : Bool) (K : PySem.W.Frag) (H : Hp) (a : Addr) (xs : List V) : Prop := match t with
  | true => SqT K H a xs
  | false => SqL K H a xs
def itC (t : Bool) : String := match t with
  | true => "tuple_iterator"
  | false => "list_iterator"
theorem ItK.ob {t : Bool} {h : Heap} {i l : Addr} {k : Nat} (x : ItK t h i l k) : ∃ o, h.get? i = some o ∧ o.cls = .type (itC t) ∧ o.data = .fields #[.ref l, .int k 0] := by cases t <;> exact x
theorem ItK.mk {t : Bool} {h : Heap} {i l : Addr} {k : Nat} (x : ∃ o, h.get? i = some o ∧ o.cls = .type (itC t) ∧ o.data = .fields #[.ref l, .int k 0]) : ItK t h i l k := by cases t <;> exact x
theorem ItK.at_ {t : Bool} {h h' : Heap} {i l : Addr} {k : Nat} (x : ItK t h i l k) (e : ∀ o, h.get? i = some o → h'.get? i = some o) : ItK t h' i l k := by
  obtain ⟨o, ho, r⟩ := x.ob
  exact .mk ⟨o, e o ho, r⟩
theorem ItK.ext {t : Bool} {h h' : Heap} {i l b : Addr} {k : Nat} (x : ItK t h i l k) (hs : Heap.ExtBut b h h') (n : i ≠ b) : ItK t h' i l k := x.at_ fun o e => hs i o n e
theorem SqK.ext {t : Bool} {h h' : Heap} {l b : Addr} {xs : Array Value} (x : SqK t h l xs) (hs : Heap.ExtBut b h h') (n : l ≠ b) : SqK t h' l xs := by
  cases t
  · exact Heap.IsList.extBut x hs n
  · exact Heap.IsTuple.extBut x hs n
theorem SqK.lt {t : Bool} {h : Heap} {l : Addr} {xs : Array Value} (x : SqK t h l xs) : l < h.objs.size := by
  cases t <;> (obtain ⟨o, ho, _⟩ := x; exact Heap.lt_size ho)
theorem inv_sq {X : Cx} {pins : List (Addr × Obj)} {σ : L2.St} {H : Hp} {s : Shared} (I : Inv X pins σ H s) {t : Bool} {a : Addr} {xs : List V} (h : SqV t X.K H a xs) : ∃ its, Vals xs its ∧ SqK t s.heap a its.toArray := by
  cases t
  · obtain ⟨its, rv, p, _⟩ := I.list h
    exact ⟨its, rv, p.isList⟩
  · obtain ⟨its, rv, p, _⟩ := I.tuple h
    exact ⟨its, rv, p⟩
theorem inv_inj {X : Cx} {pins : List (Addr × Obj)} {σ : L2.St} {H : Hp} {s : Shared} (I : Inv X pins σ H s) {t : Bool} {a : Addr} {xs ys : List V} (h : SqV t X.K H a xs) (h2 : SqV t X.K H a ys) : xs = ys := by
  cases t
  · exact I.list_inj h h2
  · exact I.tuple_inj h h2
section
variable {prog : Program} {w : World} {A : Around} {E : Value → Shared → Prop} {s : Shared}
theorem nx_item {t : Bool} {it l : Addr} {i : Nat} {items : Array Value} {x : Value} {Q : Value → Shared → Prop} (hit : ItK t s.heap it l i) (hl : SqK t s.heap l items) (hx : items[i]? = some x)
    (hQ : ∀ h', ItK t h' it l (i + 1) → Heap.SameBut it s.heap h' → Q x { s with heap := h' }) : wpAny (model prog w) A (Builtin.SmallTypes.nextOf (.ref it)) Q E s := by
  cases t
  · exact wpAny_nextOf_list_item hit hl hx hQ
  · exact RZ.nextOf_tuple_item hit hl hx hQ
theorem nx_end {t : Bool} {it l : Addr} {i : Nat} {items : Array Value} {Q : Value → Shared → Prop} (hh : A.handled = none) (hit : ItK t s.heap it l i) (hl : SqK t s.heap l items) (hx : items[i]? = none)
    (hE : ∀ h' e, Heap.ExtBut it s.heap h' → (∃ o, h'.get? e = some o ∧ o.cls = .type "StopIteration") → E (.ref e) { s with heap := h' }) : wpAny (model prog w) A (Builtin.SmallTypes.nextOf (.ref it)) Q E s := by
  cases t
  · exact wpAny_nextOf_list_end hh hit hl hx hE
  · exact RZ.nextOf_tuple_end hh hit hl hx hE
variable {t1 t2 : Bool} {z TI TO i1 i2 l1 l2 : Addr} {k1 k2 : Nat} {xs ys : Array Value} {x y a b : Value}
theorem zp_item {Q : Value → Shared → Prop} (D : ZipApart z TI TO i1 i2 l1 l2)
    (hz : IsZip s.heap z TI TO .none) (hTI : IsPair s.heap TI (.ref i1) (.ref i2)) (hTO : IsPair s.heap TO a b)
    (h1 : ItK t1 s.heap i1 l1 k1) (h2 : ItK t2 s.heap i2 l2 k2) (hl1 : SqK t1 s.heap l1 xs) (hl2 : SqK t2 s.heap l2 ys) (hx : xs[k1]? = some x) (hy : ys[k2]? = some y)
    (hQ : ∀ h', IsZip h' z TI TO (rawInt s.heap.objs.size) → IsPair h' TO x y → ItK t1 h' i1 l1 (k1 + 1) → ItK t2 h' i2 l2 (k2 + 1) → IsPair h' s.heap.objs.size x y → h'.objs.size = s.heap.objs.size + 1 →
      (∀ c o, c ≠ z → c ≠ TO → c ≠ i1 → c ≠ i2 → s.heap.get? c = some o → h'.get? c = some o) → Q (.ref s.heap.objs.size) { s with heap := h' }) :
    wpAny (model prog w) A (Builtin.«zip.__next__» ⟨[.ref z], []⟩) (fun fin s' => ∃ v, fin = .done (.ret v) ∧ Q v s') E s := by
  show wpAny _ _ (field (.ref z) 2 >>= _) _ _ _
  refine wpAny_bind (wpAny_field hz rfl (x := .bool false) rfl ?_)
  show wpAny _ _ (field (.ref z) 3 >>= _) _ _ _
  refine wpAny_bind (wpAny_field hz rfl (x := .ref TI) rfl ?_)
  refine wpAny_bind (wpAny_seqItems hTI rfl ?_)
  show wpAny _ _ (Builtin.SmallTypes.ownedTupleIsFree (.ref z) >>= _) _ _ _
  refine wpAny_bind ?_
  unfold Builtin.SmallTypes.ownedTupleIsFree
  refine wpAny_bind (wpAny_field hz rfl (x := .none) rfl (wpAny_pure ?_))
  simp only [if_true]
  refine wpAny_bind (wpAny_rule ?_)
  refine wpAny_bind (wpAny_field hz rfl (x := .ref TO) rfl ?_)
  refine wpAny_bind (wpAny_setField_rec hz (by simp) fun g1 z1 s1 => ?_)
  replace z1 : IsZip g1 z TI TO .ellipsis := z1
  refine wpAny_bind ?_
  simp only [List.zipIdx_cons, List.zipIdx_nil, List.forIn_cons, List.forIn_nil]
  refine wpAny_bind (wpAny_bind (wpAny_onRaise ?_))
  show wpAny _ _ (Builtin.SmallTypes.nextOf (.ref i1) >>= _) _ _ _
  refine wpAny_bind (nx_item (h1.ext s1.extBut D.i1z) (hl1.ext s1.extBut D.l1z) hx fun g2 h1' s2 => wpAny_pure ?_)
  have O2 : IsPair g2 TO a b := s2.extBut _ _ D.TOi1 (s1.extBut _ _ D.TOz hTO)
  refine wpAny_bind (wpAny_seqItems O2 rfl ?_)
  refine wpAny_bind (wpAny_updateSeq_pair O2 fun g3 O3 s3 => ?_)
  replace O3 : IsPair g3 TO x b := O3
  refine wpAny_bind (wpAny_letGo (wpAny_pure ?_))
  refine wpAny_bind (wpAny_bind (wpAny_onRaise ?_))
  show wpAny _ _ (Builtin.SmallTypes.nextOf (.ref i2) >>= _) _ _ _
  refine wpAny_bind (nx_item (((h2.ext s1.extBut D.i2z).ext s2.extBut D.i12.symm).ext s3.extBut D.TOi2.symm) (((hl2.ext s1.extBut D.l2z).ext s2.extBut D.l2i1).ext s3.extBut D.l2TO) hy fun g4 h2' s4 => wpAny_pure ?_)
  have O4 : IsPair g4 TO x b := s4.extBut _ _ D.TOi2 O3
  refine wpAny_bind (wpAny_seqItems O4 rfl ?_)
  refine wpAny_bind (wpAny_updateSeq_pair O4 fun g5 O5 s5 => ?_)
  replace O5 : IsPair g5 TO x y := O5
  refine wpAny_bind (wpAny_letGo (wpAny_pure (wpAny_pure ?_)))
  refine wpAny_bind (wpAny_seqItems O5 rfl ?_)
  refine wpAny_bind (wpAny_newTuple ?_)
  have hsz : g5.objs.size = s.heap.objs.size := by rw [s5.1, s4.1, s3.1, s2.1, s1.1]
  have z5 : IsZip g5 z TI TO .ellipsis := s5.extBut _ _ D.TOz.symm (s4.extBut _ _ D.i2z.symm (s3.extBut _ _ D.TOz.symm (s2.extBut _ _ D.i1z.symm z1)))
  have hk : ∀ c o, c ≠ z → c ≠ TO → c ≠ i1 → c ≠ i2 → s.heap.get? c = some o → g5.get? c = some o := fun c o c1 c2 c3 c4 e => s5.extBut _ _ c2 (s4.extBut _ _ c4 (s3.extBut _ _ c2 (s2.extBut _ _ c3 (s1.extBut _ _ c1 e))))
  have a1 : ItK t1 g5 i1 l1 (k1 + 1) := ((h1'.ext s3.extBut D.TOi1.symm).ext s4.extBut D.i12).ext s5.extBut D.TOi1.symm
  have a2 : ItK t2 g5 i2 l2 (k2 + 1) := h2'.ext s5.extBut D.TOi2.symm
  have lz : z < g5.objs.size := Heap.lt_size z5
  show wpAny _ _ (Builtin.SmallTypes.ownedTupleHandOut (.ref z) (.ref g5.objs.size) >>= _) _ _ _
  refine wpAny_bind ?_
  unfold Builtin.SmallTypes.ownedTupleHandOut
  have z6 : IsZip (g5.push { cls := .type "tuple", data := .seq #[x, y] }) z TI TO .ellipsis := Heap.get?_push_of_some _ z5
  refine wpAny_bind (wpAny_setField_rec z6 (by simp) fun g7 z7 s7 => ?_)
  replace z7 : IsZip g7 z TI TO (rawInt g5.objs.size) := z7
  refine wpAny_setField_rec z7 (by simp) fun g8 z8 s8 => ?_
  replace z8 : IsZip g8 z TI TO (rawInt g5.objs.size) := z8
  have up : ∀ c o, c ≠ z → g5.get? c = some o → g8.get? c = some o := fun c o c1 e => s8.extBut _ _ c1 (s7.extBut _ _ c1 (Heap.get?_push_of_some _ e))
  have T8 : IsPair g8 g5.objs.size x y := s8.extBut _ _ (Nat.ne_of_gt lz) (s7.extBut _ _ (Nat.ne_of_gt lz) (Heap.get?_push_size _ rfl))
  have n8 : g8.objs.size = g5.objs.size + 1 := by rw [s8.1, s7.1, Heap.size_push]
  rw [hsz] at z8 T8 n8
  refine wpAny_pure ⟨_, rfl, ?_⟩
  show Q (.ref g5.objs.size) _
  rw [hsz]
  exact hQ g8 z8 (up _ _ D.TOz O5) (a1.at_ fun o e => up _ o D.i1z e) (a2.at_ fun o e => up _ o D.i2z e) T8 n8 fun c o c1 c2 c3 c4 e => up c o c1 (hk c o c1 c2 c3 c4 e)
theorem zp_end {Q : Fin → Shared → Prop} (hh : A.handled = none) (D : ZipApart z TI TO i1 i2 l1 l2)
    (hz : IsZip s.heap z TI TO .none) (hTI : IsPair s.heap TI (.ref i1) (.ref i2)) (hTO : IsPair s.heap TO a b)
    (h1 : ItK t1 s.heap i1 l1 k1) (h2 : ItK t2 s.heap i2 l2 k2) (hl1 : SqK t1 s.heap l1 xs) (hl2 : SqK t2 s.heap l2 ys) (hend : xs[k1]? = none ∨ ys[k2]? = none)
    (hE : ∀ h' e, (∀ c o, c ≠ z → c ≠ TO → c ≠ i1 → c ≠ i2 → s.heap.get? c = some o → h'.get? c = some o) → (∃ o, h'.get? e = some o ∧ o.cls = .type "StopIteration") → E (.ref e) { s with heap := h' }) :
    wpAny (model prog w) A (Builtin.«zip.__next__» ⟨[.ref z], []⟩) Q E s := by
  show wpAny _ _ (field (.ref z) 2 >>= _) _ _ _
  refine wpAny_bind (wpAny_field hz rfl (x := .bool false) rfl ?_)
  show wpAny _ _ (field (.ref z) 3 >>= _) _ _ _
  refine wpAny_bind (wpAny_field hz rfl (x := .ref TI) rfl ?_)
  refine wpAny_bind (wpAny_seqItems hTI rfl ?_)
  show wpAny _ _ (Builtin.SmallTypes.ownedTupleIsFree (.ref z) >>= _) _ _ _
  refine wpAny_bind ?_
  unfold Builtin.SmallTypes.ownedTupleIsFree
  refine wpAny_bind (wpAny_field hz rfl (x := .none) rfl (wpAny_pure ?_))
  simp only [if_true]
  refine wpAny_bind (wpAny_rule ?_)
  refine wpAny_bind (wpAny_field hz rfl (x := .ref TO) rfl ?_)
  refine wpAny_bind (wpAny_setField_rec hz (by simp) fun g1 z1 s1 => ?_)
  replace z1 : IsZip g1 z TI TO .ellipsis := z1
  refine wpAny_bind ?_
  simp only [List.zipIdx_cons, List.zipIdx_nil, List.forIn_cons, List.forIn_nil]
  refine wpAny_bind (wpAny_bind (wpAny_onRaise ?_))
  show wpAny _ _ (Builtin.SmallTypes.nextOf (.ref i1) >>= _) _ _ _
  cases hx : xs[k1]? with
  | none =>
    refine wpAny_bind (nx_end hh (h1.ext s1.extBut D.i1z) (hl1.ext s1.extBut D.l1z) hx fun g2 e s2 he => ?_)
    obtain ⟨oe, hoe, hce⟩ := he
    have z2 : IsZip g2 z TI TO .ellipsis := s2 _ _ D.i1z.symm z1
    have ez : e ≠ z := fun q => by subst q; rw [z2] at hoe; cases hoe; simp at hce
    refine wpAny_setField_rec z2 (by simp) fun g3 _ s3 => hE g3 e (fun c o c1 _ c3 _ q => s3.extBut _ _ c1 (s2 _ _ c3 (s1.extBut _ _ c1 q))) ⟨oe, s3.extBut _ _ ez hoe, hce⟩
  | some x =>
    have hy : ys[k2]? = none := by
      rcases hend with h | h
      · rw [hx] at h; cases h
      · exact h
    refine wpAny_bind (nx_item (h1.ext s1.extBut D.i1z) (hl1.ext s1.extBut D.l1z) hx fun g2 h1' s2 => wpAny_pure ?_)
    have O2 : IsPair g2 TO a b := s2.extBut _ _ D.TOi1 (s1.extBut _ _ D.TOz hTO)
    refine wpAny_bind (wpAny_seqItems O2 rfl ?_)
    refine wpAny_bind (wpAny_updateSeq_pair O2 fun g3 O3 s3 => ?_)
    refine wpAny_bind (wpAny_letGo (wpAny_pure ?_))
    refine wpAny_bind (wpAny_bind (wpAny_onRaise ?_))
    show wpAny _ _ (Builtin.SmallTypes.nextOf (.ref i2) >>= _) _ _ _
    refine wpAny_bind (nx_end hh (((h2.ext s1.extBut D.i2z).ext s2.extBut D.i12.symm).ext s3.extBut D.TOi2.symm) (((hl2.ext s1.extBut D.l2z).ext s2.extBut D.l2i1).ext s3.extBut D.l2TO) hy fun g4 e s4 he => ?_)
    obtain ⟨oe, hoe, hce⟩ := he
    have z4 : IsZip g4 z TI TO .ellipsis := s4 _ _ D.i2z.symm (s3.extBut _ _ D.TOz.symm (s2.extBut _ _ D.i1z.symm z1))
    have ez : e ≠ z := fun q => by subst q; rw [z4] at hoe; cases hoe; simp at hce
    refine wpAny_setField_rec z4 (by simp) fun g5 _ s5 => hE g5 e (fun c o c1 c2 c3 c4 q => s5.extBut _ _ c1 (s4 _ _ c4 (s3.extBut _ _ c2 (s2.extBut _ _ c3 (s1.extBut _ _ c1 q))))) ⟨oe, s5.extBut _ _ ez hoe, hce⟩
theorem pn_item {Q : Option Value → Shared → Prop} (D : ZipApart z TI TO i1 i2 l1 l2)
    (hz : IsZip s.heap z TI TO .none) (hTI : IsPair s.heap TI (.ref i1) (.ref i2)) (hTO : IsPair s.heap TO a b)
    (h1 : ItK t1 s.heap i1 l1 k1) (h2 : ItK t2 s.heap i2 l2 k2) (hl1 : SqK t1 s.heap l1 xs) (hl2 : SqK t2 s.heap l2 ys) (hx : xs[k1]? = some x) (hy : ys[k2]? = some y)
    (hQ : ∀ h', IsZip h' z TI TO (rawInt s.heap.objs.size) → IsPair h' TO x y → ItK t1 h' i1 l1 (k1 + 1) → ItK t2 h' i2 l2 (k2 + 1) → IsPair h' s.heap.objs.size x y → h'.objs.size = s.heap.objs.size + 1 →
      (∀ c o, c ≠ z → c ≠ TO → c ≠ i1 → c ≠ i2 → s.heap.get? c = some o → h'.get? c = some o) → Q (some (.ref s.heap.objs.size)) { s with heap := h' }) :
    wpAny (model prog w) A (pyNext (.ref z)) Q E s := by
  have hT : s.TypeIs (.ref z) "zip" := ⟨_, hz, rfl⟩
  unfold pyNext
  exact wpAny_bind (wpAny_attempt (wpAny_callSpecial?_slot (name := Str.ofString "__next__") hT F.slot_zip_next
    (wpAny_call_entry F.slot_zip_next hT F.entry_zip_next (zp_item D hz hTI hTO h1 h2 hl1 hl2 hx hy fun h' a1 a2 a3 a4 a5 a6 a7 => wpAny_pure (hQ h' a1 a2 a3 a4 a5 a6 a7)) (F.args_zip_next_1 _))))
theorem pn_end {Q : Option Value → Shared → Prop} (hh : A.handled = none) (D : ZipApart z TI TO i1 i2 l1 l2)
    (hz : IsZip s.heap z TI TO .none) (hTI : IsPair s.heap TI (.ref i1) (.ref i2)) (hTO : IsPair s.heap TO a b)
    (h1 : ItK t1 s.heap i1 l1 k1) (h2 : ItK t2 s.heap i2 l2 k2) (hl1 : SqK t1 s.heap l1 xs) (hl2 : SqK t2 s.heap l2 ys) (hend : xs[k1]? = none ∨ ys[k2]? = none)
    (hQ : ∀ h', (∀ c o, c ≠ z → c ≠ TO → c ≠ i1 → c ≠ i2 → s.heap.get? c = some o → h'.get? c = some o) → Q none { s with heap := h' }) : wpAny (model prog w) A (pyNext (.ref z)) Q E s := by
  have hT : s.TypeIs (.ref z) "zip" := ⟨_, hz, rfl⟩
  unfold pyNext
  refine wpAny_bind (wpAny_attempt (wpAny_callSpecial?_slot (name := Str.ofString "__next__") hT F.slot_zip_next
    (wpAny_call_entry F.slot_zip_next hT F.entry_zip_next (zp_end hh D hz hTI hTO h1 h2 hl1 hl2 hend fun h' e hk he => ?_) (F.args_zip_next_1 _))))
  obtain ⟨o, ho, hc⟩ := he
  refine wpAny_bind (wpAny_isInstance (T := "StopIteration") (b := true) ⟨o, ho, hc⟩ isSubtype_stop ?_)
  exact wpAny_pure (hQ _ hk)
end
abbrev zA1 (t1 : Bool) (h : Heap) (l1 : Addr) : Heap := h.push { cls := .type (itC t1), data := .fields #[.ref l1, .int 0 0] }
abbrev zA2 (t1 t2 : Bool) (h : Heap) (l1 l2 : Addr) : Heap := (zA1 t1 h l1).push { cls := .type (itC t2), data := .fields #[.ref l2, .int 0 0] }
abbrev zA3 (t1 t2 : Bool) (h : Heap) (l1 l2 : Addr) : Heap := (zA2 t1 t2 h l1 l2).push { cls := .type "tuple", data := .seq #[.ref h.objs.size, .ref (zA1 t1 h l1).objs.size] }
abbrev zA4 (t1 t2 : Bool) (h : Heap) (l1 l2 : Addr) : Heap := (zA3 t1 t2 h l1 l2).push { cls := .type "tuple", data := .seq #[.none, .none] }
abbrev zA5 (t1 t2 : Bool) (h : Heap) (l1 l2 : Addr) : Heap := (zA4 t1 t2 h l1 l2).push { cls := .type "zip", data := .fields #[.none, .bool false, .bool false, .ref (zA2 t1 t2 h l1 l2).objs.size, .ref (zA3 t1 t2 h l1 l2).objs.size] }
theorem mz_new (t1 t2 : Bool) (l1 l2 : Addr) (xs ys : Array Value) :
    Meets (Builtin.«zip.__new__» ⟨[.type "zip", .ref l1, .ref l2], []⟩) (fun _ R s => SqK t1 s.heap l1 xs ∧ SqK t2 s.heap l2 ys ∧ R (.ok (.ret (.ref (zA4 t1 t2 s.heap l1 l2).objs.size))) { s with heap := zA5 t1 t2 s.heap l1 l2 }) :=
  .of_wp fun prog w A R s h => by
    obtain ⟨hp, g, d, tk, os⟩ := s; obtain ⟨hl1, hl2, h⟩ := h
    have hsub := sub_zip
    cases t1 <;> cases t2
    · have hL1 : Heap.IsList (Shared.heap ⟨hp, g, d, tk, os⟩) l1 xs := hl1
      have hL2 : Heap.IsList (Shared.heap ⟨hp.push { cls := .type "list_iterator", data := .fields #[.ref l1, .int 0 0] }, g, d, tk, os⟩) l2 ys := Heap.IsList.push hl2 _
      wp_walk using wpAny_pyIter_list hL1, wpAny_pyIter_list hL2
      exact ⟨_, rfl, h⟩
    · have hL1 : Heap.IsList (Shared.heap ⟨hp, g, d, tk, os⟩) l1 xs := hl1
      have hL2 : Heap.IsTuple (Shared.heap ⟨hp.push { cls := .type "list_iterator", data := .fields #[.ref l1, .int 0 0] }, g, d, tk, os⟩) l2 ys := Heap.IsTuple.push hl2 _
      wp_walk using wpAny_pyIter_list hL1, wpAny_pyIter_tuple hL2
      exact ⟨_, rfl, h⟩
    · have hL1 : Heap.IsTuple (Shared.heap ⟨hp, g, d, tk, os⟩) l1 xs := hl1
      have hL2 : Heap.IsList (Shared.heap ⟨hp.push { cls := .type "tuple_iterator", data := .fields #[.ref l1, .int 0 0] }, g, d, tk, os⟩) l2 ys := Heap.IsList.push hl2 _
      wp_walk using wpAny_pyIter_tuple hL1, wpAny_pyIter_list hL2
      exact ⟨_, rfl, h⟩
    · have hL1 : Heap.IsTuple (Shared.heap ⟨hp, g, d, tk, os⟩) l1 xs := hl1
      have hL2 : Heap.IsTuple (Shared.heap ⟨hp.push { cls := .type "tuple_iterator", data := .fields #[.ref l1, .int 0 0] }, g, d, tk, os⟩) l2 ys := Heap.IsTuple.push hl2 _
      wp_walk using wpAny_pyIter_tuple hL1, wpAny_pyIter_tuple hL2
      exact ⟨_, rfl, h⟩
section
variable {prog : Program} {w : World} {A : Around} {E : Value → Shared → Prop} {s : Shared}
theorem zp_call {t1 t2 : Bool} {l1 l2 : Addr} {xs ys : Array Value} {Q : Value → Shared → Prop} (hl1 : SqK t1 s.heap l1 xs) (hl2 : SqK t2 s.heap l2 ys)
    (h : ∀ h', IsZip h' (s.heap.objs.size + 4) (s.heap.objs.size + 2) (s.heap.objs.size + 3) .none → IsPair h' (s.heap.objs.size + 2) (.ref s.heap.objs.size) (.ref (s.heap.objs.size + 1)) →
      IsPair h' (s.heap.objs.size + 3) .none .none → ItK t1 h' s.heap.objs.size l1 0 → ItK t2 h' (s.heap.objs.size + 1) l2 0 → h'.objs.size = s.heap.objs.size + 5 →
      (∀ c o, s.heap.get? c = some o → h'.get? c = some o) → Q (.ref (s.heap.objs.size + 4)) { s with heap := h' }) : wpAny (model prog w) A (call (.type "zip") [.ref l1, .ref l2]) Q E s := by
  refine callType_new F.called_zip (by decide) (F.typeCall_zip_2 _ _) (F.newCall_zip_2 _ _) (fun obj => F.args_object_init_3 obj _ _) F.entry_zip_new (mz_new t1 t2 l1 l2 xs ys) ⟨hl1, hl2, ?_⟩
  have z1 : (zA1 t1 s.heap l1).objs.size = s.heap.objs.size + 1 := Heap.size_push ..
  have z2 : (zA2 t1 t2 s.heap l1 l2).objs.size = s.heap.objs.size + 2 := by rw [Heap.size_push, z1]
  have z3 : (zA3 t1 t2 s.heap l1 l2).objs.size = s.heap.objs.size + 3 := by rw [Heap.size_push, z2]
  have z4 : (zA4 t1 t2 s.heap l1 l2).objs.size = s.heap.objs.size + 4 := by rw [Heap.size_push, z3]
  have z5 : (zA5 t1 t2 s.heap l1 l2).objs.size = s.heap.objs.size + 5 := by rw [Heap.size_push, z4]
  have g5 : (zA5 t1 t2 s.heap l1 l2).get? (zA4 t1 t2 s.heap l1 l2).objs.size = some _ := Heap.get?_push_size _ rfl
  have g4 : (zA5 t1 t2 s.heap l1 l2).get? (zA3 t1 t2 s.heap l1 l2).objs.size = some _ := Heap.get?_push_of_some _ (Heap.get?_push_size _ rfl)
  have g3 : (zA5 t1 t2 s.heap l1 l2).get? (zA2 t1 t2 s.heap l1 l2).objs.size = some _ := Heap.get?_push_of_some _ (Heap.get?_push_of_some _ (Heap.get?_push_size _ rfl))
  have g2 : (zA5 t1 t2 s.heap l1 l2).get? (zA1 t1 s.heap l1).objs.size = some _ := Heap.get?_push_of_some _ (Heap.get?_push_of_some _ (Heap.get?_push_of_some _ (Heap.get?_push_size _ rfl)))
  have g1 : (zA5 t1 t2 s.heap l1 l2).get? s.heap.objs.size = some _ := Heap.get?_push_of_some _ (Heap.get?_push_of_some _ (Heap.get?_push_of_some _ (Heap.get?_push_of_some _ (Heap.get?_push_size _ rfl))))
  show _ ∧ _
  rw [z2, z3, z4] at g5
  rw [z1, z2] at g3
  rw [z3] at g4
  rw [z1] at g2
  rw [z4]
  exact ⟨⟨_, g5, rfl⟩, h _ g5 g3 g4 (.mk ⟨_, g1, rfl, rfl⟩) (.mk ⟨_, g2, rfl, rfl⟩) z5 fun c o q =>
    Heap.get?_push_of_some _ (Heap.get?_push_of_some _ (Heap.get?_push_of_some _ (Heap.get?_push_of_some _ (Heap.get?_push_of_some _ q))))⟩
end
end Ev
end
end

/-! part EvZ -/
section
set_option Elab.async false
set_option linter.all false
set_option maxRecDepth 100000
set_option maxHeartbeats 4000000
/-! EvZ: zip as an iterable. -/
noncomputable section
namespace Ev
open PySem PySem.Spec PyProof.Rows L2

def Itq (t1 t2 : Bool) (K : PySem.W.Frag) (a b : Addr) : It :=
  ⟨fun i H => ∃ (xs ys : List V) (x y : V), SqV t1 K H a xs ∧ SqV t2 K H b ys ∧ xs[i]? = some x ∧ ys[i]? = some y,
    fun i H v H' => ∃ T x y, v = .ref T ∧ H T = none ∧ H' = upd H T (.tup [x, y]) ∧ (∀ xs, SqV t1 K H a xs → xs[i]? = some x) ∧ ∀ ys, SqV t2 K H b ys → ys[i]? = some y,
    fun i H => ∃ xs ys : List V, SqV t1 K H a xs ∧ SqV t2 K H b ys ∧ (xs.length ≤ i ∨ ys.length ≤ i)⟩
theorem turn_zp {t1 t2 : Bool} {P : Program} {w : World} {K : PySem.W.Frag} {elts : List Expr} {kk : Nat} {tpos : Pos} {a b z TI TO i1 i2 : Addr} (D : ZipApart z TI TO i1 i2 a b) :
    Turn P w K (.Tuple elts kk tpos) (Itq t1 t2 K a b) [z, TI, TO, i1, i2] z (fun i h => IsZip h z TI TO .none ∧ IsPair h TI (.ref i1) (.ref i2) ∧ (∃ x y, IsPair h TO x y) ∧ ItK t1 h i1 a i ∧ ItK t2 h i2 b i) where
  mem := by simp
  obj := fun i h st c hc => by
    obtain ⟨hz, hTI, ⟨x, y, hTO⟩, h1, h2⟩ := st
    obtain ⟨o1, e1, _, d1⟩ := h1.ob
    obtain ⟨o2, e2, _, d2⟩ := h2.ob
    have e' : c = z ∨ c = TI ∨ c = TO ∨ c = i1 ∨ c = i2 := by simpa using hc
    rcases e' with q | q | q | q | q
    · rw [q]; exact ⟨_, hz, fun v q => nomatch q⟩
    · rw [q]; exact ⟨_, hTI, fun v q => nomatch q⟩
    · rw [q]; exact ⟨_, hTO, fun v q => nomatch q⟩
    · rw [q]; exact ⟨o1, e1, fun v q => by rw [d1] at q; cases q⟩
    · rw [q]; exact ⟨o2, e2, fun v q => by rw [d2] at q; cases q⟩
  keep := fun i h h' st k => by
    obtain ⟨hz, hTI, ⟨x, y, hTO⟩, h1, h2⟩ := st
    exact ⟨k z (by simp) _ hz, k TI (by simp) _ hTI, ⟨x, y, k TO (by simp) _ hTO⟩, h1.at_ fun o q => k i1 (by simp) o q, h2.at_ fun o q => k i2 (by simp) o q⟩
  item := by
    intro X hP hw hK hc i pins s σ H E I hf st hg
    subst hP hw hK
    obtain ⟨hz, hTI, ⟨x0, y0, hTO⟩, h1, h2⟩ := st
    obtain ⟨xs, ys, x, y, hqx, hqy, hx, hy⟩ := hg
    obtain ⟨its, rv, p⟩ := inv_sq I hqx
    obtain ⟨its2, rv2, p2⟩ := inv_sq I hqy
    obtain ⟨u, hu, ru⟩ := rv.get hx
    obtain ⟨u2, hu2, ru2⟩ := rv2.get hy
    have hzl : z < s.heap.objs.size := Heap.lt_size hz
    refine pn_item D hz hTI hTO h1 h2 p p2 (x := u) (y := u2) (by simpa using hu) (by simpa using hu2) fun h' z' TO' h1' h2' hT hsz hk => ?_
    refine ⟨_, rfl, wpAny_letOwnedTupleGo_zip (s := { s with heap := h' }) z' fun h'' z'' sb => ?_⟩
    have hT2 : h''.get? s.heap.objs.size = some { cls := .type "tuple", data := .seq #[u, u2] } := (sb.2 _ (Nat.ne_of_gt hzl)).trans hT
    have new : ObjOk X.prog X.w (upd H s.heap.objs.size (.tup [x, y])) h'' s.heap.objs.size (.tup [x, y]) :=
      ⟨by show 2 ≤ sizeLine; decide, [u, u2], .cons ru (.cons ru2 .nil), ⟨_, hT2, rfl, _, rfl⟩⟩
    have I1 : Inv X pins σ (upd H s.heap.objs.size (.tup [x, y])) { s with heap := h'' } :=
      I.turnedNew (t' := s.toks) (ch := [z, TI, TO, i1, i2]) (fun c o hb q => (sb.2 c (fun q' => hb (by simp [q']))).trans (hk c o (fun q' => hb (by simp [q'])) (fun q' => hb (by simp [q'])) (fun q' => hb (by simp [q'])) (fun q' => hb (by simp [q'])) q)) hf (Nat.le_refl _) new
    refine ⟨.ref s.heap.objs.size, _, I1, rfl, ⟨_, x, y, rfl, I.hok.fresh (Nat.le_refl _), rfl, fun l hl => by rw [inv_inj I hl hqx]; exact hx, fun l hl => by rw [inv_inj I hl hqy]; exact hy⟩, ⟨z'', ?_, ⟨u, u2, ?_⟩, ?_, ?_⟩, fun c hcm => ?_⟩
    · exact (sb.2 _ D.TIz).trans (hk _ _ D.TIz D.TITO D.TIi1 D.TIi2 hTI)
    · exact (sb.2 _ D.TOz).trans TO'
    · exact h1'.at_ fun o q => (sb.2 _ D.i1z).trans q
    · exact h2'.at_ fun o q => (sb.2 _ D.i2z).trans q
    · have hlt : c < s.heap.objs.size := by
        have e' : c = z ∨ c = TI ∨ c = TO ∨ c = i1 ∨ c = i2 := by simpa using hcm
        rcases e' with q | q | q | q | q
        · rw [q]; exact hzl
        · rw [q]; exact Heap.lt_size hTI
        · rw [q]; exact Heap.lt_size hTO
        · rw [q]; obtain ⟨_, e1, _⟩ := h1.ob; exact Heap.lt_size e1
        · rw [q]; obtain ⟨_, e2, _⟩ := h2.ob; exact Heap.lt_size e2
      rw [upd_ne (Nat.ne_of_lt hlt)]
      exact (hf c hcm).1
  done := by
    intro X hP hw hK hc i pins s σ H E I hf st hg
    subst hP hw hK
    obtain ⟨hz, hTI, ⟨x0, y0, hTO⟩, h1, h2⟩ := st
    obtain ⟨xs, ys, hqx, hqy, hend⟩ := hg
    obtain ⟨its, rv, p⟩ := inv_sq I hqx
    obtain ⟨its2, rv2, p2⟩ := inv_sq I hqy
    have l1 := rv.length
    have l2 := rv2.length
    have he : its.toArray[i]? = none ∨ its2.toArray[i]? = none := by
      rcases hend with q | q
      · exact .inl (by simp; omega)
      · exact .inr (by simp; omega)
    exact pn_end (I.ok.hd hc) D hz hTI hTO h1 h2 p p2 he fun h' hk => ⟨rfl, I.turnedL (t' := s.toks) (ch := [z, TI, TO, i1, i2]) (fun c o hb q =>
      hk c o (fun q' => hb (by simp [q'])) (fun q' => hb (by simp [q'])) (fun q' => hb (by simp [q'])) (fun q' => hb (by simp [q'])) q) hf⟩
  self := fun A i s Q E st h => wpAny_pyIter_zip st.1 h
/-- zip(e, e2) -/
def iZq (K : PySem.W.Frag) (ta : TA) : TI := fun σ H R => ta σ H fun vs H1 => ∃ t1 t2 a b xs ys, vs = [.ref a, .ref b] ∧ SqV t1 K H1 a xs ∧ SqV t2 K H1 b ys ∧ R (Itq t1 t2 K a b) H1
theorem pi_zq {X : Cx} {e e2 : Expr} {ta : TA} {p pos tpos : Pos} {elts : List Expr} {kk : Nat} (hg : Gl X "zip") (hm : X.mg "zip" = none) (ha : PA X [e, e2] ta)
    (hs : starEach [e, e2] X.env = (false, eval e X.env) :: starEach [e2] X.env) (hpl : (backTo pos (starEach [e2] X.env)).any (·.1) = false) :
    PI X (.Tuple elts kk tpos) (.Call (.Name "zip" p) [e, e2] [] pos) (iZq X.K ta) := by
  refine ⟨fun pins s σ H R I h => ?_⟩
  refine Call_ (ld_blt I hg hm PyProof.Rows.boot_zip (PyProof.Rows.callWith_type1 (thn (ha.run pos pins s σ H _ I h) fun us s1 ⟨vs, H1, I1, r1, q1⟩ => ?_) hs hpl))
  obtain ⟨t1, t2, a, b, xs, ys, ex, hqx, hqy, q⟩ := q1
  subst ex
  cases r1 with
  | cons r rr =>
    cases rr with
    | cons r' rr =>
      cases rr
      cases r
      cases r'
      obtain ⟨its, rv, p1⟩ := inv_sq I1 hqx
      obtain ⟨its2, rv2, p2⟩ := inv_sq I1 hqy
      have la : a < s1.heap.objs.size := p1.lt
      have lb : b < s1.heap.objs.size := p2.lt
      refine zp_call p1 p2 fun h' hz hTI hTO h1 h2 hsz hk => wpAny_pyIter_zip hz ?_
      have I2 : Inv X pins σ H1 { s1 with heap := h' } := I1.kept (t' := s1.toks) hk
      refine ⟨s1.heap.objs.size + 4, [s1.heap.objs.size + 4, s1.heap.objs.size + 2, s1.heap.objs.size + 3, s1.heap.objs.size, s1.heap.objs.size + 1], _, _, H1, rfl, I2, turn_zp (PySem.W.ktu_apart s1.heap.objs.size a b la lb), ⟨hz, hTI, ⟨_, _, hTO⟩, h1, h2⟩, fun c hcm => ?_, q⟩
      have e' : c = s1.heap.objs.size + 4 ∨ c = s1.heap.objs.size + 2 ∨ c = s1.heap.objs.size + 3 ∨ c = s1.heap.objs.size ∨ c = s1.heap.objs.size + 1 := by simpa using hcm
      have hle : s1.heap.objs.size ≤ c := by
        rcases e' with z | z | z | z | z
        · rw [z]; exact Nat.le_add_right _ _
        · rw [z]; exact Nat.le_add_right _ _
        · rw [z]; exact Nat.le_add_right _ _
        · rw [z]; exact Nat.le_refl _
        · rw [z]; exact Nat.le_add_right _ _
      exact I1.fpOk hle (I1.hok.fresh hle)
/-! ### in the evaluator -/
def zipD : List D → List D → List D := List.rec (motive := fun _ => List D → List D) (fun _ => []) fun x _ ih l => List.rec (motive := fun _ => List D) [] (fun y r _ => .tup [x, y] :: ih r) l
theorem zipD_get : ∀ {l l2 : List D} {i : Nat} {d : D}, (zipD l l2)[i]? = some d → ∃ x y, l[i]? = some x ∧ l2[i]? = some y ∧ d = .tup [x, y]
  | [], l2, i, d, h => by
    have h' : ([] : List D)[i]? = some d := h
    simp at h'
  | x :: l, [], i, d, h => by
    have h' : ([] : List D)[i]? = some d := h
    simp at h'
  | x :: l, y :: l2, 0, d, h => by
    have h' : (D.tup [x, y] :: zipD l l2)[0]? = some d := h
    simp at h'
    exact ⟨x, y, rfl, rfl, h'.symm⟩
  | x :: l, y :: l2, i + 1, d, h => by
    have h' : (D.tup [x, y] :: zipD l l2)[i + 1]? = some d := h
    rw [List.getElem?_cons_succ] at h'
    obtain ⟨a, b, h1, h2, h3⟩ := zipD_get h'
    exact ⟨a, b, by simpa using h1, by simpa using h2, h3⟩
theorem zipD_len : ∀ {l l2 : List D}, (zipD l l2).length = min l.length l2.length
  | [], l2 => by show ([] : List D).length = _; simp
  | x :: l, [] => by show ([] : List D).length = _; simp
  | x :: l, y :: l2 => by
    show (D.tup [x, y] :: zipD l l2).length = _
    rw [List.length_cons, zipD_len]
    simp only [List.length_cons]
    omega
def iZp (a b : XE) : XI := fun e s k x => a e s (fun u s1 => b e s1 (fun v s2 => hld u s2 fun l s3 rel => hld v s3 fun l2 s4 rel2 => k (zipD l l2) s4 fun s5 kk => rel2 s5 fun s6 => rel s6 kk) x) x
section
variable {B : Bs} {E : XK} {X : Cx} {m : Md} {s : S} {H : Hp}
/-- a sequence, held -/
structure Held (B : Bs) (t : Bool) (a : Addr) (xs : List V) (m : Md) (s : S) (H : Hp) (l : List D) : Prop where
  sq : ∀ m' s' H', Post m s H m' s' H' → AR B m' s' H' → SqV t B.K H' a xs
  rd : RDws B m s H l xs
theorem RelOk.comp {m : Md} {s s1 s2 : S} {H : Hp} {rel rel2 : Rel} (h1 : RelOk B m s H s1 rel) (h2 : RelOk B m s1 H s2 rel2) : RelOk B m s H s2 (fun s5 kk => rel2 s5 fun s6 => rel s6 kk) := fun m' s' H' k p a h => by
  obtain ⟨s3, e1, p1, a1, r1⟩ := h2 m' s' H' _ p a h
  obtain ⟨s4, e2, p2, a2, r2⟩ := h1 m' s3 H' k p1 a1 e1
  exact ⟨s4, e2, p2, a2, fun d v q => r2 d v (r1 d v q)⟩
/-- a sequence held, wherever hidden lists have got to -/
structure Hk (B : Bs) (t : Bool) (a : Addr) (xs : List V) (m : Md) (s : S) (H : Hp) (s1 : S) (rel : Rel) (l : List D) : Prop where
  all : ∀ H2, GrE m s H H2 → AR B m s H2 → Post m s H2 m s1 H2 ∧ AR B m s1 H2 ∧ RelOk B m s H2 s1 rel ∧ ∃ ys, Held B t a ys m s1 H2 l
  now : Held B t a xs m s1 H l
theorem hld2 {d : D} {v : V} {k : KI} (ar : AR B m s H) (r : RDw B m s H d v) (h : hld d s k = true) :
    ∃ t a xs l s1 rel, v = .ref a ∧ Hk B t a xs m s H s1 rel l ∧ k l s1 rel = true := by
  have key : ∃ t a l s1 rel, v = .ref a ∧ (∀ H2, GrE m s H H2 → AR B m s H2 → Post m s H2 m s1 H2 ∧ AR B m s1 H2 ∧ RelOk B m s H2 s1 rel ∧ ∃ ys, Held B t a ys m s1 H2 l) ∧ k l s1 rel = true := by
    cases d with
    | tup l =>
      have r0 := r
      obtain ⟨a, xs, e, q, t⟩ := r
      refine ⟨true, a, l, s, noRel, e, fun H2 g ar2 => ?_, h⟩
      obtain ⟨a', xs', e', q', t'⟩ := g.rd ar r0
      rw [e] at e'
      cases e'
      exact ⟨.refl, ar2, relOk_no, xs', fun m' s' H' p a' => (p.stay ar2).sqT q', t'⟩
    | tm l =>
      have r0 := r
      obtain ⟨a, xs, o, e, q, n, t⟩ := r
      refine ⟨true, a, l, s, noRel, e, fun H2 g ar2 => ?_, h⟩
      obtain ⟨a', xs', o', e', q', n', t'⟩ := g.rd ar r0
      rw [e] at e'
      cases e'
      exact ⟨.refl, ar2, relOk_no, xs', fun m' s' H' p a' => .inl (.inr ⟨o', p.stay ar2 |>.frz q'⟩), t'⟩
    | fl l =>
      have r0 := r
      obtain ⟨a, xs, e, q, n, t⟩ := r
      refine ⟨false, a, l, s, noRel, e, fun H2 g ar2 => ?_, h⟩
      obtain ⟨a', xs', e', q', n', t'⟩ := g.rd ar r0
      rw [e] at e'
      cases e'
      exact ⟨.refl, ar2, relOk_no, xs', fun m' s' H' p a' => sq_lst (p.keep _ _ q' (fun z => n' z.al) (fun ps z => by cases z)), t'⟩
    | ref n =>
      obtain ⟨_, e⟩ := r
      obtain ⟨nl, no, os⟩ := s
      have h' : Option.rec (motive := fun _ => Bool) false (fun o => O.rec (motive := fun _ => Bool) (fun l => k l (.mk nl no (osSet os n (.fz l))) (unh n l)) (fun l => k l (.mk nl no os) noRel) (fun _ => false) (fun _ => false) false false o) (osGet os n) = true := h
      cases hg : osGet os n with
      | none => rw [hg] at h'; exact absurd (show false = true from h') Bool.false_ne_true
      | some o =>
        rw [hg] at h'
        cases o with
        | lst l =>
          refine ⟨false, _, l, _, unh n l, e, fun H2 g ar2 => ?_, h'⟩
          obtain ⟨xs2, hx2, rx2⟩ := ar2.obj n _ hg
          obtain ⟨p1, a1⟩ := hold ar2 hg
          refine ⟨p1, a1, fun m' s' H' k' p a' hk => ?_, xs2, fun m' s' H' p a' => sq_lst (p.keep _ _ hx2 (fun z => ?_) (fun ps z => by cases z)), p1.rds ar2 rx2⟩
          · obtain ⟨nl', no', os'⟩ := s'
            obtain ⟨P, A, R⟩ := unhold ar2 hg p a'
            exact ⟨_, hk, P, A, R⟩
          · obtain ⟨i, o, ei, w, q⟩ := z
            have ei' : osGet (osSet os n (.fz l)) i = some o := ei
            rw [osSet_get] at ei'
            by_cases e2 : i = n
            · rw [if_pos e2, e2, hg] at ei'
              cases ei'
              cases w
            · rw [if_neg e2] at ei'
              exact e2 (ar.inj i n o _ ei' hg q)
        | fz l =>
          refine ⟨false, _, l, _, noRel, e, fun H2 g ar2 => ?_, h'⟩
          obtain ⟨xs2, hx2, rx2⟩ := ar2.obj n _ hg
          refine ⟨.refl, ar2, relOk_no, xs2, fun m' s' H' p a' => sq_lst (p.keep _ _ hx2 (fun z => ?_) (fun ps z => by cases z)), rx2⟩
          obtain ⟨i, o, ei, w, q⟩ := z
          have e2 := ar.inj i n o _ ei hg q
          subst e2
          have ei' : osGet os i = some o := ei
          rw [hg] at ei'
          cases ei'
          cases w
        | dK _ => exact absurd (show false = true from h') Bool.false_ne_true
        | dT _ => exact absurd (show false = true from h') Bool.false_ne_true
        | bag => exact absurd (show false = true from h') Bool.false_ne_true
        | hid => exact absurd (show false = true from h') Bool.false_ne_true
    | _ => exact absurd (show false = true from h) Bool.false_ne_true
  obtain ⟨t, a, l, s1, rel, e, q, h2⟩ := key
  obtain ⟨_, _, _, ys, hd⟩ := q H .refl ar
  exact ⟨t, a, ys, l, s1, rel, e, ⟨q, hd⟩, h2⟩
theorem walk_zp {t1 t2 : Bool} {a b : Addr} {xs ys : List V} {l l2 : List D} (ar : AR B m s H) (h1 : Held B t1 a xs m s H l) (h2 : Held B t2 b ys m s H l2) : Walks B (Itq t1 t2 B.K a b) m s H (zipD l l2) := by
  have len1 := rds_len h1.rd
  have len2 := rds_len h2.rd
  refine ⟨fun i d m' s' H' p a' hi => ?_, fun m' s' H' p a' => ⟨xs, ys, h1.sq _ _ _ p a', h2.sq _ _ _ p a', by rw [zipD_len, ← len1, ← len2]; omega⟩⟩
  obtain ⟨x, y, g1, g2, ed⟩ := zipD_get hi
  subst ed
  obtain ⟨v, e1, r1⟩ := rds_get (p.rds ar h1.rd) g1
  obtain ⟨w, e2, r2⟩ := rds_get (p.rds ar h2.rd) g2
  refine ⟨⟨xs, ys, v, w, h1.sq _ _ _ p a', h2.sq _ _ _ p a', e1, e2⟩, fun u H2 ⟨T, v', w', eu, hT, eH, q1, q2⟩ => ?_⟩
  have ev := q1 xs (h1.sq _ _ _ p a')
  rw [e1] at ev
  cases ev
  have ew := q2 ys (h2.sq _ _ _ p a')
  rw [e2] at ew
  cases ew
  subst eu eH
  have P := post_new (m := m') (s := s') (o := .tup [v, w]) hT
  exact ⟨P, ar_new a' hT, ⟨T, [v, w], rfl, .inl (.inl upd_same), v, [w], rfl, P.rd a' r1, w, [], rfl, P.rd a' r2, rfl⟩⟩
theorem i_zip {e e2 : Expr} {xa xb : XE} {p pos tpos : Pos} {elts : List Expr} {kk : Nat} (hK : X.K = B.K) (hg : Gl X "zip") (hm : X.mg "zip" = none) (ha : PE X e (TX B E xa)) (hb : PE X e2 (TX B E xb))
    (hs : starEach [e, e2] X.env = [(false, eval e X.env), (false, eval e2 X.env)]) (hs2 : starEach [e2] X.env = [(false, eval e2 X.env)]) (hpl : (backTo pos (starEach [e2] X.env)).any (·.1) = false) :
    PI X (.Tuple elts kk tpos) (.Call (.Name "zip" p) [e, e2] [] pos) (TIr B E (iZp xa xb)) := wkI (pi_zq hg hm (a_cons ha (a_cons hb a_nil hs2) (by rw [hs, hs2])) (by rw [hs, hs2]) hpl) fun σ H R ⟨m, s, env, ki, kx, ar, er, hx, hk, hkx⟩ =>
  ⟨m, s, env, fun us s1 => twoD us fun u v => hld u s1 fun l s3 rel => hld v s3 fun l2 s4 rel2 => ki (zipD l l2) s4 fun s5 kk => rel2 s5 fun s6 => rel s6 kk, kx, ar, er, hx, fun us m1 s1 H1 zs p1 a1 r1 h1 => by
    obtain ⟨u, v, e0, h0⟩ := twoD_ok h1
    subst e0
    have h1 : hld u s1 (fun l s3 rel => hld v s3 fun l2 s4 rel2 => ki (zipD l l2) s4 fun s5 kk => rel2 s5 fun s6 => rel s6 kk) = true := h0
    obtain ⟨x, y, ex, rx, ry⟩ := rds2 r1
    subst ex
    obtain ⟨t1, a, xs, l, s3, rel, ea, hd1, h2⟩ := hld2 a1 rx h1
    obtain ⟨q1, b1, ro1, _⟩ := hd1.all H1 .refl a1
    obtain ⟨t2, b, ys, l2, s4, rel2, eb, hd2, h3⟩ := hld2 b1 (q1.rd a1 ry) h2
    obtain ⟨q2, b2, ro2, _⟩ := hd2.all H1 .refl b1
    subst ea eb
    rw [hK]
    refine ⟨t1, t2, a, b, xs, ys, rfl, hd1.now.sq _ _ _ q2 b2, hd2.now.sq _ _ _ .refl b2, hk _ m1 s1 H1 s4 _ _ p1 a1 ⟨fun H2 g ar2 => ?_⟩ h3⟩
    obtain ⟨q1', b1', ro1', xs', hd1'⟩ := hd1.all H2 g ar2
    obtain ⟨q2', b2', ro2', ys', hd2'⟩ := hd2.all H2 (g.on q1.fzp) b1'
    have hd1'' : Held B t1 a xs' m1 s4 H2 l := ⟨fun m' s' H' p a' => hd1'.sq _ _ _ (q2'.trans p) a', q2'.rds b1' hd1'.rd⟩
    exact ⟨q1'.trans q2', b2', ro1'.comp ro2', walk_zp b2' hd1'' hd2'⟩, hkx⟩
end
/-! ### {} -/
def xDic (t : Bool) : XE := fun _ s k _ => newO s (Bool.rec (motive := fun _ => O) (.dK []) (.dT []) t) k
theorem x_dic {X : Cx} {B : Bs} {E : XK} {pos : Pos} (t : Bool) : PE X (.Dict [] [] pos) (TX B E (xDic t)) := by
  cases t
  · refine wkE pe_dnewK fun σ H Q ⟨m, s, env, k, kx, ar, er, hx, hk, hkx⟩ => ?_
    intro p hp
    obtain ⟨nl, no, os⟩ := s
    have hx' : newO (.mk nl no os) (.dK []) k = true := hx
    rw [newO_eq] at hx'
    obtain ⟨P, A, R⟩ := made ar hp (u := .dK []) (o := .dK []) fun m' s' H' _ h => ⟨[], h, rfl⟩
    exact hk _ _ _ _ _ P A R hx'
  · refine wkE pe_dnewT fun σ H Q ⟨m, s, env, k, kx, ar, er, hx, hk, hkx⟩ => ?_
    intro p hp
    obtain ⟨nl, no, os⟩ := s
    have hx' : newO (.mk nl no os) (.dT []) k = true := hx
    rw [newO_eq] at hx'
    obtain ⟨P, A, R⟩ := made ar hp (u := .dT []) (o := .dT []) fun m' s' H' _ h => .inl ⟨rfl, h⟩
    exact hk _ _ _ _ _ P A R hx'
end Ev
end
end

/-! part EvAD -/
section
set_option Elab.async false
set_option linter.all false
set_option maxRecDepth 100000
set_option maxHeartbeats 4000000
/-! EvAD: max(1, min(K, len(script))): any number from 1 to K. -/
noncomputable section
namespace Ev
open PySem PySem.Spec PyProof.Rows L2

def allN (k : Nat → Bool) : Nat → Bool := Nat.rec (motive := fun _ => Bool) true fun i ih => grd (k i) ih
theorem allN_ok {k : Nat → Bool} : ∀ {n i : Nat}, allN k n = true → i < n → k i = true
  | n + 1, i, h, hi => by
    obtain ⟨c, h2⟩ := grd_ok (show grd (k n) (allN k n) = true from h)
    by_cases e : i = n
    · rw [e]; exact c
    · exact allN_ok h2 (by omega)
def rMax : List V → Hp → VK → Prop := fun xs H Q => ∃ i j, xs = [.int i, .int j] ∧ Q (.int (if j > i then j else i)) H
def rLenK (K : PySem.W.Frag) : List V → Hp → VK → Prop := fun xs H Q => ∃ x n, xs = [x] ∧ LenV K x H n ∧ Q (.int n) H
abbrev tLn (K : PySem.W.Frag) (a : TE) : TE := tCB (rLenK K) (tCons a tNil)
theorem ff {p : Prop} (h : false = true) : p := absurd h Bool.false_ne_true
def isGlo (d : D) : Bool := match d with
  | .glob _ => true
  | _ => false
def xMml (i K : Nat) : XE := fun e s k _ => grd (isGlo (nth e i)) (grd (Nat.blt 0 K) (allN (fun j => k (.int (.ofNat (Nat.succ j))) s) K))
def rMin : List V → Hp → VK → Prop := fun xs H Q => ∃ i j, xs = [.int i, .int j] ∧ Q (.int (if j < i then j else i)) H
section
variable {B : Bs} {c : SI} {E : XK} {X : Cx} {ea : Expr} {p1 p2 p3 q1 q2 q3 r1 r2 : Pos} {k1 k2 : Nat}
theorem x_mml (C : Cok B c E X) {i K : Nat} (h : PE X ea (tVar i)) (h1 : c.sc.names.lookup ("max" : Str) = some .globalImplicit) (h2 : c.sc.names.lookup ("min" : Str) = some .globalImplicit) (h3 : c.sc.names.lookup ("len" : Str) = some .globalImplicit)
    (m1 : B.mg ("max" : Str) = none) (m2 : B.mg ("min" : Str) = none) (m3 : B.mg ("len" : Str) = none) (hs : isStar ea = false) :
    PE X (.Call (.Name ("max" : Str) p1) [.Constant (.int 1) k1 r1, .Call (.Name ("min" : Str) p2) [.Constant (.int (Nat.cast K)) k2 r2, .Call (.Name ("len" : Str) p3) [ea] [] q3] [] q2] [] q1) (TX B E (xMml i K)) := by
  have lk : CallR X (.builtin "len") (rLenK B.K) := by rw [← C.K]; exact call_len
  have P1 : PE X (.Call (.Name ("len" : Str) p3) [ea] [] q3) (tLn B.K (tVar i)) := pe_callB (r := rLenK B.K) lk (C.gl h3) (by rw [C.mg]; exact m3) rfl (pa_cons h pa_nil (star_no hs)) (by decide) (by decide) (star_no hs) rfl
  have P2 := pe_callB (pos := q2) (p := p2) (r := rMin) (call_min2 C.calm) (C.gl h2) (by rw [C.mg]; exact m2) rfl (pa_cons (pe_int (pos := r2) (i := (K : Int)) (j := k2)) (pa_cons P1 pa_nil rfl) rfl) (by decide) (by decide) rfl rfl
  have P3 := pe_callB (pos := q1) (p := p1) (r := rMax) (call_max2 C.calm) (C.gl h1) (by rw [C.mg]; exact m1) rfl (pa_cons (pe_int (pos := r1) (i := 1) (j := k1)) (pa_cons P2 pa_nil rfl) rfl) (by decide) (by decide) rfl rfl
  refine wkE P3 fun σ H Q ⟨m, s, env, k, kx, ar, er, hx, hk, hkx⟩ => ?_
  obtain ⟨c1, hx1⟩ := grd_ok (show grd (isGlo (nth env i)) _ = true from hx)
  obtain ⟨c2, hx2⟩ := grd_ok hx1
  rw [Nat.blt_eq] at c2
  have hn := nth_eq env i
  cases he : env[i]? with
  | none =>
    rw [he] at hn
    rw [hn] at c1
    exact ff c1
  | some d =>
    rw [he] at hn
    have e1 : nth env i = d := hn
    rw [e1] at c1
    cases d <;> first | exact ff c1 | skip
    rename_i x
    rcases er.at_ i _ he with z | ⟨v, g1, g2⟩
    · cases z
    · obtain ⟨a, ns, ev, hS, _⟩ := g2
      subst ev
      have hS' : SqL B.K H a (ns.map V.int) := by
        rcases hS with ⟨q, _⟩ | ⟨o, q⟩ | q
        · exact .inl (.inl q)
        · exact .inl (.inr ⟨o, q⟩)
        · exact q H
      refine ⟨.ref a, g1, .ref a, (ns.map V.int).length, rfl, .inl ⟨_, hS', rfl⟩, (K : Int), ((ns.map V.int).length : Nat), rfl, 1, _, rfl, ?_⟩
      generalize ((ns.map V.int).length) = ℓ
      obtain ⟨j, hj, ej⟩ : ∃ j : Nat, j < K ∧ (if (if ((ℓ : Nat) : Int) < (K : Int) then (ℓ : Int) else (K : Int)) > 1 then (if ((ℓ : Nat) : Int) < (K : Int) then (ℓ : Int) else (K : Int)) else 1) = ((j + 1 : Nat) : Int) := by
        by_cases e2 : ((ℓ : Nat) : Int) < (K : Int)
        · rw [if_pos e2]
          by_cases e3 : ((ℓ : Nat) : Int) > 1
          · rw [if_pos e3]
            exact ⟨ℓ - 1, by omega, by omega⟩
          · rw [if_neg e3]
            exact ⟨0, by omega, by omega⟩
        · rw [if_neg e2]
          by_cases e3 : (K : Int) > 1
          · rw [if_pos e3]
            exact ⟨K - 1, by omega, by omega⟩
          · rw [if_neg e3]
            exact ⟨0, by omega, by omega⟩
      rw [ej]
      exact hk (.int ((j + 1 : Nat) : Int)) m s H _ .refl ar rfl (allN_ok hx2 hj)
end
end Ev
end
end

/-! part EvAK -/
section
set_option Elab.async false
set_option linter.all false
set_option maxRecDepth 100000
set_option maxHeartbeats 4000000
/-! EvAK: enumerate of a list, of a tuple. -/
noncomputable section
namespace Ev
open PySem PySem.Spec PyProof.Rows L2

theorem dr_of {prog : Program} {w : World} {A : Around} (hh : A.handled = none) {it l : Addr} (hne : l ≠ it) (t : Bool) (xs : Array Value) : Draws prog w A it [it, l] xs.size (fun i v => xs[i]? = some v) (fun i h => ItK t h it l i ∧ SqK t h l xs) := by
  cases t
  · exact Draws.list hh it l hne xs
  · exact Draws.tuple hh it l hne xs
/-- the items in new pairs, numbered -/
def Itn (t : Bool) (K : PySem.W.Frag) (a : Addr) : It :=
  ⟨fun i H => ∃ (xs : List V) (x : V), SqV t K H a xs ∧ xs[i]? = some x, fun i H v H' => ∃ T x, v = .ref T ∧ H T = none ∧ H' = upd H T (.tup [.int (i : Nat), x]) ∧ ∀ xs, SqV t K H a xs → xs[i]? = some x, fun i H => ∃ xs : List V, SqV t K H a xs ∧ xs.length ≤ i⟩
section
variable {prog : Program} {w : World} {A : Around} {E : Value → Shared → Prop} {s : Shared}
theorem en_end {t : Bool} {e it l : Addr} {i : Nat} {xs : Array Value} {old : Value} {Q : Option Value → Shared → Prop} (hh : A.handled = none) (he : IsEnum s.heap e it i old) (hit : ItK t s.heap it l i) (hl : SqK t s.heap l xs) (hx : xs[i]? = none)
    (hQ : ∀ h', Heap.ExtBut it s.heap h' → Q none { s with heap := h' }) : wpAny (model prog w) A (pyNext (.ref e)) Q E s := by
  have hT : s.TypeIs (.ref e) "enumerate" := ⟨_, he, rfl⟩
  unfold pyNext
  refine wpAny_bind (wpAny_attempt (wpAny_callSpecial?_slot (name := Str.ofString "__next__") hT F.slot_enumerate_next (wpAny_call_entry F.slot_enumerate_next hT F.entry_enumerate_next ?_ (F.args_enumerate_next_1 _))))
  show wpAny _ _ (field (.ref e) 2 >>= _) _ _ _
  refine wpAny_bind (wpAny_field he rfl (x := .ref it) rfl (wpAny_bind (nx_end (A := A.in1) hh hit hl hx fun h' z eb ⟨o, ho, hc⟩ => ?_)))
  exact wpAny_bind (wpAny_isInstance (T := "StopIteration") (b := true) ⟨o, ho, hc⟩ isSubtype_stop (wpAny_pure (hQ h' eb)))
end
theorem turn_en {t : Bool} {P : Program} {w : World} {K : PySem.W.Frag} {elts : List Expr} {kk : Nat} {tpos : Pos} (a e it : Addr) :
    Turn P w K (.Tuple elts kk tpos) (Itn t K a) [e, it] e (fun i h => (∃ old, IsEnum h e it ((i : Nat) : Int) old) ∧ ItK t h it a i ∧ e ≠ it ∧ e ≠ a ∧ a ≠ it) where
  mem := by simp
  obj := fun i h st b hb => by
    obtain ⟨⟨old, he⟩, hi, _⟩ := st
    obtain ⟨o, ho, _, hd⟩ := hi.ob
    rcases (show b = e ∨ b = it by simpa using hb) with z | z
    · rw [z]
      exact ⟨_, he, fun v q => nomatch q⟩
    · rw [z]
      exact ⟨o, ho, fun v q => by rw [hd] at q; cases q⟩
  keep := fun i h h' st k => by
    obtain ⟨⟨old, he⟩, hi, hn⟩ := st
    exact ⟨⟨old, k e (by simp) _ he⟩, hi.at_ fun o q => k it (by simp) o q, hn⟩
  item := by
    intro X hP hw hK hc i pins s σ H E I hf st hg
    subst hP hw hK
    obtain ⟨⟨old, he⟩, hi, n1, n2, n3⟩ := st
    obtain ⟨xs, x, hq, hx⟩ := hg
    obtain ⟨its, rv, p⟩ := inv_sq I hq
    obtain ⟨u, hu, ru⟩ := rv.get hx
    have le : e < s.heap.objs.size := Heap.lt_size he
    have lit : it < s.heap.objs.size := by
      obtain ⟨o, ho, _⟩ := hi.ob
      exact Heap.lt_size ho
    have hil : i < its.toArray.size := by
      rw [List.size_toArray, ← rv.length]
      exact (List.getElem?_eq_some_iff.mp hx).1
    refine wpAny_pyNext_enum_itemD (dr_of (show X.A.in1.handled = none from I.ok.hd hc) n3 t its.toArray) he ⟨hi, p⟩ hil n1 (by simp [n1, n2]) fun v h' tk hv ho st' hT hsz hk => ?_
    have ev : v = u := by
      have z : its.toArray[i]? = some v := hv
      rw [show its.toArray[i]? = its[i]? by simp, hu] at z
      exact (Option.some.inj z).symm
    subst ev
    refine ⟨_, rfl, wpAny_letOwnedTupleGo_enum (s := { s with heap := h', toks := tk + 1 }) ho fun h'' he' sb => ?_⟩
    have hT2 : h''.get? s.heap.objs.size = some { cls := .type "tuple", data := .seq #[.int i tk, v] } := (sb.2 _ (Nat.ne_of_gt le)).trans hT
    have I1 : Inv X pins σ (upd H s.heap.objs.size (.tup [.int (i : Nat), x])) { s with heap := h'', toks := tk + 1 } :=
      I.turnedNew (ch := [e, it]) (fun b o hb q => (sb.2 b (fun z => hb (by simp [z]))).trans (hk b o (fun z => hb (by simp [z])) (fun z => hb (by simp [z])) q)) hf (Nat.le_refl _)
        ⟨by show 2 ≤ sizeLine; decide, [.int i tk, v], .cons ⟨_, rfl⟩ (.cons ru .nil), ⟨_, hT2, rfl, _, rfl⟩⟩
    refine ⟨.ref s.heap.objs.size, _, I1, rfl, ⟨_, x, rfl, I.hok.fresh (Nat.le_refl _), rfl, fun l hl => by rw [inv_inj I hl hq]; exact hx⟩, ⟨⟨v, ?_⟩, st'.1.at_ fun o q => (sb.2 it (Ne.symm n1)).trans q, n1, n2, n3⟩, fun b hb => ?_⟩
    · have e1 : ((i + 1 : Nat) : Int) = (i : Int) + 1 := by omega
      rw [e1]
      exact he'
    · have lb : b < s.heap.objs.size := by
        rcases (show b = e ∨ b = it by simpa using hb) with z | z
        · rw [z]; exact le
        · rw [z]; exact lit
      rw [upd_ne (Nat.ne_of_lt lb)]
      exact (hf b hb).1
  done := by
    intro X hP hw hK hc i pins s σ H E I hf st hg
    subst hP hw hK
    obtain ⟨⟨old, he⟩, hi, n1, n2, n3⟩ := st
    obtain ⟨xs, hq, hx⟩ := hg
    obtain ⟨its, rv, p⟩ := inv_sq I hq
    obtain ⟨f0, f1, f2, f3, f4, f5⟩ := hf it (by simp)
    have hl := rv.length
    refine en_end (I.ok.hd hc) he hi p (by simp; omega) fun h' eb => ⟨rfl, I.turned (t' := s.toks) (fun b o hb q => eb b o hb q) f0 f1 f3 f4 f5⟩
  self := fun A i s Q E st h => by
    obtain ⟨⟨_, he⟩, _⟩ := st
    exact wpAny_pyIter_enum he h
abbrev enA (t : Bool) (h : Heap) (l : Addr) : Heap := h.push { cls := .type (itC t), data := .fields #[.ref l, .int 0 0] }
abbrev enB (t : Bool) (h : Heap) (l : Addr) : Heap := (enA t h l).push { cls := .type "enumerate", data := .fields #[.none, .bool false, .ref h.objs.size, rawInt 0, .none, .none] }
theorem me_new (t : Bool) (l : Addr) (xs : Array Value) :
    Meets (Builtin.«enumerate.__new__» ⟨[.type "enumerate", .ref l], []⟩) (fun _ R s => SqK t s.heap l xs ∧ R (.ok (.ret (.ref (enA t s.heap l).objs.size))) { s with heap := enB t s.heap l }) :=
  .of_wp fun prog w A R s h => by
    obtain ⟨hp, g, d, tk, os⟩ := s
    obtain ⟨hl, h⟩ := h
    have hsub := sub_enumerate
    cases t
    · have hL : Heap.IsList (Shared.heap ⟨hp, g, d, tk, os⟩) l xs := hl
      obtain ⟨ol, hl0, _⟩ := id hL
      have hl1 : Heap.get? hp l = some ol := hl0
      wp_walk using AutoSeq1.wpAny_loadPart' hl1
      refine wpAny_stack_any fun st => wpAny_pure ?_
      split
      · rename_i c _ _ _ _ _
        cases (c == Value.type "enumerate") <;> (wp_walk using AutoSeq1.wpAny_loadPart' hl1, wpAny_pyIter_list hL; exact ⟨_, rfl, h⟩)
      · wp_walk using AutoSeq1.wpAny_loadPart' hl1, wpAny_pyIter_list hL
        exact ⟨_, rfl, h⟩
    · have hL : Heap.IsTuple (Shared.heap ⟨hp, g, d, tk, os⟩) l xs := hl
      obtain ⟨ol, hl0, _⟩ := id hL
      have hl1 : Heap.get? hp l = some ol := hl0
      wp_walk using AutoSeq1.wpAny_loadPart' hl1
      refine wpAny_stack_any fun st => wpAny_pure ?_
      split
      · rename_i c _ _ _ _ _
        cases (c == Value.type "enumerate") <;> (wp_walk using AutoSeq1.wpAny_loadPart' hl1, wpAny_pyIter_tuple hL; exact ⟨_, rfl, h⟩)
      · wp_walk using AutoSeq1.wpAny_loadPart' hl1, wpAny_pyIter_tuple hL
        exact ⟨_, rfl, h⟩
section
variable {prog : Program} {w : World} {A : Around} {E : Value → Shared → Prop} {s : Shared}
theorem en_call {t : Bool} {l : Addr} {xs : Array Value} {Q : Value → Shared → Prop} (hl : SqK t s.heap l xs)
    (h : ∀ h', IsEnum h' (s.heap.objs.size + 1) s.heap.objs.size 0 .none → ItK t h' s.heap.objs.size l 0 → (∀ b o, s.heap.get? b = some o → h'.get? b = some o) → Q (.ref (s.heap.objs.size + 1)) { s with heap := h' }) :
    wpAny (model prog w) A (call (.type "enumerate") [.ref l]) Q E s := by
  refine callType_new F.called_enumerate (by decide) (F.typeCall_enumerate_1 _) (F.newCall_enumerate_1 _) (fun obj => F.args_object_init_2 obj _) F.entry_enumerate_new (me_new t l xs) ⟨hl, ?_⟩
  have z : (enA t s.heap l).objs.size = s.heap.objs.size + 1 := Heap.size_push ..
  have gB : (enB t s.heap l).get? (enA t s.heap l).objs.size = some _ := Heap.get?_push_size _ rfl
  have gA : (enB t s.heap l).get? s.heap.objs.size = some _ := Heap.get?_push_of_some _ (Heap.get?_push_size _ rfl)
  show _ ∧ _
  rw [z] at gB ⊢
  exact ⟨⟨_, gB, rfl⟩, h _ gB (.mk ⟨_, gA, rfl, rfl⟩) fun b o q => Heap.get?_push_of_some _ (Heap.get?_push_of_some _ q)⟩
end
/-- enumerate(e) -/
def iEnK (K : PySem.W.Frag) (ta : TA) : TI := fun σ H R => ta σ H fun vs H1 => ∃ t a xs, vs = [.ref a] ∧ SqV t K H1 a xs ∧ R (Itn t K a) H1
theorem pi_en {X : Cx} {e : Expr} {ta : TA} {p pos tpos : Pos} {elts : List Expr} {kk : Nat} (hg : Gl X "enumerate") (hm : X.mg "enumerate" = none) (ha : PA X [e] ta) (hs : starEach [e] X.env = [(false, eval e X.env)]) :
    PI X (.Tuple elts kk tpos) (.Call (.Name "enumerate" p) [e] [] pos) (iEnK X.K ta) := by
  refine ⟨fun pins s σ H R I h => ?_⟩
  refine Call_ (ld_blt I hg hm PyProof.Rows.boot_enumerate (PyProof.Rows.callWith_type1 (thn (ha.run pos pins s σ H _ I h) fun us s1 ⟨vs, H1, I1, r1, q1⟩ => ?_) hs rfl))
  obtain ⟨t, a, xs, ex, hq, q⟩ := q1
  subst ex
  cases r1 with
  | cons r rr =>
    cases rr
    cases r
    obtain ⟨its, rv, p1⟩ := inv_sq I1 hq
    have la : a < s1.heap.objs.size := p1.lt
    refine en_call p1 fun h' he hit hk => wpAny_pyIter_enum he ?_
    have I2 : Inv X pins σ H1 { s1 with heap := h' } := I1.kept (t' := s1.toks) hk
    refine ⟨s1.heap.objs.size + 1, [s1.heap.objs.size + 1, s1.heap.objs.size], _, _, H1, rfl, I2, turn_en a (s1.heap.objs.size + 1) s1.heap.objs.size, ⟨⟨.none, he⟩, hit, Nat.succ_ne_self _, Nat.ne_of_gt (Nat.lt_succ_of_lt la), Nat.ne_of_lt la⟩, fun b hb => ?_, q⟩
    have le : s1.heap.objs.size ≤ b := by
      rcases (show b = s1.heap.objs.size + 1 ∨ b = s1.heap.objs.size by simpa using hb) with z | z
      · rw [z]; exact Nat.le_add_right _ _
      · rw [z]; exact Nat.le_refl _
    exact I1.fpOk le (I1.hok.fresh le)
/-! ### in the evaluator -/
def enD (l : List D) : Nat → List D := List.rec (motive := fun _ => Nat → List D) (fun _ => []) (fun x _ ih n => .tup [.int (.ofNat n), x] :: ih (Nat.succ n)) l
theorem enD_get : ∀ {l : List D} {n i : Nat} {d : D}, (enD l n)[i]? = some d → ∃ x, l[i]? = some x ∧ d = .tup [.int ((n + i : Nat) : Int), x]
  | [], n, i, d, h => by
    have h' : ([] : List D)[i]? = some d := h
    simp at h'
  | x :: l, n, i, d, h => by
    have h' : (D.tup [.int (.ofNat n), x] :: enD l (Nat.succ n))[i]? = some d := h
    cases i with
    | zero =>
      simp at h'
      exact ⟨x, rfl, h'.symm⟩
    | succ i =>
      rw [List.getElem?_cons_succ] at h'
      obtain ⟨y, h1, h2⟩ := enD_get h'
      refine ⟨y, by simpa using h1, ?_⟩
      rw [h2, show n.succ + i = n + (i + 1) by omega]
theorem enD_len : ∀ {l : List D} {n : Nat}, (enD l n).length = l.length
  | [], _ => rfl
  | x :: l, n => by
    show (D.tup [.int (.ofNat n), x] :: enD l (Nat.succ n)).length = _
    rw [List.length_cons, List.length_cons, enD_len]
/-- numbers told -/
def enK (l : List D) : Nat → (List D → Bool) → Bool := List.rec (motive := fun _ => Nat → (List D → Bool) → Bool) (fun _ k => k []) (fun x _ ih n k => frN n fun n => ih (Nat.succ n) fun r => k (.tup [.int (.ofNat n), x] :: r)) l
theorem enK_eq : ∀ {l : List D} {n : Nat} {k : List D → Bool}, enK l n k = k (enD l n)
  | [], _, _ => rfl
  | x :: l, n, k => by
    show frN n (fun n => enK l (Nat.succ n) fun r => k (.tup [.int (.ofNat n), x] :: r)) = _
    rw [frN_eq, enK_eq]
    rfl
def iEn (a : XE) : XI := fun e s k x => a e s (fun u s1 => hld u s1 fun l s2 rel => enK l 0 fun l2 => k l2 s2 rel) x
section
variable {B : Bs} {E : XK} {X : Cx} {m : Md} {s : S} {H : Hp}
theorem walk_en {t : Bool} {a : Addr} {xs : List V} {l : List D} (ar : AR B m s H) (h : Held B t a xs m s H l) : Walks B (Itn t B.K a) m s H (enD l 0) := by
  have len := rds_len h.rd
  refine ⟨fun i d m' s' H' p a' hi => ?_, fun m' s' H' p a' => ⟨xs, h.sq _ _ _ p a', by rw [enD_len, ← len]; exact Nat.le_refl _⟩⟩
  obtain ⟨x, g1, ed⟩ := enD_get hi
  subst ed
  obtain ⟨v, e1, r1⟩ := rds_get (p.rds ar h.rd) g1
  refine ⟨⟨xs, v, h.sq _ _ _ p a', e1⟩, fun u H2 ⟨T, v', eu, hT, eH, q1⟩ => ?_⟩
  have ev := q1 xs (h.sq _ _ _ p a')
  rw [e1] at ev
  cases ev
  subst eu eH
  have P := post_new (m := m') (s := s') (o := .tup [.int ((i : Nat) : Int), v]) hT
  refine ⟨P, ar_new a' hT, ⟨T, [.int ((i : Nat) : Int), v], rfl, .inl (.inl upd_same), _, [v], rfl, ?_, v, [], rfl, P.rd a' r1, rfl⟩⟩
  rw [Nat.zero_add]
  rfl
theorem i_enum {e : Expr} {xa : XE} {p pos tpos : Pos} {elts : List Expr} {kk : Nat} (hK : X.K = B.K) (hg : Gl X "enumerate") (hm : X.mg "enumerate" = none) (ha : PE X e (TX B E xa)) (hs : starEach [e] X.env = [(false, eval e X.env)]) :
    PI X (.Tuple elts kk tpos) (.Call (.Name "enumerate" p) [e] [] pos) (TIr B E (iEn xa)) := wkI (pi_en hg hm (a_cons ha a_nil hs) hs) fun σ H R ⟨m, s, env, ki, kx, ar, er, hx, hk, hkx⟩ =>
  ⟨m, s, env, fun us s1 => one us fun u => hld u s1 fun l s2 rel => enK l 0 fun l2 => ki l2 s2 rel, kx, ar, er, hx, fun us m1 s1 H1 zs p1 a1 r1 h1 => by
    obtain ⟨u, e0, h0⟩ := one_ok h1
    subst e0
    obtain ⟨x, t, ex, rx, rt⟩ := r1
    have et : t = [] := rt
    subst ex et
    obtain ⟨t1, a, xs, l, s3, rel, ea, hd1, h2⟩ := hld2 a1 rx h0
    obtain ⟨q1, b1, ro1, _⟩ := hd1.all H1 .refl a1
    subst ea
    rw [enK_eq] at h2
    rw [hK]
    refine ⟨t1, a, xs, rfl, hd1.now.sq _ _ _ .refl b1, hk _ m1 s1 H1 s3 _ _ p1 a1 ⟨fun H2 g ar2 => ?_⟩ h2⟩
    obtain ⟨q1', b1', ro1', xs', hd1'⟩ := hd1.all H2 g ar2
    exact ⟨q1', b1', ro1', walk_en b1' hd1'⟩, hkx⟩
end
end Ev
end
end

/-! part EvAN -/
section
set_option Elab.async false
set_option linter.all false
set_option maxRecDepth 100000
set_option maxHeartbeats 4000000
/-! EvAN: lists and dicts that no one will write to; a value that becomes a letter; dicts of the top. -/
noncomputable section
namespace Ev
open PySem PySem.Spec PyProof.Rows L2

theorem not_b {b : Bool} (h : (!b) = true) : b = false := by cases b <;> first | rfl | cases h
section
variable {B : Bs} {c : SI} {E : XK} {X : Cx} {m : Md} {s : S} {H : Hp} {k : KD} {Q : VK} {ea eb : Expr} {es : List Expr} {pos : Pos} {xa xb : XE} {za : XA}
theorem not_al (ar : AR B m s H) {p : Addr} (h : H p = none) : ¬ Al m s p := fun ⟨i, o, e, q⟩ => by
  obtain ⟨u, hu, _⟩ := (ar.is_obj e).nt
  rw [q, h] at hu
  cases hu
theorem fin_fl {l : List D} {xs : List V} (hk : KDok B m s H k Q) (ar : AR B m s H) (r : RDws B m s H l xs) (h : k (.fl l) s = true) : ∀ p, H p = none → Q (.ref p) (upd H p (.lst xs)) := fun p hp => by
  have P := post_new (m := m) (s := s) (o := .lst xs) hp
  exact hk (.fl l) m s _ _ P (ar_new ar hp) ⟨p, xs, rfl, upd_same, not_al ar hp, P.rds ar r⟩ h
def xLsF (a : XA) : XE := fun e s k x => a e s (fun us s1 => grd (shortB us) (k (.fl us) s1)) x
theorem x_lsf (h : PA X es (TAr B E za)) : PE X (.List es pos) (TX B E (xLsF za)) := wkE (pe_lst h) fun σ H Q ⟨m, s, env, k, kx, ar, er, hx, hk, hkx⟩ =>
  ⟨m, s, env, _, kx, ar, er, hx, fun us m1 s1 H1 xs p1 a1 r1 h => by
    obtain ⟨c, h1⟩ := grd_ok h
    have hl := shortB_ok c
    rw [rds_len r1] at hl
    exact ⟨size_ok hl, fin_fl (hk.post p1) a1 r1 h1⟩, hkx⟩
def xAdF (a b : XE) : XE := fun e s k x => a e s (fun u s1 => b e s1 (fun v s2 => lsI u s2 fun l => lsI v s2 fun l2 => grd (shortB (l ++ l2)) (k (.fl (l ++ l2)) s2)) x) x
theorem x_adf (ha : PE X ea (TX B E xa)) (hb : PE X eb (TX B E xb)) : PE X (.BinOp ea .Add eb pos) (TX B E (xAdF xa xb)) :=
  wkE (pe_op op_cat ha hb) fun σ H Q ⟨m, s, env, k, kx, ar, er, hx, hk, hkx⟩ => two ar er hx hkx fun u v m1 s1 H1 m2 s2 H2 x y p1 p2 a1 a2 r1 r2 h => by
    obtain ⟨a, xs, l, e1, h1, q1, h⟩ := lsI_ok a2 (p2.rd a1 r1) h
    obtain ⟨b, ys, l2, e2, h2, q2, h⟩ := lsI_ok a2 r2 h
    obtain ⟨hs, h⟩ := grd_ok h
    have hs := shortB_ok hs
    rw [List.length_append, rds_len q1, rds_len q2] at hs
    exact ⟨a, b, xs, ys, e1, e2, h1, h2, size_ok hs, fin_fl (hk.post (p1.trans p2)) a2 (rds_app q1 q2) h⟩
def xDicF : XE := fun _ s k _ => k (.fd [] []) s
theorem x_dicf : PE X (.Dict [] [] pos) (TX B E xDicF) := wkE pe_dnewT fun σ H Q ⟨m, s, env, k, kx, ar, er, hx, hk, hkx⟩ => by
  intro p hp
  have P := post_new (m := m) (s := s) (o := .dT []) hp
  exact hk (.fd [] []) m s _ _ P (ar_new ar hp) ⟨p, rfl, not_al ar hp, .inl ⟨rfl, rfl, upd_same⟩⟩ hx
end
/-! ### the same data -/
mutual
def deq : D → D → Bool
  | .unb, .unb => true
  | .non, .non => true
  | .bl a, .bl b => Bool.rec (Bool.rec true false b) b a
  | .int i, .int j => iEq i j
  | .str x, .str y => strE x y
  | .tup l, .tup r => deqs l r
  | .fl l, .fl r => deqs l r
  | .fd [] [], .fd [] [] => true
  | .ref n, .ref i => Nat.beq n i
  | .sym n, .sym i => Nat.beq n i
  | .rep d, .rep e => deq d e
  | _, _ => false
def deqs : List D → List D → Bool
  | [], [] => true
  | a :: l, b :: r => match deq a b with
    | true => deqs l r
    | false => false
  | _, _ => false
end
mutual
theorem deq_ok : ∀ {a b : D}, deq a b = true → a = b
  | .unb, .unb, _ => rfl
  | .non, .non, _ => rfl
  | .bl a, .bl b, h => by cases a <;> cases b <;> first | rfl | exact ff h
  | .int i, .int j, h => by
    have h' : iEq i j = true := h
    rw [iEq_eq, decide_eq_true_eq] at h'
    rw [h']
  | .str x, .str y, h => by
    have h' : strE x y = true := h
    rw [strE_eq, beq_iff_eq] at h'
    rw [h']
  | .tup l, .tup r, h => congrArg D.tup (deqs_ok (show deqs l r = true from h))
  | .fl l, .fl r, h => congrArg D.fl (deqs_ok (show deqs l r = true from h))
  | .fd [] [], .fd [] [], _ => rfl
  | .ref n, .ref i, h => congrArg D.ref (Nat.eq_of_beq_eq_true h)
  | .sym n, .sym i, h => congrArg D.sym (Nat.eq_of_beq_eq_true h)
  | .rep d, .rep e, h => congrArg D.rep (deq_ok (show deq d e = true from h))
theorem deqs_ok : ∀ {a b : List D}, deqs a b = true → a = b
  | [], [], _ => rfl
  | a :: l, b :: r, h => by
    have h' : (match deq a b with
      | true => deqs l r
      | false => false) = true := h
    cases q : deq a b with
    | false => rw [q] at h'; exact ff h'
    | true =>
      rw [q] at h'
      rw [deq_ok q, deqs_ok h']
end
def oeq : O → O → Bool
  | .lst l, .lst r => deqs l r
  | .fz l, .fz r => deqs l r
  | .hid, .hid => true
  | .bag, .bag => true
  | .dK [], .dK [] => true
  | .dT [], .dT [] => true
  | _, _ => false
theorem oeq_ok : ∀ {a b : O}, oeq a b = true → a = b
  | .lst l, .lst r, h => congrArg O.lst (deqs_ok h)
  | .fz l, .fz r, h => congrArg O.fz (deqs_ok h)
  | .hid, .hid, _ => rfl
  | .bag, .bag, _ => rfl
  | .dK [], .dK [], _ => rfl
  | .dT [], .dT [], _ => rfl
def oseq : List (Nat × O) → List (Nat × O) → Bool
  | [], [] => true
  | (i, a) :: l, (j, b) :: r => Nat.beq i j && oeq a b && oseq l r
  | _, _ => false
theorem oseq_ok : ∀ {a b : List (Nat × O)}, oseq a b = true → a = b
  | [], [], _ => rfl
  | (i, a) :: l, (j, b) :: r, h => by
    have h' : (Nat.beq i j && oeq a b && oseq l r) = true := h
    rw [Bool.and_eq_true, Bool.and_eq_true] at h'
    rw [Nat.eq_of_beq_eq_true h'.1.1, oeq_ok h'.1.2, oseq_ok h'.2]
def sameS (s t : S) : Bool := match s, t with
  | .mk a b c, .mk x y z => Nat.beq a x && Nat.beq b y && oseq c z
theorem sameS_ok {s t : S} (h : sameS s t = true) : s = t := by
  obtain ⟨a, b, c⟩ := s
  obtain ⟨x, y, z⟩ := t
  have h' : (Nat.beq a x && Nat.beq b y && oseq c z) = true := h
  rw [Bool.and_eq_true, Bool.and_eq_true] at h'
  rw [Nat.eq_of_beq_eq_true h'.1.1, Nat.eq_of_beq_eq_true h'.1.2, oseq_ok h'.2]
/-! ### a value becomes a letter -/
mutual
/-- the closed c, told by d -/
def clo : D → D → Bool
  | .fl l, .fl r => clos l r
  | .fd [] [], .fd [] [] => true
  | .tup l, .tup r => clos l r
  | .non, .non => true
  | .bl a, .bl b => Bool.rec (Bool.rec true false b) b a
  | .int i, .int j => iEq i j
  | .str x, .str y => strE x y
  | _, _ => false
def clos : List D → List D → Bool
  | [], [] => true
  | c :: r, d :: l => match clo c d with
    | true => clos r l
    | false => false
  | _, _ => false
end
mutual
theorem clo_ok {B : Bs} {m : Md} {nl no : Nat} {W : Addr → Prop} {H : Hp} : ∀ {c d : D} {v : V}, clo c d = true → RD B m nl no W H d v → RD0 B.K W H c v
  | .fl l, .fl r, v, h, ⟨a, xs, e, q, n, t⟩ => ⟨a, xs, e, q, n, clos_ok (show clos l r = true from h) t⟩
  | .fd [] [], .fd [] [], v, _, ⟨a, e, n, q⟩ => ⟨a, e, n, by
      rcases q with q | ⟨ws, q, l, t⟩
      · exact .inl q
      · have ew : ws = [] := t
        subst ew
        exact .inr ⟨[], q, l, rfl⟩⟩
  | .tup l, .tup r, v, h, ⟨a, xs, e, q, t⟩ => ⟨a, xs, e, q, clos_ok (show clos l r = true from h) t⟩
  | .non, .non, v, _, r => r
  | .bl a, .bl b, v, h, r => by
    have e : a = b := by cases a <;> cases b <;> first | rfl | exact ff h
    subst e
    exact r
  | .int i, .int j, v, h, r => by
    have h' : iEq i j = true := h
    rw [iEq_eq, decide_eq_true_eq] at h'
    subst h'
    exact r
  | .str x, .str y, v, h, r => by
    have h' : strE x y = true := h
    rw [strE_eq, beq_iff_eq] at h'
    subst h'
    exact r
theorem clos_ok {B : Bs} {m : Md} {nl no : Nat} {W : Addr → Prop} {H : Hp} : ∀ {c d : List D} {v : List V}, clos c d = true → RDs B m nl no W H d v → RD0s B.K W H c v
  | [], [], v, _, r => r
  | c :: cs, d :: ds, v, h, ⟨x, t, e, r1, r2⟩ => by
    have h' : (match clo c d with
      | true => clos cs ds
      | false => false) = true := h
    cases q : clo c d with
    | false => rw [q] at h'; exact ff h'
    | true =>
      rw [q] at h'
      exact ⟨x, t, e, clo_ok q r1, clos_ok h' r2⟩
end
/-- the letter i, taken from what a gives -/
def xAbs (i : Nat) (l : List D) (a : XE) : XE := fun e s k x => grd (a e s (fun d s1 => sameS s s1 && l.any fun c => clo c d) x) (S.rec (motive := fun _ => Bool) (fun nl no os => grd (Nat.beq nl i) (k (.sym i) (.mk (Nat.succ i) no os))) s)
theorem x_abs {B : Bs} {E : XK} {X : Cx} {ea : Expr} {xa : XE} {i : Nat} {l : List D} (hl : ∀ c, c ∈ l → c ∈ B.kd i) (ha : PE X ea (TX B E xa)) : PE X ea (TX B E (xAbs i l xa)) := wkE ha fun σ H Q ⟨m, s, env, k, kx, ar, er, hx, hk, hkx⟩ => by
  obtain ⟨h1, h2⟩ := grd_ok hx
  refine ⟨m, s, env, _, kx, ar, er, h1, fun d m1 s1 H1 v p1 a1 r1 q => ?_, hkx⟩
  rw [Bool.and_eq_true] at q
  have es := sameS_ok q.1
  subst es
  obtain ⟨nl, no, os⟩ := s
  obtain ⟨c1, h3⟩ := grd_ok (show grd (Nat.beq nl i) (k (.sym i) (.mk (Nat.succ i) no os)) = true from h2)
  have ei := Nat.eq_of_beq_eq_true c1
  subst ei
  have q2 := q.2
  rw [List.any_eq_true] at q2
  obtain ⟨c, hc, q2⟩ := q2
  have R0 := clo_ok q2 r1
  let m2 : Md := ⟨m1.ρ, fun n => if n = nl then c else m1.ν n⟩
  have mo : More m1 m2 nl (nl + 1) no no := ⟨Nat.le_refl _, Nat.le_succ _, fun _ _ => rfl, fun j hj => if_neg (Nat.ne_of_lt hj)⟩
  have P1 : Post m1 (.mk nl no os) H1 m2 (.mk (nl + 1) no os) H1 := ⟨mo, fun _ _ h _ _ => h, fun _ z => .inl z, fun _ z => .inl z, fun _ _ z _ => z⟩
  have A1 : AR B m2 (.mk (nl + 1) no os) H1 := by
    refine ⟨a1.desc, a1.num, a1.inj, fun j o hj => P1.or_ a1 (fun u hu => hu) (a1.obj j o hj), a1.tabs, fun n hn => ?_⟩
    show (if n = nl then c else m1.ν n) ∈ B.kd n
    by_cases e : n = nl
    · rw [if_pos e, e]
      exact hl c hc
    · rw [if_neg e]
      exact a1.lets n (Nat.lt_of_le_of_ne (Nat.le_of_lt_succ hn) e)
  refine hk (.sym nl) m2 _ H1 v (p1.trans P1) A1 ⟨Nat.lt_succ_self _, ?_⟩ h3
  show RD0 B.K _ H1 (if nl = nl then c else m1.ν nl) v
  rw [if_pos rfl]
  exact R0
/-! ### a dict of the top, its keys texts, its values ints -/
def xKd (l : List (Str × Int)) (a : XE) : XE := fun e s k x => a e s (fun u s1 => match u with
  | .str z => (match l.lookup z with
    | some i => k (.int i) s1
    | none => false)
  | _ => false) x
structure KdF (B : Bs) (x : Str) (l : List (Str × Int)) : Prop where
  ok : ∃ d, B.mg x = some (.ref d) ∧ ∀ z i, l.lookup z = some i → KDct B.K B.w d z (.int i)
  db : (x == ("__debug__" : Str)) = false
theorem x_kd {B : Bs} {c : SI} {E : XK} {X : Cx} {x : Str} {l : List (Str × Int)} {ea : Expr} {p pos : Pos} {xa : XE} (C : Cok B c E X) (F : KdF B x l) (hg : c.sc.names.lookup x = some .globalImplicit) (ha : PE X ea (TX B E xa)) (hp : PlainIx ea) : PE X (.Subscript (.Name x p) ea pos) (TX B E (xKd l xa)) := by
  obtain ⟨d, h1, h2⟩ := F.ok
  refine wkE (pe_ix ix_kdict (pe_glob (u := .ref d) (v := .ref d) (C.gl hg) (by rw [C.mg]; exact h1) rfl F.db) ha hp) fun σ H Q ⟨m, s, env, k, kx, ar, er, hx, hk, hkx⟩ => ?_
  refine ⟨m, s, env, _, kx, ar, er, hx, fun u m1 s1 H1 v p1 a1 r1 h => ?_, hkx⟩
  cases u <;> first | exact ff h | skip
  rename_i z
  cases r1
  have h' : (match l.lookup z with
    | some i => k (.int i) s1
    | none => false) = true := h
  cases e : l.lookup z with
  | none => rw [e] at h'; exact ff h'
  | some i =>
    rw [e] at h'
    rw [C.K, C.w]
    exact ⟨d, z, .int i, rfl, rfl, h2 z i e, hk (.int i) m1 s1 H1 _ p1 a1 rfl h'⟩
def lamDB (N : List Str) (sc scope : Scope) (d : Str) : Bool := decide (scope.kind = .function) && !scope.isCoroutine && !scope.isGenerator && (scope.names.all fun y => !kC (some y.2) && (!kL (some y.2) || strE y.1 d) && (!kF (some y.2) || kC (lkS sc.names y.1) || kF (lkS sc.names y.1))) && kL (lkS scope.names d) && !N.any fun y => strE y d
theorem lamD_by {N : List Str} {sc scope : Scope} {d : Str} (h : lamDB N sc scope d = true) : LamD N sc scope d := by
  unfold lamDB at h
  simp only [Bool.and_eq_true] at h
  obtain ⟨⟨⟨⟨⟨h1, h2⟩, h3⟩, h4⟩, h5⟩, h6⟩ := h
  rw [List.all_eq_true] at h4
  refine ⟨of_decide_eq_true h1, not_b h2, not_b h3, fun y hy => ⟨fun z => ?_, fun z => ?_⟩, fun y hy z => ?_, by rw [← lkS_eq]; exact kL_ok h5, fun z => ?_⟩
  · have q := h4 y hy
    rw [z] at q
    exact ff q
  · have q := h4 y hy
    rw [z] at q
    simp only [Bool.and_eq_true] at q
    have q2 := q.1.2
    have q3 : strE y.1 d = true := q2
    rw [strE_eq, beq_iff_eq] at q3
    exact q3
  · have q := h4 y hy
    rw [z] at q
    simp only [Bool.and_eq_true] at q
    have q2 : (kC (lkS sc.names y.1) || kF (lkS sc.names y.1)) = true := q.2
    rw [Bool.or_eq_true, lkS_eq] at q2
    rcases q2 with q2 | q2
    · exact .inl (kC_ok q2)
    · exact .inr (kF_ok q2)
  · have q := not_b h6
    rw [List.any_eq_false] at q
    refine q d z ?_
    rw [strE_eq]
    simp
end Ev
end
end

/-! part EvBA -/
section
set_option Elab.async false
set_option linter.all false
set_option maxRecDepth 100000
set_option maxHeartbeats 4000000
/-! EvBA: what is never reached; lists frozen; comprehensions of two clauses; pop, insert, turned lists. -/
noncomputable section
namespace Ev
open PySem PySem.Spec PyProof.Rows L2

/-! ### never reached -/
def xNo : XE := fun _ _ _ _ => false
def sNop : XS := fun _ _ _ _ => false
section
variable {B : Bs} {E : XK} {X : Cx} {e : Expr}
theorem x_no : PE X e (TX B E xNo) := ⟨fun pins s σ H Q I ⟨_, _, _, _, _, _, _, h, _⟩ => absurd (show false = true from h) Bool.false_ne_true⟩
theorem t_no : PT X e (TB B E xNo) := ⟨fun pins s σ H Q I ⟨_, _, _, _, _, _, _, h, _⟩ => absurd (show false = true from h) Bool.false_ne_true⟩
theorem w_no : PW X e (TB B E xNo) := ⟨fun w pins s σ H Q I ⟨_, _, _, _, _, _, _, h, _⟩ => absurd (show false = true from h) Bool.false_ne_true⟩
theorem s_no {st : Stmt} : PS X st (TSt B E sNop) := ⟨fun pins s σ H D I ⟨_, _, _, _, _, _, _, h, _⟩ => absurd (show false = true from h) Bool.false_ne_true⟩
theorem ss_no {st : List Stmt} : PSs X st (TSt B E sNop) := ⟨fun pins s σ H D I ⟨_, _, _, _, _, _, _, h, _⟩ => absurd (show false = true from h) Bool.false_ne_true⟩
end

/-! ### a list frozen: no one changes it any more -/
def osDel (l : List (Nat × O)) (n : Nat) : List (Nat × O) := List.rec (motive := fun _ => List (Nat × O)) [] (fun p r ih => Prod.rec (motive := fun _ => List (Nat × O)) (fun i o => Bool.rec (motive := fun _ => List (Nat × O)) ((i, o) :: ih) r (Nat.beq i n)) p) l
theorem osDel_cons {os : List (Nat × O)} {n i : Nat} {o : O} : osDel ((i, o) :: os) n = if i = n then os else (i, o) :: osDel os n := by
  show Bool.rec (motive := fun _ => List (Nat × O)) ((i, o) :: osDel os n) os (Nat.beq i n) = _
  by_cases h : i = n
  · rw [if_pos h, h, Nat.beq_refl]
  · rw [if_neg h]
    cases e : Nat.beq i n with
    | true => exact absurd (Nat.eq_of_beq_eq_true e) h
    | false => rfl
theorem osDel_ne : ∀ {os : List (Nat × O)} {n i : Nat}, i ≠ n → osGet (osDel os n) i = osGet os i
  | [], _, _, _ => rfl
  | (j, u) :: r, n, i, h => by
    rw [osDel_cons]
    by_cases e : j = n
    · rw [if_pos e, osGet_cons, if_neg (fun z => h (by rw [← z, e]))]
    · rw [if_neg e, osGet_cons, osGet_cons, osDel_ne h]
theorem osDel_same : ∀ {os : List (Nat × O)} {n : Nat}, (os.map (·.1)).Pairwise (fun a b => b < a) → osGet (osDel os n) n = none
  | [], _, _ => rfl
  | (j, u) :: r, n, d => by
    have d' := List.pairwise_cons.mp d
    rw [osDel_cons]
    by_cases e : j = n
    · rw [if_pos e]
      cases q : osGet r n with
      | none => rfl
      | some o => exact absurd (d'.1 n (osGet_in q)) (by rw [e]; exact Nat.lt_irrefl _)
    · rw [if_neg e, osGet_cons, if_neg e]
      exact osDel_same d'.2
theorem osDel_mem : ∀ {os : List (Nat × O)} {n : Nat} {p : Nat × O}, p ∈ osDel os n → p ∈ os
  | (j, u) :: r, n, p, h => by
    rw [osDel_cons] at h
    by_cases e : j = n
    · rw [if_pos e] at h
      exact List.mem_cons_of_mem _ h
    · rw [if_neg e] at h
      rcases List.mem_cons.mp h with h | h
      · rw [h]; exact List.mem_cons_self
      · exact List.mem_cons_of_mem _ (osDel_mem h)
theorem osDel_desc : ∀ {os : List (Nat × O)} {n : Nat}, (os.map (·.1)).Pairwise (fun a b => b < a) → ((osDel os n).map (·.1)).Pairwise (fun a b => b < a)
  | [], _, d => d
  | (j, u) :: r, n, d => by
    have d' := List.pairwise_cons.mp d
    rw [osDel_cons]
    by_cases e : j = n
    · rw [if_pos e]; exact d'.2
    · rw [if_neg e]
      refine List.pairwise_cons.mpr ⟨fun i hi => ?_, osDel_desc d'.2⟩
      obtain ⟨p, hp, rfl⟩ := List.mem_map.mp hi
      exact d'.1 _ (List.mem_map.mpr ⟨p, osDel_mem hp, rfl⟩)
def frzS (d : D) (s : S) (k : KD) : Bool :=
  D.rec (motive_1 := fun _ => Bool) (motive_2 := fun _ => Unit) (k d s) (k d s) (fun _ => k d s) (fun _ => k d s) (fun _ => k d s) (fun _ => k d s) (fun _ _ => k d s) (fun _ _ => k d s) (fun _ _ _ => k d s)
    (fun n => S.rec (motive := fun _ => Bool) (fun nl no os => Option.rec (motive := fun _ => Bool) (k d s) (fun o => O.rec (motive := fun _ => Bool) (fun l => k (.fl l) (.mk nl no (osDel os n))) (fun _ => k d s) (fun _ => k d s) (fun _ => k d s) (k d s) (k d s) o) (osGet os n)) s)
    (fun _ => k d s) (fun _ => k d s) (fun _ _ => k d s) (fun _ _ => k d s) (fun _ _ _ => k d s) () (fun _ _ _ _ => ()) d
theorem frz_s {B : Bs} {m : Md} {s : S} {H : Hp} {d : D} {v : V} {k : KD} (ar : AR B m s H) (r : RDw B m s H d v) (h : frzS d s k = true) : ∃ d' s', k d' s' = true ∧ Post m s H m s' H ∧ AR B m s' H ∧ RDw B m s' H d' v := by
  have same : k d s = true → ∃ d' s', k d' s' = true ∧ Post m s H m s' H ∧ AR B m s' H ∧ RDw B m s' H d' v := fun h => ⟨d, s, h, .refl, ar, r⟩
  cases d with
  | ref n =>
    obtain ⟨nl, no, os⟩ := s
    have h2 : Option.rec (motive := fun _ => Bool) (k (.ref n) (.mk nl no os)) (fun o => O.rec (motive := fun _ => Bool) (fun l => k (.fl l) (.mk nl no (osDel os n))) (fun _ => k (.ref n) (.mk nl no os)) (fun _ => k (.ref n) (.mk nl no os)) (fun _ => k (.ref n) (.mk nl no os)) (k (.ref n) (.mk nl no os)) (k (.ref n) (.mk nl no os)) o) (osGet os n) = true := h
    cases g : osGet os n with
    | none => rw [g] at h2; exact same h2
    | some o =>
      rw [g] at h2
      cases o with
      | lst l =>
        have g' : ∀ {i o}, osGet (osDel os n) i = some o → i ≠ n ∧ osGet os i = some o := fun {i o} q => by
          by_cases e : i = n
          · subst e
            have z : osGet (osDel os i) i = none := osDel_same (os := os) ar.desc
            rw [z] at q
            cases q
          · exact ⟨e, by rw [osDel_ne e] at q; exact q⟩
        have P : Post m (.mk nl no os) H m (.mk nl no (osDel os n)) H := by
          refine ⟨.refl, fun b o h _ _ => h, ?_, ?_, fun i o h w => ?_⟩
          · rintro b ⟨i, o, q, w, e⟩
            exact .inl ⟨i, o, (g' q).2, w, e⟩
          · rintro b ⟨i, o, q, e⟩
            exact .inl ⟨i, o, (g' q).2, e⟩
          · show osGet (osDel os n) i = some o
            rw [osDel_ne]
            · exact h
            · intro e
              have h' : osGet os i = some o := h
              rw [e, g] at h'
              cases h'
              cases w
        have A : AR B m (.mk nl no (osDel os n)) H := ⟨osDel_desc ar.desc, fun i o h => ar.num i o (g' h).2, fun i j o o' h1 h2 e => ar.inj i j o o' (g' h1).2 (g' h2).2 e, fun i o h => P.or_ ar (fun u hu => hu) (ar.obj i o (g' h).2), ar.tabs, ar.lets⟩
        obtain ⟨_, ev⟩ := r
        obtain ⟨xs, hx, rx⟩ := ar.obj n _ g
        refine ⟨.fl l, _, h2, P, A, m.ρ n, xs, ev, hx, ?_, P.rds ar rx⟩
        rintro ⟨i, o, q, e⟩
        exact (g' q).1 (ar.inj i n o _ (g' q).2 g e)
      | _ => exact same h2
  | _ => exact same h
def xFz (a : XE) : XE := fun e s k x => a e s (fun d s1 => frzS d s1 k) x
section
variable {B : Bs} {c : SI} {E : XK} {X : Cx} {ea eb o : Expr} {pos apos : Pos} {xa xb : XE}
theorem x_fz (ha : PE X ea (TX B E xa)) : PE X ea (TX B E (xFz xa)) := wkE ha fun σ H Q ⟨m, s, env, k, kx, ar, er, hx, hk, hkx⟩ =>
  ⟨m, s, env, _, kx, ar, er, hx, fun d m1 s1 H1 v p1 a1 r1 h => by
    obtain ⟨l, s', h2, P, A, R⟩ := frz_s a1 r1 h
    exact hk _ m1 s' H1 v (p1.trans P) A R h2, hkx⟩

/-! ### xs[::-1] -/
def xRev (a : XE) : XE := fun e s k x => a e s (fun d s1 => lsI d s1 fun l => k (.fl (revD l)) s1) x
theorem rds_revs {m : Md} {nl no : Nat} {W : Addr → Prop} {H : Hp} : ∀ {l : List D} {xs : List V}, RDs B m nl no W H l xs → RDs B m nl no W H l.reverse xs.reverse
  | [], xs, r => by
    have e : xs = [] := r
    subst e
    exact rfl
  | d :: l, xs, ⟨x, t, e, r1, r2⟩ => by
    subst e
    rw [List.reverse_cons, List.reverse_cons]
    exact rds_app (rds_revs r2) ⟨x, [], rfl, r1, rfl⟩
theorem x_rev {k : Nat} {p1 p2 p3 : Pos} (C : Cok B c E X) (ha : PE X ea (TX B E xa)) : PE X (.Subscript ea (.Slice none none (some (.UnaryOp .USub (.Constant (.int 1) k p1) p2)) p3) pos) (TX B E (xRev xa)) :=
  wkE (pe_revL ha) fun σ H Q ⟨m, s, env, k, kx, ar, er, hx, hk, hkx⟩ => ⟨m, s, env, _, kx, ar, er, hx, fun d m1 s1 H1 v p1 a1 r1 h => by
    obtain ⟨a, xs, l, e1, h1, q1, h2⟩ := lsI_ok a1 r1 h
    rw [revD_eq] at h2
    exact ⟨a, xs, e1, by rw [C.K]; exact sq_lst h1, fin_fl (hk.post p1) a1 (rds_revs q1) h2⟩, hkx⟩

/-! ### xs.pop() -/
def lastK (l : List D) (k : List D → D → Bool) : Bool := List.rec (motive := fun _ => Bool) false (fun d r _ => k (revD r) d) (revD l)
theorem lastK_ok {l : List D} {k : List D → D → Bool} (h : lastK l k = true) : ∃ l' d, l = l' ++ [d] ∧ k l' d = true := by
  unfold lastK at h
  rw [revD_eq] at h
  cases e : l.reverse with
  | nil => rw [e] at h; exact absurd (show false = true from h) Bool.false_ne_true
  | cons d r =>
    rw [e] at h
    have h' : k (revD r) d = true := h
    rw [revD_eq] at h'
    refine ⟨r.reverse, d, ?_, h'⟩
    rw [← List.reverse_reverse l, e, List.reverse_cons]
def xPop (a : XE) : XE := fun e s k x => a e s (fun u s1 => wLst u s1 fun n l => lastK l fun l' d => setL s1 n l' fun s2 => k d s2) x
theorem x_pop (C : Cok B c E X) (ho : PE X o (TX B E xa)) (hbase : attributeBase o "pop" X.env (eval o X.env) = eval o X.env) (hline : (apos.endLine == pos.line) = true) : PE X (.Call (.Attribute o "pop" apos) [] [] pos) (TX B E (xPop xa)) :=
  wkE (pe_bm0 (T := "list") PySem.F.plainAttrs_list PySem.F.slot_list_pop PySem.F.type_list_pop mt_pop ho hbase hline) fun σ H Q ⟨m, s, env, k, kx, ar, er, hx, hk, hkx⟩ =>
    ⟨m, s, env, _, kx, ar, er, hx, fun u m1 s1 H1 v p1 a1 r1 h => by
      obtain ⟨n, l, e1, hg, h2⟩ := wLst_ok h
      subst e1
      obtain ⟨hn, ev⟩ := r1
      subst ev
      obtain ⟨xs, hxs, rl⟩ := a1.obj n _ hg
      obtain ⟨l', d, el, h3⟩ := lastK_ok h2
      subst el
      obtain ⟨ys, y, exs, ry, rd⟩ : ∃ ys y, xs = ys ++ [y] ∧ RDws B m1 s1 H1 l' ys ∧ RDw B m1 s1 H1 d y := by
        have len := rds_len rl
        have r1 := rds_take l'.length rl
        have r2 := rds_drop l'.length rl
        rw [List.take_left] at r1
        rw [List.drop_left] at r2
        obtain ⟨y, e, ry⟩ := rds1 r2
        exact ⟨xs.take l'.length, y, by rw [← e, List.take_append_drop], r1, ry⟩
      subst exs
      refine ⟨.inl ⟨rfl, _, sq_lst hxs⟩, m1.ρ n, ys ++ [y], y, rfl, rfl, hxs, by simp, ?_⟩
      rw [List.dropLast_concat]
      obtain ⟨s3, h5, P, A⟩ := setL_ok a1 hg ry h3
      exact hk d m1 s3 _ y (p1.trans P) A (P.rd a1 rd) h5, hkx⟩
end

/-! ### xs.insert(i, x) -/
def mIns : MG := fun l us _ k => twoD us fun d d2 => asI d fun i => grd (smI i && !iLt i 0 && shortB l) (frN (tNat i) fun n => k (l.take n ++ d2 :: l.drop n) .non)
theorem r_ins {B : Bs} (m : Md) (s : S) (H : Hp) (n : Nat) (l ds : List D) (xs vs : List V) (k : List D → D → Bool) (Q : VK) (ar : AR B m s H) (rl : RDws B m s H l xs) (rv : RDws B m s H ds vs) (hx : H (m.ρ n) = some (.lst xs)) (h : mIns l ds s k = true)
    (hq : ∀ l' d xs' v, RDws B m s H l' xs' → RDw B m s H d v → k l' d = true → Q v (upd H (m.ρ n) (.lst xs'))) : ∃ (l : Addr) (xs : List V) (i : Int) (y : V), V.ref (m.ρ n) = .ref l ∧ vs = [.int i, y] ∧ H l = some (.lst xs) ∧ xs.length < sizeLine ∧ 0 ≤ i ∧ i < 2 ^ 63 ∧
    Q .non (upd H l (.lst (xs.take i.toNat ++ [y] ++ xs.drop i.toNat))) := by
  obtain ⟨d, d2, e, h2⟩ := twoD_ok h
  subst e
  obtain ⟨x, y, e, rx, ry⟩ := rds2 rv
  obtain ⟨i, e2, h3⟩ := asI_ok h2
  obtain ⟨c, h4⟩ := grd_ok h3
  subst e e2
  cases rx
  rw [Bool.and_eq_true, Bool.and_eq_true] at c
  obtain ⟨⟨c1, c2⟩, c3⟩ := c
  obtain ⟨c4, c5⟩ := smI_ok c1
  rw [iLt_eq] at c2
  have c6 : ¬ (i < 0) := by simpa using c2
  have c7 := shortB_ok c3
  rw [rds_len rl] at c7
  rw [frN_eq, tNat_eq] at h4
  refine ⟨_, xs, i, y, rfl, rfl, hx, by rw [sizeLine_eq]; omega, by omega, by omega, ?_⟩
  have e : xs.take i.toNat ++ [y] ++ xs.drop i.toNat = xs.take i.toNat ++ (y :: xs.drop i.toNat) := by simp
  rw [e]
  exact hq _ .non _ .non (rds_app (rds_take _ rl) (show RDws B m s H (d2 :: l.drop i.toNat) (y :: xs.drop i.toNat) from ⟨y, _, rfl, ry, rds_drop _ rl⟩)) rfl h4

/-! ### comprehensions of two clauses -/
theorem rds_map {B : Bs} {m m' : Md} {s s' : S} {H H' : Hp} (h : ∀ d v, RDw B m s H d v → RDw B m' s' H' d v) : ∀ {d : List D} {v : List V}, RDws B m s H d v → RDws B m' s' H' d v
  | [], _, r => r
  | _ :: _, _, ⟨x, t, e, r1, r2⟩ => ⟨x, t, e, h _ _ r1, rds_map h r2⟩
theorem post_regrow {m m' : Md} {s s' : S} {H H' : Hp} {A : Addr} {xs ys : List V} (p : Post m s (upd H A (.lst xs)) m' s' H') : Post m s (upd H A (.lst ys)) m' s' (upd H' A (.lst ys)) := by
  have nt : ∀ b, NT (upd H A (.lst xs)) b → NT (upd H A (.lst ys)) b := fun b q o ho => by
    by_cases e : b = A
    · subst e
      obtain ⟨ps, z⟩ := q _ upd_same
      cases z
    · rw [upd_ne e] at ho
      exact q o (by rw [upd_ne e]; exact ho)
  refine ⟨p.more, fun b o h n t => ?_, fun b z => (p.wsub b z).imp id (nt b), fun b z => (p.alsub b z).imp id (nt b), p.fzp⟩
  by_cases e : b = A
  · subst e
    rw [upd_same] at h ⊢
    exact h
  · rw [upd_ne e] at h ⊢
    exact p.keep b o (by rw [upd_ne e]; exact h) n t
/-- the inner turns -/
def lpJ (g : XG) (t el : XE) (e0 : List D) (fin : List D → S → Bool) (l : List D) : List D → S → Bool :=
  List.rec (motive := fun _ => List D → S → Bool) fin (fun d _ ih acc s => g d e0 s (fun e1 s1 => t e1 s1 (fun b s2 => asB b fun q => ifB q (el e1 s2 (fun y s3 => ih (y :: acc) s3) x0) (ih acc s2)) x0) x0) l
/-- the outer turns -/
def lpO (g : XG) (t : XE) (i1 : XI) (g1 : XG) (t1 el : XE) (vs1 : List Nat) (n : Nat) (tr : Bool) (e0 : List D) (fin : List D → S → Bool) (l : List D) : List D → S → Bool :=
  List.rec (motive := fun _ => List D → S → Bool) fin (fun d _ ih acc s => g d e0 s (fun e1 s1 => t e1 s1 (fun b s2 => asB b fun q => ifB q
    (i1 e1 s2 (fun l1 s3 rel => grd (shortB l1) (grd (shortB acc) (lpJ g1 t1 el (wipeD e1 vs1) (fun acc s4 => rel s4 fun s5 => trIf tr (Nat.succ n) s5 fun s6 => ih acc s6) l1 acc s3))) x0)
    (trIf tr (Nat.succ n) s2 fun s4 => ih acc s4)) x0) x0) l
def xLc2 (i : XI) (g : XG) (t : XE) (i1 : XI) (g1 : XG) (t1 el : XE) (own vs1 : List Nat) (tr : Bool) : XE := fun e s k x => i e s (fun l s1 rel => S.rec (motive := fun _ => Bool) (fun nl no os => frN no fun no =>
  lpO g t i1 g1 t1 el vs1 no tr (wipeD e own) (fun acc s2 => shw no (revD acc) s2 fun s3 => rel s3 fun s4 => k (.ref no) s4) l [] (.mk nl (Nat.succ no) ((no, .hid) :: os))) s1) x
section
variable {B : Bs} {c : SI} {E : XK} {X : Cx} {elt tg iter tg1 iter1 : Expr} {pos : Pos} {scope : Scope} {own : List (Str × Nat)} {xi xi1 : XI} {g g1 : XG} {t t1 el : XE} {tr : Bool}
theorem lc2_two {w w1 vs vs1 : List Nat} {σ : L2.St} {H : Hp} {Q : VK} (hw : ∀ i ∈ w, i ∈ vs) (hw1 : ∀ i ∈ w1, i ∈ vs1) (h : TX B E (xLc2 xi g t xi1 g1 t1 el vs vs1 tr) σ H Q) :
    tLc2 (TIr B E xi) (TGr B E0 w g) (TB B E0 t) (TIr B E0 xi1) (TGr B E0 w1 g1) (TB B E0 t1) (TX B E0 el) vs vs1 σ H Q := by
  obtain ⟨m, s, env, k, kx, ar, er, hx, hk, hkx⟩ := h
  refine ⟨m, s, env, _, kx, ar, er, hx, fun l m0 s0 H0 s1 rel J p a0 W h => ?_, hkx⟩
  obtain ⟨p1, a1, ro, wk⟩ := W.now a0
  intro A hA
  obtain ⟨nl, no, os⟩ := s1
  have h2 : frN no _ = true := h
  rw [frN_eq] at h2
  obtain ⟨p2, a2, _⟩ := made (o := .hid) (u := .lst []) a1 hA fun m' s' H' P e => ⟨[], e⟩
  have rA : (m0.add no A).ρ no = A := add_same
  have get0 : osGet ((no, O.hid) :: os) no = some .hid := by rw [osGet_cons, if_pos rfl]
  have oldn : ∀ o, osGet os no = some o → False := fun o e => Nat.lt_irrefl _ (a1.num no o e)
  let fin : List D → S → Bool := fun acc s2 => shw no (revD acc) s2 fun s3 => rel s3 fun s4 => k (.ref no) s4
  let lp := fun l => lpO g t xi1 g1 t1 el vs1 no tr (wipeD env vs) fin l
  have hx2 : lp l [] (.mk nl (no + 1) ((no, .hid) :: os)) = true := h2
  have er0 : ER B m0 (.mk nl no os) H0 (wipeD env vs) (wipe σ vs) := er_wipe (er.post (p.trans p1) ar) vs
  let I2 : Nat → Hp → Prop := fun i H' => ∃ m' s' acc xs, Post m0 (.mk nl no os) H0 m' s' H' ∧ AR B m' s' H' ∧ osGet s'.os no = some .hid ∧ m'.ρ no = A ∧ H' A = some (.lst xs) ∧ RDws B m' s' H' acc.reverse xs ∧ lp (l.drop i) acc s' = true
  refine ⟨fun i mm H' => mm = l.length - i ∧ i ≤ l.length ∧ I2 i H', ⟨l.length, by simp, Nat.zero_le _, _, _, [], [], p2, a2, get0, rA, upd_same, rfl, by simpa using hx2⟩, ?_⟩
  rintro i mm H' ⟨em, hi, m', s', acc, xs, p', a', g', rho, hA', rx, h'⟩
  have kx0 : ∀ {m s H}, KXok B m s H x0 E0 := fun {m s H} c p m' s' H' cls dd _ _ _ z => absurd z Bool.false_ne_true
  by_cases hl : i < l.length
  · obtain ⟨d, hd⟩ : ∃ d, l[i]? = some d := ⟨l[i], by simp [hl]⟩
    have ed : l.drop i = d :: l.drop (i + 1) := by
      rw [List.drop_eq_getElem_cons hl]
      congr 1
      rw [List.getElem?_eq_getElem hl] at hd
      exact Option.some.inj hd
    rw [ed] at h'
    let fin1 : Rel → List D → S → Bool := fun rel1 acc s4 => rel1 s4 fun s5 => trIf tr (Nat.succ no) s5 fun s6 => lp (l.drop (i + 1)) acc s6
    have h3 : g d (wipeD env vs) s' (fun e1 s1 => t e1 s1 (fun b s2 => asB b fun q => ifB q
      (xi1 e1 s2 (fun l1 s3 rel => grd (shortB l1) (grd (shortB acc) (lpJ g1 t1 el (wipeD e1 vs1) (fin1 rel) l1 acc s3))) x0)
      (trIf tr (Nat.succ no) s2 fun s4 => lp (l.drop (i + 1)) acc s4)) x0) x0 = true := h'
    obtain ⟨go, yl⟩ := wk.step i d m' s' H' p' a' hd
    refine .inr ⟨go, I2 (i + 1), fun H' z => ⟨l.length - (i + 1), by omega, rfl, hl, z⟩, fun x H2 y => ?_⟩
    obtain ⟨q2, b2, r2⟩ := yl x H2 y
    refine ⟨m', s', wipeD env vs, d, _, x0, b2, er0.post (p'.trans q2) a1, r2, h3, kx0, fun env3 m3 s3 H3 σ3 q3 b3 e3 len3 out3 h4 => ?_⟩
    refine ⟨(wipe_same len3 hw out3).trans wipe_wipe, m3, s3, env3, _, x0, b3, e3, h4, fun bd m4 s4 H4 bv q4 b4 rb h5 => ?_, kx0⟩
    obtain ⟨bb, eb, h6⟩ := asB_ok h5
    subst eb
    cases rb
    refine ⟨bb, rfl, ?_⟩
    have Q4 : Post m' s' H' m4 s4 H4 := (q2.trans q3).trans q4
    have fix : ∀ {m5 s5 H5}, Post m' s' H' m5 s5 H5 → osGet s5.os no = some .hid ∧ m5.ρ no = A ∧ H5 A = some (.lst xs) ∧ RDws B m5 s5 H5 acc.reverse xs := fun {m5 s5 H5} q5 =>
      ⟨q5.fzp no _ g' rfl, (q5.more.rho no (a'.num no _ g')).trans rho, q5.keep A _ hA' (by rw [← rho]; exact hid_nwr a' g') (fun ps z => by cases z), q5.rds a' rx⟩
    rcases ifB_ok h6 with ⟨e, h7⟩ | ⟨e, h7⟩
    · simp only [e, if_true]
      refine ⟨m4, s4, env3, _, x0, b4, e3.post q4 b3, h7, fun l1 m5 s5 H5 s6 rel1 J1 q5 b5 W1 h8 => ?_, kx0⟩
      obtain ⟨c1, h9⟩ := grd_ok h8
      obtain ⟨c2, h10⟩ := grd_ok h9
      have c1 := shortB_ok c1
      have c2 := shortB_ok c2
      have Q5 : Post m' s' H' m5 s5 H5 := Q4.trans q5
      have e5 : ER B m5 s5 H5 env3 σ3 := e3.post (q4.trans q5) b3
      obtain ⟨f1, f2, f3, f4⟩ := fix Q5
      have PB : Post m0 (.mk nl no os) H0 m5 s5 H5 := p'.trans Q5
      -- the inner base, with what has grown
      have base : ∀ ys, AR B m5 s5 (upd H5 A (.lst ys)) ∧ GrE m5 s5 H5 (upd H5 A (.lst ys)) ∧ ER B m5 s5 (upd H5 A (.lst ys)) env3 σ3 := fun ys => by
        obtain ⟨A1, R1, _⟩ := hid_grow (ys := ys) b5 f1
        rw [f2] at A1 R1
        refine ⟨A1, fun b hb => upd_ne (fun e => hb no f1 (by rw [f2, e])), e5.len, fun i d h => ?_⟩
        rcases e5.at_ i d h with z | ⟨v, z1, z2⟩
        · exact .inl z
        · exact .inr ⟨v, z1, R1 _ _ z2⟩
      let lq := fun l => lpJ g1 t1 el (wipeD env3 vs1) (fin1 rel1) l
      have h11 : lq l1 acc s6 = true := h10
      let I3 : Nat → Hp → Prop := fun j H' => ∃ m7 s7 acc2 xs2, Post m5 s6 (upd H5 A (.lst xs2)) m7 s7 H' ∧ AR B m7 s7 H' ∧ osGet s7.os no = some .hid ∧ m7.ρ no = A ∧ H' A = some (.lst xs2) ∧ RDws B m7 s7 H' acc2.reverse xs2 ∧ acc2.length ≤ acc.length + j ∧ lq (l1.drop j) acc2 s7 = true
      have e0 : upd H5 A (.lst xs) = H5 := by
        funext b
        by_cases e : b = A
        · subst e; rw [upd_same, f3]
        · rw [upd_ne e]
      obtain ⟨q6, b6, _, _⟩ := W1.now b5
      have f6 := fix (Q5.trans q6)
      refine ⟨fun j kk H' => kk = l1.length - j ∧ j ≤ l1.length ∧ I3 j H', ⟨l1.length, by simp, Nat.zero_le _, m5, s6, acc, xs, by rw [e0]; exact .refl, b6, f6.1, f6.2.1, f6.2.2.1, f6.2.2.2, Nat.le_refl _, by simpa using h11⟩, ?_⟩
      rintro j kk Hj ⟨ek, hj, m7, s7, acc2, xs2, p7, a7, g7, rho7, hA7, rx7, hc7, h12⟩
      obtain ⟨bA, bG, bE⟩ := base xs2
      obtain ⟨p6, a6, ro1, wk1⟩ := W1.all _ bG bA
      have e7 : ER B m5 s6 (upd H5 A (.lst xs2)) (wipeD env3 vs1) (wipe σ3 vs1) := er_wipe (bE.post p6 bA) vs1
      by_cases hl1 : j < l1.length
      · obtain ⟨d1, hd1⟩ : ∃ d, l1[j]? = some d := ⟨l1[j], by simp [hl1]⟩
        have ed1 : l1.drop j = d1 :: l1.drop (j + 1) := by
          rw [List.drop_eq_getElem_cons hl1]
          congr 1
          rw [List.getElem?_eq_getElem hl1] at hd1
          exact Option.some.inj hd1
        rw [ed1] at h12
        have h13 : g1 d1 (wipeD env3 vs1) s7 (fun e1 s1 => t1 e1 s1 (fun b s2 => asB b fun q => ifB q (el e1 s2 (fun y s3 => lq (l1.drop (j + 1)) (y :: acc2) s3) x0) (lq (l1.drop (j + 1)) acc2 s2)) x0) x0 = true := h12
        obtain ⟨go1, yl1⟩ := wk1.step j d1 m7 s7 Hj p7 a7 hd1
        refine .inr ⟨go1, I3 (j + 1), fun H' z => ⟨l1.length - (j + 1), by omega, rfl, hl1, z⟩, fun x1 H8 y1 => ?_⟩
        obtain ⟨q8, b8, r8⟩ := yl1 x1 H8 y1
        refine ⟨m7, s7, wipeD env3 vs1, d1, _, x0, b8, e7.post (p7.trans q8) a6, r8, h13, kx0, fun env9 m9 s9 H9 σ9 q9 b9 e9 len9 out9 h14 => ?_⟩
        refine ⟨(wipe_same len9 hw1 out9).trans wipe_wipe, m9, s9, env9, _, x0, b9, e9, h14, fun bd m10 s10 H10 bv q10 b10 rb h15 => ?_, kx0⟩
        obtain ⟨b11, eb, h16⟩ := asB_ok h15
        subst eb
        cases rb
        refine ⟨b11, rfl, ?_⟩
        have Q10 : Post m7 s7 Hj m10 s10 H10 := (q8.trans q9).trans q10
        have fix1 : ∀ {m5 s5 H5}, Post m7 s7 Hj m5 s5 H5 → osGet s5.os no = some .hid ∧ m5.ρ no = A ∧ H5 A = some (.lst xs2) ∧ RDws B m5 s5 H5 acc2.reverse xs2 := fun {m5 s5 H5} q5 =>
          ⟨q5.fzp no _ g7 rfl, (q5.more.rho no (a7.num no _ g7)).trans rho7, q5.keep A _ hA7 (by rw [← rho7]; exact hid_nwr a7 g7) (fun ps z => by cases z), q5.rds a7 rx7⟩
        rcases ifB_ok h16 with ⟨e, h17⟩ | ⟨e, h17⟩
        · simp only [e, if_true]
          refine ⟨m10, s10, env9, _, x0, b10, e9.post q10 b9, h17, fun yd m12 s12 H12 yv q12 b12 ry h18 => ?_, kx0⟩
          have Q12 := Q10.trans q12
          obtain ⟨k1, k2, k3, k4⟩ := fix1 Q12
          have len := rds_len k4
          refine ⟨xs2, k3, ?_, ?_⟩
          · rw [List.length_reverse] at len
            rw [sizeLine_eq]
            omega
          · obtain ⟨A7, R7, Rs7⟩ := hid_grow (ys := xs2 ++ [yv]) b12 k1
            rw [k2] at A7 R7 Rs7
            exact ⟨m12, s12, yd :: acc2, xs2 ++ [yv], post_regrow (p7.trans Q12), A7, k1, k2, upd_same, rds_rev (Rs7 _ _ k4) (R7 _ _ ry), by rw [List.length_cons]; omega, h18⟩
        · rw [e]
          obtain ⟨k1, k2, k3, k4⟩ := fix1 Q10
          exact ⟨m10, s10, acc2, xs2, p7.trans Q10, b10, k1, k2, k3, k4, by omega, h17⟩
      · have e : j = l1.length := by omega
        subst e
        rw [List.drop_length] at h12
        refine .inl ⟨wk1.stop m7 s7 Hj p7 a7, ?_⟩
        have h13 : rel1 s7 (fun s5 => trIf tr (Nat.succ no) s5 fun s6 => lp (l.drop (i + 1)) acc2 s6) = true := h12
        obtain ⟨s8, h14, P8, A8, R8⟩ := ro1 m7 s7 Hj _ p7 a7 h13
        have P9 : Post m0 (.mk nl no os) H0 m7 s8 Hj := (post_far PB hA).trans P8
        obtain ⟨s9, h15, P10, A10, R10, Rs10, G10⟩ := trIf_ok P9 (Nat.le_succ no) a1.num A8 h14
        have g8 : osGet s8.os no = some .hid := P8.fzp no _ f1 rfl
        exact ⟨m7, s9, acc2, xs2, P10, A10, G10 no _ (Nat.lt_succ_self no) g8, rho7, hA7, Rs10 _ _ (rds_map R8 rx7), h15⟩
    · rw [e]
      obtain ⟨f1, f2, f3, f4⟩ := fix Q4
      obtain ⟨s6, h9, P6, A6, R6, Rs6, G6⟩ := trIf_ok (p'.trans Q4) (Nat.le_succ no) a1.num b4 h7
      exact ⟨m4, s6, acc, xs, P6, A6, G6 no _ (Nat.lt_succ_self no) f1, f2, f3, Rs6 _ _ f4, h9⟩
  · have e : i = l.length := by omega
    subst e
    rw [List.drop_length] at h'
    refine .inl ⟨wk.stop m' s' H' p' a', ?_⟩
    obtain ⟨nl', no', os'⟩ := s'
    have h3 : rel (.mk nl' no' (osSet os' no (.lst (revD acc)))) (fun s4 => k (.ref no) s4) = true := h'
    rw [revD_eq] at h3
    obtain ⟨P4, A4⟩ := hid_show (l := acc.reverse) a' g' (by rw [rho]; exact hA') rx p' (by rw [rho]; exact fun o z => by rw [hA] at z; cases z) oldn
    obtain ⟨s5, h5, P5, A5, R5⟩ := ro m' _ H' _ P4 A4 h3
    refine hk (.ref no) m' s5 H' _ (p.trans P5) A5 (R5 _ _ ⟨?_, by rw [rho]⟩) h5
    exact a'.num no _ g'
theorem x_lc2 {w w1 vs1 : List Nat} {ifs ifs1 : List Expr} (C : Cok B c E X) (hN : c.N.Nodup) (hi : PI X tg iter (TIr B E xi)) (ok : BlkOk c.N c.sc scope own) (hw : ∀ i ∈ w, i ∈ own.map (·.2)) (hv : ∀ i ∈ vs1, i ∈ own.map (·.2)) (hw1 : ∀ i ∈ w1, i ∈ vs1)
    (hg : ∀ X', Cok B (c.blk scope) E0 X' → PG X' tg (TGr B E0 w g)) (ht : ∀ X', Cok B (c.blk scope) E0 X' → PTs X' ifs (TB B E0 t)) (hi1 : ∀ X', Cok B (c.blk scope) E0 X' → PI X' tg1 iter1 (TIr B E0 xi1)) (hg1 : ∀ X', Cok B (c.blk scope) E0 X' → PG X' tg1 (TGr B E0 w1 g1))
    (ht1 : ∀ X', Cok B (c.blk scope) E0 X' → PTs X' ifs1 (TB B E0 t1)) (he : ∀ X', Cok B (c.blk scope) E0 X' → PE X' elt (TX B E0 el)) (hs : ∀ x, foldedSetIterable iter X.env x = pure x) (hs1 : ∀ env x, foldedSetIterable iter1 env x = pure x) :
    PE X (.ListComp elt [⟨tg, iter, ifs, 0⟩, ⟨tg1, iter1, ifs1, 0⟩] scope pos) (TX B E (xLc2 xi g t xi1 g1 t1 el (own.map (·.2)) vs1 tr)) :=
  wkE (pe_lc2 C.calm (by rw [C.N]; exact hN) hi (by rw [C.N, C.sc]; exact ok) hv (fun s H L cl fp => hg _ (cok_blk C s H scope cl L fp)) (fun s H L cl fp => ht _ (cok_blk C s H scope cl L fp)) (fun s H L cl fp => hi1 _ (cok_blk C s H scope cl L fp)) (fun s H L cl fp => hg1 _ (cok_blk C s H scope cl L fp))
    (fun s H L cl fp => ht1 _ (cok_blk C s H scope cl L fp)) (fun s H L cl fp => he _ (cok_blk C s H scope cl L fp)) hs hs1) fun σ H Q h => lc2_two hw hw1 h
theorem s_setLc2 {w w1 vs1 : List Nat} {ifs ifs1 : List Expr} {i : Nat} {y : Str} {py spos : Pos} (C : Cok B c E X) (hN : c.N.Nodup) (hy : c.N[i]? = some y) (hyl : c.sc.names.lookup y = some .local) (hi : PI X tg iter (TIr B E xi)) (ok : BlkOk c.N c.sc scope own) (hw : ∀ i ∈ w, i ∈ own.map (·.2)) (hv : ∀ i ∈ vs1, i ∈ own.map (·.2)) (hw1 : ∀ i ∈ w1, i ∈ vs1)
    (hk : X.env.scope.kind = .function) (hl : (py.line == pos.line) = true) (hna : (scope.names.any fun (n, k) => n == y && (k == .local || k == .cell)) = false)
    (hg : ∀ X', Cok B (c.blk scope) E0 X' → PG X' tg (TGr B E0 w g)) (ht : ∀ X', Cok B (c.blk scope) E0 X' → PTs X' ifs (TB B E0 t)) (hi1 : ∀ X', Cok B (c.blk scope) E0 X' → PI X' tg1 iter1 (TIr B E0 xi1)) (hg1 : ∀ X', Cok B (c.blk scope) E0 X' → PG X' tg1 (TGr B E0 w1 g1))
    (ht1 : ∀ X', Cok B (c.blk scope) E0 X' → PTs X' ifs1 (TB B E0 t1)) (he : ∀ X', Cok B (c.blk scope) E0 X' → PE X' elt (TX B E0 el)) (hs : ∀ x, foldedSetIterable iter X.env x = pure x) (hs1 : ∀ env x, foldedSetIterable iter1 env x = pure x) :
    PS X (.Assign [.Name y py] (.ListComp elt [⟨tg, iter, ifs, 0⟩, ⟨tg1, iter1, ifs1, 0⟩] scope pos) spos) (TSt B E (sSet i (xLc2 xi g t xi1 g1 t1 el (own.map (·.2)) vs1 tr))) :=
  wkS (ps_setLc2 C.calm (by rw [C.N]; exact hN) (C.at_ hy) (by rw [C.sc]; exact hyl) (sw_true hk (by rw [C.sc]; exact hyl) hl hna) hi (by rw [C.N, C.sc]; exact ok) hv (fun s H L cl fp => hg _ (cok_blk C s H scope cl L fp)) (fun s H L cl fp => ht _ (cok_blk C s H scope cl L fp)) (fun s H L cl fp => hi1 _ (cok_blk C s H scope cl L fp)) (fun s H L cl fp => hg1 _ (cok_blk C s H scope cl L fp))
    (fun s H L cl fp => ht1 _ (cok_blk C s H scope cl L fp)) (fun s H L cl fp => he _ (cok_blk C s H scope cl L fp)) hs hs1) fun Dn σ H ⟨m, s, env, n, cc, ar, er, hx, hn, hc⟩ => by
    refine lc2_two (E := E) hw hw1 ⟨m, s, env, _, cc.kx, ar, er, hx, fun d m1 s1 H1 v p1 a1 r1 h => ?_, hc.xx⟩
    exact hn _ m1 s1 H1 _ p1 a1 (er_put (er.post p1 ar) r1 i) h
theorem s_setLcF {w : List Nat} {ifs : List Expr} {i : Nat} {y : Str} {py spos : Pos} (C : Cok B c E X) (hN : c.N.Nodup) (hy : c.N[i]? = some y) (hyl : c.sc.names.lookup y = some .local) (hi : PI X tg iter (TIr B E xi)) (ok : BlkOk c.N c.sc scope own) (hw : ∀ i ∈ w, i ∈ own.map (·.2))
    (hk : X.env.scope.kind = .function) (hl : (py.line == pos.line) = true) (hna : (scope.names.any fun (n, k) => n == y && (k == .local || k == .cell)) = false)
    (hg : ∀ X', Cok B (c.blk scope) E0 X' → PG X' tg (TGr B E0 w g)) (ht : ∀ X', Cok B (c.blk scope) E0 X' → PTs X' ifs (TB B E0 t)) (he : ∀ X', Cok B (c.blk scope) E0 X' → PE X' elt (TX B E0 el)) (hs : ∀ x, foldedSetIterable iter X.env x = pure x) :
    PS X (.Assign [.Name y py] (.ListComp elt [⟨tg, iter, ifs, 0⟩] scope pos) spos) (TSt B E (sSet i (xFz (xLc xi g t el (own.map (·.2)) tr)))) :=
  wkS (ps_setLc C.calm (by rw [C.N]; exact hN) (C.at_ hy) (by rw [C.sc]; exact hyl) (sw_true hk (by rw [C.sc]; exact hyl) hl hna) hi (by rw [C.N, C.sc]; exact ok) (fun s H L cl fp => hg _ (cok_blk C s H scope cl L fp)) (fun s H L cl fp => ht _ (cok_blk C s H scope cl L fp)) (fun s H L cl fp => he _ (cok_blk C s H scope cl L fp)) hs) fun Dn σ H ⟨m, s, env, n, cc, ar, er, hx, hn, hc⟩ => by
    refine lc_two (K := B.K) (E := E) (tr := tr) hw ⟨m, s, env, fun d s1 => frzS d s1 fun d s2 => n (put env d i) s2, cc.kx, ar, er, hx, fun d m1 s1 H1 v p1 a1 r1 h => ?_, hc.xx⟩
    obtain ⟨l, s', h2, P, A, R⟩ := frz_s a1 r1 h
    exact hn _ m1 s' H1 _ (p1.trans P) A (er_put (er.post (p1.trans P) ar) R i) h2
theorem s_setLc2F {w w1 vs1 : List Nat} {ifs ifs1 : List Expr} {i : Nat} {y : Str} {py spos : Pos} (C : Cok B c E X) (hN : c.N.Nodup) (hy : c.N[i]? = some y) (hyl : c.sc.names.lookup y = some .local) (hi : PI X tg iter (TIr B E xi)) (ok : BlkOk c.N c.sc scope own) (hw : ∀ i ∈ w, i ∈ own.map (·.2)) (hv : ∀ i ∈ vs1, i ∈ own.map (·.2)) (hw1 : ∀ i ∈ w1, i ∈ vs1)
    (hk : X.env.scope.kind = .function) (hl : (py.line == pos.line) = true) (hna : (scope.names.any fun (n, k) => n == y && (k == .local || k == .cell)) = false)
    (hg : ∀ X', Cok B (c.blk scope) E0 X' → PG X' tg (TGr B E0 w g)) (ht : ∀ X', Cok B (c.blk scope) E0 X' → PTs X' ifs (TB B E0 t)) (hi1 : ∀ X', Cok B (c.blk scope) E0 X' → PI X' tg1 iter1 (TIr B E0 xi1)) (hg1 : ∀ X', Cok B (c.blk scope) E0 X' → PG X' tg1 (TGr B E0 w1 g1))
    (ht1 : ∀ X', Cok B (c.blk scope) E0 X' → PTs X' ifs1 (TB B E0 t1)) (he : ∀ X', Cok B (c.blk scope) E0 X' → PE X' elt (TX B E0 el)) (hs : ∀ x, foldedSetIterable iter X.env x = pure x) (hs1 : ∀ env x, foldedSetIterable iter1 env x = pure x) :
    PS X (.Assign [.Name y py] (.ListComp elt [⟨tg, iter, ifs, 0⟩, ⟨tg1, iter1, ifs1, 0⟩] scope pos) spos) (TSt B E (sSet i (xFz (xLc2 xi g t xi1 g1 t1 el (own.map (·.2)) vs1 tr)))) :=
  wkS (ps_setLc2 C.calm (by rw [C.N]; exact hN) (C.at_ hy) (by rw [C.sc]; exact hyl) (sw_true hk (by rw [C.sc]; exact hyl) hl hna) hi (by rw [C.N, C.sc]; exact ok) hv (fun s H L cl fp => hg _ (cok_blk C s H scope cl L fp)) (fun s H L cl fp => ht _ (cok_blk C s H scope cl L fp)) (fun s H L cl fp => hi1 _ (cok_blk C s H scope cl L fp)) (fun s H L cl fp => hg1 _ (cok_blk C s H scope cl L fp))
    (fun s H L cl fp => ht1 _ (cok_blk C s H scope cl L fp)) (fun s H L cl fp => he _ (cok_blk C s H scope cl L fp)) hs hs1) fun Dn σ H ⟨m, s, env, n, cc, ar, er, hx, hn, hc⟩ => by
    refine lc2_two (E := E) (tr := tr) hw hw1 ⟨m, s, env, fun d s1 => frzS d s1 fun d s2 => n (put env d i) s2, cc.kx, ar, er, hx, fun d m1 s1 H1 v p1 a1 r1 h => ?_, hc.xx⟩
    obtain ⟨l, s', h2, P, A, R⟩ := frz_s a1 r1 h
    exact hn _ m1 s' H1 _ (p1.trans P) A (er_put (er.post (p1.trans P) ar) R i) h2
end
end Ev
end
end

/-! part EvBB -/
section
set_option Elab.async false
set_option linter.all false
set_option maxRecDepth 100000
set_option maxHeartbeats 4000000
/-! EvBB: sorted(xs): ints, tuples of ints. -/
noncomputable section
namespace Ev
open PySem PySem.Spec PyProof.Rows L2

/-! ### the keys -/
/-- ints, tuples of them, so deep -/
def okT : Nat → D → Bool := Nat.rec (fun d => asI d fun _ => true) fun _ ih d =>
  D.rec (motive_1 := fun _ => Bool) (motive_2 := fun _ => Unit) false false (fun _ => false) (fun _ => true) (fun _ => false) (fun _ => false) (fun l _ => l.all ih) (fun _ _ => false) (fun _ _ _ => false) (fun _ => false) (fun _ => false) (fun _ => false) (fun _ _ => false) (fun _ _ => false) (fun _ _ _ => false) () (fun _ _ _ _ => ()) d
/-- of one shape -/
def shpL (f : D → D → Bool) (l m : List D) : Bool := List.rec (motive := fun _ => List D → Bool) (fun m => List.rec (motive := fun _ => Bool) true (fun _ _ _ => false) m) (fun x _ ih m => List.rec (motive := fun _ => Bool) false (fun y t _ => Bool.rec (motive := fun _ => Bool) false (ih t) (f x y)) m) l m
def shp : Nat → D → D → Bool := Nat.rec (fun d e => asI d fun _ => asI e fun _ => true) fun _ ih d e =>
  D.rec (motive_1 := fun _ => Bool) (motive_2 := fun _ => Unit) false false (fun _ => false) (fun _ => asI e fun _ => true) (fun _ => false) (fun _ => false) (fun l _ => asT e fun m => shpL ih l m) (fun _ _ => false) (fun _ _ _ => false) (fun _ => false) (fun _ => false) (fun _ => false) (fun _ _ => false) (fun _ _ => false) (fun _ _ _ => false) () (fun _ _ _ _ => ()) d
/-- the signs that are compared -/
def tkS : Nat → D → List Int → List Int := Nat.rec (fun d r => D.rec (motive_1 := fun _ => List Int) (motive_2 := fun _ => Unit) r r (fun _ => r) (fun i => i :: r) (fun _ => r) (fun _ => r) (fun _ _ => r) (fun _ _ => r) (fun _ _ _ => r) (fun _ => r) (fun _ => r) (fun _ => r) (fun _ _ => r) (fun _ _ => r) (fun _ _ _ => r) () (fun _ _ _ _ => ()) d) fun _ ih d r =>
  D.rec (motive_1 := fun _ => List Int) (motive_2 := fun _ => Unit) r r (fun _ => r) (fun i => i :: r) (fun _ => r) (fun _ => r) (fun l _ => List.rec (motive := fun _ => List Int) (0 :: r) (fun x _ z => 1 :: ih x z) l) (fun _ _ => r) (fun _ _ _ => r) (fun _ => r) (fun _ => r) (fun _ => r) (fun _ _ => r) (fun _ _ => r) (fun _ _ _ => r) () (fun _ _ _ _ => ()) d
def lexI (a b : List Int) : Bool := List.rec (motive := fun _ => List Int → Bool) (fun b => List.rec (motive := fun _ => Bool) false (fun _ _ _ => true) b) (fun x _ ih b => List.rec (motive := fun _ => Bool) false (fun y t _ => Bool.rec (motive := fun _ => Bool) (Bool.rec (motive := fun _ => Bool) (ih t) false (iLt y x)) true (iLt x y)) b) a b
theorem asI_int {i : Int} {k : Int → Bool} : asI (.int i) k = k i := rfl
theorem okT_ok : ∀ (n : Nat) (d : D), okT n d = true → (∃ i, d = .int i) ∨ ∃ l m, d = .tup l ∧ n = m + 1 ∧ ∀ x ∈ l, okT m x = true
  | 0, d, h => by
    obtain ⟨i, e, _⟩ := asI_ok (show asI d _ = true from h)
    exact .inl ⟨i, e⟩
  | n + 1, d, h => by
    cases d with
    | int i => exact .inl ⟨i, rfl⟩
    | tup l => exact .inr ⟨l, n, rfl, rfl, fun x hx => (List.all_eq_true.mp (show l.all (okT n) = true from h)) x hx⟩
    | _ => exact absurd (show false = true from h) Bool.false_ne_true
theorem lexI_eq : ∀ a b : List Int, lexI a b = lexLt itemOrd (a.map Sum.inl) (b.map Sum.inl)
  | [], [] => rfl
  | [], _ :: _ => rfl
  | _ :: _, [] => rfl
  | x :: a, y :: b => by
    show Bool.rec (motive := fun _ => Bool) (Bool.rec (motive := fun _ => Bool) (lexI a b) false (iLt y x)) true (iLt x y) = (decide (x < y) || (!decide (y < x) && lexLt itemOrd (a.map Sum.inl) (b.map Sum.inl)))
    rw [lexI_eq a b, iLt_eq, iLt_eq]
    cases decide (x < y) <;> cases decide (y < x) <;> rfl
theorem toPy_all : ∀ (n : Nat) (d : D), okT n d = true → ∃ p, toPy d = some p ∧ p.hasDict = false ∧ p.depth ≤ n
  | n, d, h => by
    rcases okT_ok n d h with ⟨i, e⟩ | ⟨l, m, e, en, hl⟩
    · subst e
      exact ⟨.int i, rfl, by simp [PyData.hasDict], by simp [PyData.depth]⟩
    · subst e en
      have key : ∀ l : List D, (∀ x ∈ l, okT m x = true) → ∃ ps, toPys l = some ps ∧ PyData.hasDictAll ps = false ∧ PyData.depthAll ps ≤ m := fun l => by
        induction l with
        | nil => exact fun _ => ⟨[], rfl, by simp [PyData.hasDictAll], by simp [PyData.depthAll]⟩
        | cons x r ih =>
          intro h
          obtain ⟨p, e1, e2, e3⟩ := toPy_all m x (h x List.mem_cons_self)
          obtain ⟨ps, f1, f2, f3⟩ := ih fun y hy => h y (List.mem_cons_of_mem _ hy)
          refine ⟨p :: ps, by show (match toPy x, toPys r with | some p, some ps => some (p :: ps) | _, _ => none) = _; rw [e1, f1], by rw [PyData.hasDictAll, e2, f2]; rfl, by rw [PyData.depthAll]; omega⟩
      obtain ⟨ps, f1, f2, f3⟩ := key l hl
      exact ⟨.tuple ps, by show (toPys l).map PyData.tuple = _; rw [f1]; rfl, by rw [PyData.hasDict]; exact f2, by rw [PyData.depth]; omega⟩
theorem tkS_eq : ∀ (n : Nat) (d : D), okT n d = true → ∀ p, toPy d = some p → ∀ r, (tkS n d r).map Sum.inl = PySem.W.keyToks p ++ r.map Sum.inl
  | n, d, h, p, hp, r => by
    rcases okT_ok n d h with ⟨i, e⟩ | ⟨l, m, e, en, hl⟩
    · subst e
      cases hp
      cases n <;> (simp only [PySem.W.keyToks]; rfl)
    · subst e en
      have key : ∀ l : List D, (∀ x ∈ l, okT m x = true) → ∀ ps, toPys l = some ps → (List.rec (motive := fun _ => List Int) (0 :: r) (fun x _ z => 1 :: tkS m x z) l).map Sum.inl = PySem.W.keyToksAll ps ++ r.map Sum.inl := fun l => by
        induction l with
        | nil =>
          intro _ ps e
          cases e
          simp only [PySem.W.keyToksAll]
          rfl
        | cons x q ih =>
          intro h ps e
          have e' : (match toPy x, toPys q with | some p, some ps => some (p :: ps) | _, _ => none) = some ps := e
          cases e1 : toPy x with
          | none => rw [e1] at e'; cases e'
          | some p1 =>
            cases e2 : toPys q with
            | none => rw [e1, e2] at e'; cases e'
            | some ps1 =>
              rw [e1, e2] at e'
              cases e'
              have i1 := ih (fun y hy => h y (List.mem_cons_of_mem _ hy)) ps1 e2
              have i2 := tkS_eq m x (h x List.mem_cons_self) p1 e1 (List.rec (motive := fun _ => List Int) (0 :: r) (fun x _ z => 1 :: tkS m x z) q)
              show Sum.inl 1 :: (tkS m x (List.rec (motive := fun _ => List Int) (0 :: r) (fun x _ z => 1 :: tkS m x z) q)).map Sum.inl = _
              rw [i2, i1, PySem.W.keyToksAll, List.cons_append, List.append_assoc]
      have hp' : (toPys l).map PyData.tuple = some p := hp
      cases e1 : toPys l with
      | none => rw [e1] at hp'; cases hp'
      | some ps =>
        rw [e1] at hp'
        cases hp'
        rw [PySem.W.keyToks]
        exact key l hl ps e1
/-- the key's signs -/
def tksS (d : D) : List Int := tkS 4 d []
def pyD (d : D) : PyData := (toPy d).getD .none
theorem tksS_eq {d : D} (h : okT 4 d = true) : (tksS d).map Sum.inl = PySem.W.keyToks (pyD d) := by
  obtain ⟨p, e, _, _⟩ := toPy_all 4 d h
  have z := tkS_eq 4 d h p e []
  unfold pyD tksS
  rw [e, z]
  simp
theorem shpL_ok {f : D → D → Bool} : ∀ {l m : List D}, shpL f l m = true → (l = [] ∧ m = []) ∨ ∃ x r y t, l = x :: r ∧ m = y :: t ∧ f x y = true ∧ shpL f r t = true
  | [], [], _ => .inl ⟨rfl, rfl⟩
  | [], _ :: _, h => absurd (show false = true from h) Bool.false_ne_true
  | _ :: _, [], h => absurd (show false = true from h) Bool.false_ne_true
  | x :: r, y :: t, h => by
    have h' : Bool.rec (motive := fun _ => Bool) false (shpL f r t) (f x y) = true := h
    cases e : f x y with
    | false => rw [e] at h'; exact absurd (show false = true from h') Bool.false_ne_true
    | true => rw [e] at h'; exact .inr ⟨x, r, y, t, rfl, rfl, e, h'⟩
theorem shp_ok : ∀ (n : Nat) (d e : D), shp n d e = true → (∃ i j, d = .int i ∧ e = .int j) ∨ ∃ l m k, d = .tup l ∧ e = .tup m ∧ n = k + 1 ∧ shpL (shp k) l m = true
  | 0, d, e, h => by
    obtain ⟨i, e1, h1⟩ := asI_ok (show asI d _ = true from h)
    obtain ⟨j, e2, _⟩ := asI_ok h1
    exact .inl ⟨i, j, e1, e2⟩
  | n + 1, d, e, h => by
    cases d with
    | int i =>
      obtain ⟨j, e2, _⟩ := asI_ok (show asI e _ = true from h)
      exact .inl ⟨i, j, rfl, e2⟩
    | tup l =>
      obtain ⟨m, e2, h2⟩ := asT_ok (show asT e _ = true from h)
      exact .inr ⟨l, m, n, rfl, e2, rfl, h2⟩
    | _ => exact absurd (show false = true from h) Bool.false_ne_true
theorem okT_tup {n : Nat} {l : List D} (h : okT (n + 1) (.tup l) = true) : (∀ x ∈ l, okT n x = true) ∧ ∃ ps, toPys l = some ps := by
  have a : ∀ x ∈ l, okT n x = true := List.all_eq_true.mp (show l.all (okT n) = true from h)
  obtain ⟨p, e, _, _⟩ := toPy_all (n + 1) (.tup l) h
  have e' : (toPys l).map PyData.tuple = some p := e
  cases q : toPys l with
  | none => rw [q] at e'; cases e'
  | some ps => exact ⟨a, ps, rfl⟩
theorem toPys_cons {x : D} {r : List D} {ps : List PyData} (h : toPys (x :: r) = some ps) : ∃ p qs, toPy x = some p ∧ toPys r = some qs ∧ ps = p :: qs := by
  have e' : (match toPy x, toPys r with | some p, some ps => some (p :: ps) | _, _ => none) = some ps := h
  cases q1 : toPy x with
  | none => rw [q1] at e'; cases e'
  | some p1 =>
    cases q2 : toPys r with
    | none => rw [q1, q2] at e'; cases e'
    | some s1 =>
      rw [q1, q2] at e'
      cases e'
      exact ⟨p1, s1, rfl, rfl, rfl⟩
/-- two that have one shape with a third are alike -/
theorem shp_alike : ∀ (n : Nat) (c d e : D), shp n c d = true → shp n c e = true → okT n d = true → okT n e = true → PySem.W.alike (pyD d) (pyD e) = true
  | n, c, d, e, h1, h2, o1, o2 => by
    rcases shp_ok n c d h1 with ⟨i, j, ec, ed⟩ | ⟨l, m, k, ec, ed, en, hl⟩
    · rcases shp_ok n c e h2 with ⟨i', j', ec', ee⟩ | ⟨l', m', k', ec', ee, en', hl'⟩
      · subst ed ee
        show PySem.W.alike (.int j) (.int j') = true
        simp [PySem.W.alike]
      · rw [ec] at ec'; cases ec'
    · rcases shp_ok n c e h2 with ⟨i', j', ec', ee⟩ | ⟨l', m', k', ec', ee, en', hl'⟩
      · rw [ec] at ec'; cases ec'
      · rw [ec] at ec'
        cases ec'
        rw [en] at en'
        cases en'
        subst ed ee en
        have key : ∀ (l m m' : List D), shpL (shp k) l m = true → shpL (shp k) l m' = true → (∀ x ∈ m, okT k x = true) → (∀ x ∈ m', okT k x = true) → ∀ ps ps', toPys m = some ps → toPys m' = some ps' → PySem.W.alikeAll ps ps' = true := fun l => by
          induction l with
          | nil =>
            intro m m' h1 h2 _ _ ps ps' e1 e2
            rcases shpL_ok h1 with ⟨_, em⟩ | ⟨_, _, _, _, z, _⟩
            · subst em
              cases e1
              simp [PySem.W.alikeAll]
            · cases z
          | cons x r ih =>
            intro m m' h1 h2 o1 o2 ps ps' e1 e2
            rcases shpL_ok h1 with ⟨z, _⟩ | ⟨_, _, y, t, z, em, f1, g1⟩
            · cases z
            · cases z
              rcases shpL_ok h2 with ⟨z, _⟩ | ⟨_, _, y', t', z, em', f2, g2⟩
              · cases z
              · cases z
                subst em em'
                obtain ⟨p1, s1, q1, q2, ep⟩ := toPys_cons e1
                obtain ⟨p2, s2, q3, q4, ep'⟩ := toPys_cons e2
                subst ep ep'
                have a := shp_alike k x y y' f1 f2 (o1 y List.mem_cons_self) (o2 y' List.mem_cons_self)
                have b := ih t t' g1 g2 (fun z hz => o1 z (List.mem_cons_of_mem _ hz)) (fun z hz => o2 z (List.mem_cons_of_mem _ hz)) s1 s2 q2 q4
                unfold pyD at a
                rw [q1, q3] at a
                rw [PySem.W.alikeAll]
                rw [show PySem.W.alike p1 p2 = true from a, b]
                rfl
        obtain ⟨a1, ps, e1⟩ := okT_tup o1
        obtain ⟨a2, ps', e2⟩ := okT_tup o2
        unfold pyD
        show PySem.W.alike (((toPys m).map PyData.tuple).getD .none) (((toPys m').map PyData.tuple).getD .none) = true
        rw [e1, e2]
        show PySem.W.alike (.tuple ps) (.tuple ps') = true
        rw [PySem.W.alike]
        exact key l m m' hl hl' a1 a2 ps ps' e1 e2

/-! ### the sort -/
abbrev TD := List Int × D
def insT (p : TD) (l : List TD) : List TD := List.rec (motive := fun _ => List TD) [p] (fun q r ih => Bool.rec (motive := fun _ => List TD) (q :: ih) (p :: q :: r) (lexI p.1 q.1)) l
def srtT (l : List D) : List TD := List.rec (motive := fun _ => List TD) [] (fun d _ ih => insT (tksS d, d) ih) l
/-- one above the other -/
def chnT (l : List TD) : Bool := List.rec (motive := fun _ => Bool) true (fun p r ih => List.rec (motive := fun _ => Bool) true (fun q _ _ => Bool.rec (motive := fun _ => Bool) false ih (lexI p.1 q.1)) r) l
def sndT (l : List TD) : List D := List.rec (motive := fun _ => List D) [] (fun p _ ih => p.2 :: ih) l
def nonE : D → Bool := fun d => D.rec (motive_1 := fun _ => Bool) (motive_2 := fun _ => Unit) false false (fun _ => false) (fun _ => true) (fun _ => false) (fun _ => false) (fun l _ => List.rec (motive := fun _ => Bool) false (fun _ _ _ => true) l) (fun _ _ => false) (fun _ _ _ => false) (fun _ => false) (fun _ => false) (fun _ => false) (fun _ _ => false) (fun _ _ => false) (fun _ _ _ => false) () (fun _ _ _ _ => ()) d
def fitT (l : List D) : Bool := List.rec (motive := fun _ => Bool) true (fun c _ _ => nonE c && l.all fun d => okT 4 d && shp 4 c d) l
def srtD (l : List D) (k : List D → Bool) : Bool := grd (shortB l) (grd (fitT l) ((fun r => grd (chnT r) (k (sndT r))) (srtT l)))
theorem insT_perm (p : TD) : ∀ l, (insT p l).Perm (p :: l)
  | [] => .refl _
  | q :: r => by
    show (Bool.rec (motive := fun _ => List TD) (q :: insT p r) (p :: q :: r) (lexI p.1 q.1)).Perm _
    cases lexI p.1 q.1 with
    | true => exact .refl _
    | false => exact (List.Perm.cons q (insT_perm p r)).trans (List.Perm.swap _ _ _)
theorem srtT_perm : ∀ l : List D, (srtT l).Perm (l.map fun d => (tksS d, d))
  | [] => .refl _
  | d :: l => (insT_perm _ _).trans ((srtT_perm l).cons _)
theorem sndT_eq : ∀ l : List TD, sndT l = l.map (·.2)
  | [] => rfl
  | p :: l => by
    show p.2 :: sndT l = _
    rw [sndT_eq l]
    rfl
theorem lexI_trans {a b c : List Int} (h1 : lexI a b = true) (h2 : lexI b c = true) : lexI a c = true := by
  rw [lexI_eq] at *
  exact PyProof.Rows.lex_trans _ _ _ h1 h2
theorem chnT_pw : ∀ l : List TD, chnT l = true → l.Pairwise fun p q => lexI p.1 q.1 = true
  | [], _ => .nil
  | [p], _ => List.pairwise_singleton ..
  | p :: q :: r, h => by
    have h' : Bool.rec (motive := fun _ => Bool) false (chnT (q :: r)) (lexI p.1 q.1) = true := h
    cases e : lexI p.1 q.1 with
    | false => rw [e] at h'; exact absurd (show false = true from h') Bool.false_ne_true
    | true =>
      rw [e] at h'
      have ih := chnT_pw (q :: r) h'
      refine List.pairwise_cons.mpr ⟨fun x hx => ?_, ih⟩
      rcases List.mem_cons.mp hx with rfl | hx
      · exact e
      · exact lexI_trans e ((List.pairwise_cons.mp ih).1 x hx)
/-- a strictly rising list is the only rising one of its items -/
theorem pw_unique {α : Type} {lt : α → α → Prop} : ∀ {m n : List α}, m.Perm n → n.Pairwise lt → m.Pairwise (fun x y => ¬ lt y x) → m = n
  | [], n, p, _, _ => (List.Perm.eq_nil p.symm).symm ▸ rfl
  | a :: m, [], p, _, _ => absurd p.length_eq (by simp)
  | a :: m, b :: n, p, hn, hm => by
    have hb := List.pairwise_cons.mp hn
    have ha := List.pairwise_cons.mp hm
    by_cases e : a = b
    · subst e
      rw [pw_unique p.cons_inv hb.2 ha.2]
    · have h1 : a ∈ n := by
        rcases List.mem_cons.mp (p.mem_iff.mp (List.mem_cons_self (a := a) (l := m))) with z | z
        · exact absurd z e
        · exact z
      have h2 : b ∈ m := by
        rcases List.mem_cons.mp (p.symm.mem_iff.mp (List.mem_cons_self (a := b) (l := n))) with z | z
        · exact absurd z.symm e
        · exact z
      exact absurd (hb.1 a h1) (ha.1 b h2)
theorem fitT_ok {l : List D} (h : fitT l = true) : ∀ d ∈ l, okT 4 d = true ∧ (∀ e ∈ l, okT 4 e = true ∧ PySem.W.alike (pyD d) (pyD e) = true) := by
  cases l with
  | nil => exact fun d hd => absurd hd (by simp)
  | cons c r =>
    have h' : (nonE c && (c :: r).all fun d => okT 4 d && shp 4 c d) = true := h
    rw [Bool.and_eq_true, List.all_eq_true] at h'
    have a : ∀ d ∈ c :: r, okT 4 d = true ∧ shp 4 c d = true := fun d hd => Bool.and_eq_true _ _ ▸ h'.2 d hd
    exact fun d hd => ⟨(a d hd).1, fun e he => ⟨(a e he).1, shp_alike 4 c d e (a d hd).2 (a e he).2 (a d hd).1 (a e he).1⟩⟩
/-- ints all, tuples with items all -/
theorem fitT_kind {l : List D} (h : fitT l = true) : (∀ d ∈ l, ∃ x r, pyD d = .tuple (x :: r)) ∨ (∀ d ∈ l, ∃ i, pyD d = .int i) := by
  cases l with
  | nil => exact .inl fun d hd => absurd hd (by simp)
  | cons c r =>
    have h' : (nonE c && (c :: r).all fun d => okT 4 d && shp 4 c d) = true := h
    rw [Bool.and_eq_true, List.all_eq_true] at h'
    have a : ∀ d ∈ c :: r, okT 4 d = true ∧ shp 4 c d = true := fun d hd => Bool.and_eq_true _ _ ▸ h'.2 d hd
    cases c with
    | int i =>
      refine .inr fun d hd => ?_
      rcases shp_ok 4 _ d (a d hd).2 with ⟨_, j, _, e⟩ | ⟨_, _, _, z, _⟩
      · subst e; exact ⟨j, rfl⟩
      · cases z
    | tup l =>
      refine .inl fun d hd => ?_
      rcases shp_ok 4 _ d (a d hd).2 with ⟨_, j, z, e⟩ | ⟨l', m, k, z, e, en, hl⟩
      · cases z
      · cases z
        subst e
        cases l with
        | nil => exact absurd (show false = true from h'.1) Bool.false_ne_true
        | cons x t =>
          rcases shpL_ok hl with ⟨z, _⟩ | ⟨_, _, y, t', z, em, _, _⟩
          · cases z
          · subst em
            obtain ⟨_, ps, e1⟩ := okT_tup (n := 3) (a _ hd).1
            obtain ⟨p, qs, e2, e3, ep⟩ := toPys_cons e1
            refine ⟨p, qs, ?_⟩
            unfold pyD
            show ((toPys (y :: t')).map PyData.tuple).getD .none = _
            rw [e1, ep]
            rfl
    | _ => exact absurd (show false = true from h'.1) Bool.false_ne_true

/-! ### the rule -/
def bSrt : BG := fun us s k => one us fun d => lsI d s fun l => srtD l fun l' => k (.fl l') s
theorem rd0_of {B : Bs} {m : Md} {s : S} {H : Hp} {W : Addr → Prop} : ∀ (n : Nat) (d : D) (v : V), okT n d = true → RDw B m s H d v → RD0 B.K W H d v
  | n, d, v, h, r => by
    rcases okT_ok n d h with ⟨i, e⟩ | ⟨l, k, e, en, hl⟩
    · subst e
      exact r
    · subst e en
      obtain ⟨a, xs, ev, q, rl⟩ := r
      refine ⟨a, xs, ev, q, ?_⟩
      have key : ∀ (l : List D) (xs : List V), (∀ x ∈ l, okT k x = true) → RDws B m s H l xs → RD0s B.K W H l xs := fun l => by
        induction l with
        | nil => exact fun xs _ r => r
        | cons x t ih => exact fun xs h ⟨y, u, e, r1, r2⟩ => ⟨y, u, e, rd0_of k x y (h x List.mem_cons_self) r1, ih u (fun z hz => h z (List.mem_cons_of_mem _ hz)) r2⟩
      exact key l xs hl rl
theorem rds_zip {B : Bs} {m : Md} {s : S} {H : Hp} : ∀ {l : List D} {xs : List V}, RDws B m s H l xs → ∀ p ∈ l.zip xs, RDw B m s H p.1 p.2
  | [], _, _, p, hp => absurd hp (by simp)
  | d :: l, _, ⟨x, t, e, r1, r2⟩, p, hp => by
    subst e
    rw [List.zip_cons_cons] at hp
    rcases List.mem_cons.mp hp with z | z
    · rw [z]; exact r1
    · exact rds_zip r2 p z
theorem rds_unzip {B : Bs} {m : Md} {s : S} {H : Hp} : ∀ {ps : List (D × V)}, (∀ p ∈ ps, RDw B m s H p.1 p.2) → RDws B m s H (ps.map (·.1)) (ps.map (·.2))
  | [], _ => rfl
  | p :: ps, h => ⟨p.2, _, rfl, h p List.mem_cons_self, rds_unzip fun q hq => h q (List.mem_cons_of_mem _ hq)⟩
theorem each_zip {R : Value → D × V → Prop} {l : List D} {xs : List V} {us : List Value} (rv : Vals xs us) (hl : l.length = xs.length) (h : ∀ p ∈ l.zip xs, ∀ u, RelV p.2 u → R u p) : PySem.W.EachIs R us (l.zip xs) := by
  induction rv generalizing l with
  | nil =>
    cases l with
    | nil => exact .nil
    | cons _ _ => simp at hl
  | cons r rr ih =>
    cases l with
    | nil => simp at hl
    | cons d l =>
      rw [List.zip_cons_cons] at h ⊢
      exact .cons (h _ List.mem_cons_self _ r) (ih (by simpa using hl) fun p hp => h p (List.mem_cons_of_mem _ hp))
theorem vals_each {ps : List (D × V)} : ∀ {us : List Value}, PySem.W.EachIs (fun u p => RelV p.2 u) us ps → Vals (ps.map (·.2)) us := by
  induction ps with
  | nil => intro us h; cases h; exact .nil
  | cons p ps ih => intro us h; cases h with | cons a b => exact .cons a (ih b)
section
variable {B : Bs} {c : SI} {E : XK} {X : Cx}
theorem c_srt (C : Cok B c E X) : CallR X (.builtin "sorted") (rG B bSrt) := by
  intro pins s0 σ H vs us Q I rv ⟨m, s, ds, k, ar, r, hg, hk⟩
  obtain ⟨d, e, h⟩ := one_ok hg
  subst e
  obtain ⟨x, e, rx⟩ := rds1 r
  subst e
  obtain ⟨a, xs, l, e1, h1, rl, h2⟩ := lsI_ok ar rx h
  subst e1
  obtain ⟨c1, h3⟩ := grd_ok h2
  obtain ⟨c2, h4⟩ := grd_ok h3
  obtain ⟨c3, h5⟩ := grd_ok (show grd (chnT (srtT l)) (k (.fl (sndT (srtT l))) s) = true from h4)
  have c1 := shortB_ok c1
  have len := rds_len rl
  have fit := fitT_ok c2
  obtain ⟨u, rfl, ru⟩ := vals1 rv
  obtain rfl : u = Value.ref a := ru
  obtain ⟨its, rits, hl, hz⟩ := I.list (sq_lst (K := X.K) h1)
  have lits := rits.length
  let enc : D × V → PyData := fun b => pyD b.1
  have okm : ∀ b ∈ l.zip xs, b.1 ∈ l := fun b hb => (List.of_mem_zip hb).1
  refine PySem.W.sorted_data (β := D × V) (bs := l.zip xs) (enc := enc) (R := fun u b => RelV b.2 u) hl.isList (each_zip rits len fun p _ u h => h) (each_zip rits len fun p hp u hu => ?_) ?_ ?_ ?_ (fun b hb => ?_) fun out ho eo => ?_
  · have o := (fit p.1 (okm p hp)).1
    obtain ⟨q, e, hd, _⟩ := toPy_all 4 p.1 o
    have := reads_of I (W := fun _ => False) (rd0_of 4 p.1 p.2 o (rds_zip rl p hp) |> fun z => by rw [C.K]; exact z) hu e hd
    show ∃ as, Reads s0.heap u ((toPy p.1).getD .none) as
    rw [e]
    exact this
  · intro p hp q hq
    obtain ⟨b, hb, rfl⟩ := List.mem_map.mp hp
    obtain ⟨b', hb', rfl⟩ := List.mem_map.mp hq
    exact ((fit b.1 (okm b hb)).2 b'.1 (okm b' hb')).2
  · rcases fitT_kind c2 with z | z
    · refine .inl fun p hp => ?_
      obtain ⟨b, hb, rfl⟩ := List.mem_map.mp hp
      exact z b.1 (okm b hb)
    · refine .inr fun p hp => ?_
      obtain ⟨b, hb, rfl⟩ := List.mem_map.mp hp
      obtain ⟨i, e⟩ := z b.1 (okm b hb)
      show pyD b.1 ≠ .none ∧ ∀ xs, pyD b.1 ≠ .tuple xs
      rw [e]
      exact ⟨(by intro z; cases z), fun _ z => by cases z⟩
  · have q : (l.zip xs).length ≤ l.length := by rw [List.length_zip]; exact Nat.min_le_left _ _
    rw [sizeLine_eq]
    omega
  · obtain ⟨q, e, _, dp⟩ := toPy_all 4 b.1 (fit b.1 (okm b hb)).1
    have hu := C.room.units
    show X.A.units + 2 + ((toPy b.1).getD .none).depth < cLine
    rw [e]
    show X.A.units + 2 + q.depth < cLine
    omega
  · -- the sorted pairs
    let ps := (l.zip xs).mergeSort (PySem.W.dataLe false enc)
    have perm : ps.Perm (l.zip xs) := List.mergeSort_perm _ _
    have pw : ps.Pairwise (fun a b => PySem.W.dataLe false enc a b = true) := PySem.W.sort_pairwise (PySem.W.sortLe_total _ _ _) _
    have el : (l.zip xs).map (·.1) = l := by rw [List.map_fst_zip (by omega)]
    have e2 : ps.map (·.1) = sndT (srtT l) := by
      rw [sndT_eq]
      refine pw_unique (lt := fun x y => lexI (tksS x) (tksS y) = true) ?_ ?_ ?_
      · refine (perm.map (·.1)).trans ?_
        rw [el]
        have z := (srtT_perm l).map (·.2)
        rw [List.map_map] at z
        have e : (fun d : D => d) = ((fun p : TD => p.2) ∘ fun d => (tksS d, d)) := rfl
        rw [← e, List.map_id'] at z
        exact z.symm
      · have z := chnT_pw _ c3
        have key : ∀ p ∈ srtT l, p.1 = tksS p.2 := fun p hp => by
          obtain ⟨d, _, rfl⟩ := List.mem_map.mp ((srtT_perm l).mem_iff.mp hp)
          rfl
        rw [List.pairwise_map]
        exact z.imp_of_mem fun {p q} hp hq h => by rw [← key p hp, ← key q hq]; exact h
      · rw [List.pairwise_map]
        refine pw.imp_of_mem fun {p q} hp hq h => ?_
        have mp := okm p (perm.mem_iff.mp hp)
        have mq := okm q (perm.mem_iff.mp hq)
        rw [lexI_eq, tksS_eq (fit _ mp).1, tksS_eq (fit _ mq).1]
        rw [PySem.W.dataLe_eq] at h
        have h' : (!PySem.W.dataLt (pyD q.1) (pyD p.1)) = true := h
        intro z
        have z' : PySem.W.dataLt (pyD q.1) (pyD p.1) = true := z
        rw [z'] at h'
        cases h'
    have rp : RDws B m s H (ps.map (·.1)) (ps.map (·.2)) := rds_unzip fun p hp => rds_zip rl p (perm.mem_iff.mp hp)
    rw [e2] at rp
    have vo : Vals (ps.map (·.2)) out := vals_each eo
    obtain ⟨n, hn⟩ := sortedAll_at s0.heap its out.toArray
    have hd : s0.heap.objs.size ≤ s0.heap.objs.size + 1 := Nat.le_succ _
    refine ⟨.ref (s0.heap.objs.size + 1), upd H (s0.heap.objs.size + 1) (.lst (ps.map (·.2))), I.laid (t' := s0.toks) (fun _ _ => sortedAll_old) hd ⟨?_, out, n, vo, hn⟩, rfl, fin_fl hk ar rp h5 _ (I.hok.fresh hd)⟩
    rw [List.length_map, perm.length_eq, List.length_zip, sizeLine_eq]
    omega
end
end Ev
end
end

/-! part EvBC -/
section
set_option Elab.async false
set_option linter.all false
set_option maxRecDepth 100000
set_option maxHeartbeats 4000000
/-! EvBC: len(set(t)), t a tuple of tuples of ints. -/
noncomputable section
namespace Ev
open PySem PySem.Spec PyProof.Rows L2

abbrev newSet (w : World) : Obj := { cls := .type "set", dict := none, data := .set #[] 0 (.fresh 0 0 (!w.params.followText "set-order")) }
/-- a set made of a tuple that stands -/
theorem set_of_tup {P : Program} {w : World} {A : Around} {E : Value → Shared → Prop} {s : Shared} {tp : Addr} {its : Array Value} (ks : List (Addr × List Int)) {Q : Value → Shared → Prop} (hA : A.handled = none) (ht : s.heap.IsTuple tp its)
    (hi : its.toList = ks.map fun p => Value.ref p.1) (hk : ∀ p ∈ ks, IsT P w s.heap p.2 p.1) (few : ks.length < 64) (hu : A.units + 3 < cLine)
    (fin : ∀ (h' : Heap) (tk : Nat) L es ep t, SetTR P w h' s.heap.objs.size L es ep t → Got ks ks.length L → (∀ b o, s.heap.get? b = some o → h'.get? b = some o) → Q (.ref s.heap.objs.size) { s with heap := h', toks := tk }) :
    wpAny (model P w) A (call (.type "set") [.ref tp]) Q E s := by
  have size_its : its.size = ks.length := by rw [← Array.length_toList, hi, List.length_map]
  obtain ⟨c, tl, hmro⟩ := F.called_set.mro
  have hmade := F.called_set.made
  have hsub := F.called_set.sub
  refine wpAny_call (codeAny_of_tree ?_)
  show wpAny _ _ (callAny (.type "set") _) _ _ _
  refine wpAny_pure ⟨Code.quiet_builtin _ (by decide +kernel), codeAny_builtin F.entry_type_call ?_⟩
  rw [Around.under_plain (weight_type_call_type "set" [.ref tp] []) rfl]
  have f1 := F.called_set.notType
  have f2 := F.called_set.canCreate
  have f3 := F.typeCall_set_1 (.ref tp)
  repeat (any_goals (first | assumption | wp_step))
  refine codeAny_mono (code_set_led1 (.ref tp) (E := E) (Q₁ := fun obj s₁ => obj = .ref s.heap.objs.size ∧ s₁ = { s with heap := s.heap.push (newSet w) }) ⟨rfl, rfl⟩) fun r s₁ hr => ?_
  cases r with
  | error e => exact hr
  | ok fl =>
    cases fl with
    | ret obj =>
      obtain ⟨rfl, rfl⟩ := hr
      have hS : (s.heap.push (newSet w)).get? s.heap.objs.size = some (newSet w) := Heap.get?_push_size _ rfl
      have hT : Shared.TypeIs { s with heap := s.heap.push (newSet w) } (.ref s.heap.objs.size) "set" := ⟨_, hS, rfl⟩
      have g1 := F.called_set.init.lookup
      have g2 := F.called_set.init.bind (.ref s.heap.objs.size)
      repeat (any_goals (first | assumption | wp_step))
      refine codeAny_mono (codeAny_call_builtin (R := wants (fun r s₂ => r = .none ∧ ∃ h' tk L es ep t, s₂ = { s with heap := h', toks := tk } ∧ SetTR P w h' s.heap.objs.size L es ep t ∧ Got ks ks.length L ∧
          (∀ b o, s.heap.get? b = some o → h'.get? b = some o)) E) F.called_set.init.plain F.entry_set_init (check_set_init_1 hT ?_)) fun r₂ s₂ hr₂ => ?_
      · obtain ⟨ob, hob, hcl, nl, hdl⟩ := ht
        obtain ⟨ocls, odict, odata, oslots⟩ := ob
        simp only at hcl hdl
        subst hcl; subst hdl
        have hob' : (s.heap.push (newSet w)).get? tp = some { cls := .type "tuple", dict := odict, data := .seq its nl, slots := oslots } := Heap.get?_push_of_some _ hob
        have q1 := F.sub_tuple_set
        have q2 := F.sub_tuple_frozenset
        have q3 : (Value.type "tuple" == Value.type "dict") = false := by decide
        have ht1 : (s.heap.push (newSet w)).IsTuple tp its := ⟨_, hob', rfl, nl, rfl⟩
        unfold Builtin.«set.__init__» noKeywords Builtin.Frozenset.updateFrom
        generalize hPI : pyIter = PI
        wp_walk
        subst hPI
        refine wpAny_pyIter_tuple ht1 ?_
        refine wpAny_bind (wpAny_runValue ?_)
        have lt : tp < s.heap.objs.size := Heap.lt_size hob
        have hA3 : A.in1.in1.in1.handled = none := by simp [hA]
        have ne : tp ≠ (s.heap.push (newSet w)).objs.size := by
          rw [Heap.size_push]; exact Nat.ne_of_lt (Nat.lt_succ_of_lt lt)
        have notin : s.heap.objs.size ∉ [(s.heap.push (newSet w)).objs.size, tp] := fun z => by
          rw [Heap.size_push] at z
          rcases List.mem_cons.mp z with z | z
          · exact absurd z (Nat.ne_of_lt (Nat.lt_succ_self _))
          · exact absurd (List.mem_singleton.mp z) (Nat.ne_of_gt lt)
        have item : ∀ (i : Nat) (v : Value), its[i]? = some v → ∃ p, ks[i]? = some p ∧ v = .ref p.1 := fun i v hv => by
          have z : its.toList[i]? = some v := by rw [Array.getElem?_toList]; exact hv
          rw [hi, List.getElem?_map] at z
          cases e : ks[i]? with
          | none => rw [e] at z; cases z
          | some p => rw [e] at z; exact ⟨p, rfl, (Option.some.inj z).symm⟩
        have none_ : ∀ b, s.heap.objs.size ≤ b → s.heap.get? b = none := fun b hb => by
          cases e : s.heap.get? b with
          | none => rfl
          | some o => exact absurd (Heap.lt_size e) (Nat.not_lt.mpr hb)
        refine set_update_tups ((Walks.tuple hA3 _ tp ne its).toS) s.heap.objs.size notin ks size_its few item s.heap hk (none_ _ (Nat.le_refl _)) (fun b hb => none_ b (by
            rw [List.mem_singleton.mp hb, Heap.size_push]
            exact Nat.le_succ _)) hu (its.size - 0) 0 _ (by omega) (Nat.zero_le _) ⟨⟨_, Heap.get?_push_size _ rfl, rfl, rfl⟩, (ht1.push _)⟩ (fun b o e => Heap.get?_push_of_some _ (Heap.get?_push_of_some _ e)) ?goal1 ?goal2
        case goal1 =>
          have hget : ((s.heap.push (newSet w)).push { cls := .type "tuple_iterator", data := .fields #[.ref tp, .int 0 0] }).get? s.heap.objs.size = some (newSet w) := Heap.get?_push_of_some _ hS
          exact ⟨[], #[], 0, _, setTR_fresh hget, Got.zero ks⟩
        case goal2 =>
          intro s' L es ep t hm hS' g' hkp
          obtain ⟨h', ge, dr, tk', os'⟩ := s'
          obtain rfl : ge = s.gens := hm.gens
          obtain rfl : dr = s.drawn := hm.drawn
          obtain rfl : os' = s.os := hm.os
          show wpAny _ _ _ _ _ _
          refine wpAny_pure ?_
          show wpAny _ _ (ret Value.none) _ _ _
          rw [size_its] at g'
          exact wpAny_pure ⟨rfl, h', tk', L, es, ep, t, rfl, hS', g', hkp⟩
      · cases r₂ with
        | error e => exact hr₂
        | ok fl₂ =>
          cases fl₂ with
          | ret r =>
            obtain ⟨rfl, h', tk, L, es, ep, t, rfl, hS', g', hk'⟩ := hr₂
            repeat (any_goals (first | assumption | wp_step))
            exact fin _ _ _ _ _ _ hS' g' hk'
          | _ => exact False.elim hr₂
    | _ => exact False.elim hr
/-- len(set(x)) -/
def tLenSetT (K : PySem.W.Frag) (ta : TE) : TE := fun σ H Q => ta σ H fun x H1 => ∃ (l : Addr) (ks : List (Addr × List Int)), x = .ref l ∧ SqT K H1 l (ks.map fun p => V.ref p.1) ∧ (∀ p ∈ ks, SqT K H1 p.1 (p.2.map V.int)) ∧ ks.length < 64 ∧
  ∀ L : List (Addr × List Int), (L.map (·.2)).Nodup → (∀ p ∈ L, p ∈ ks) → (∀ p ∈ ks, p.2 ∈ L.map (·.2)) → Q (.int L.length) H1
theorem pe_lenSetT {X : Cx} {a : Expr} {ta : TE} {p p2 q pos : Pos} (hg : Gl X "len") (hm : X.mg "len" = none) (hg2 : Gl X "set") (hm2 : X.mg "set" = none) (ha : PE X a ta) (hc : X.calm = true) (hu : X.A.units + 3 < cLine)
    (na : starEach [a] X.env = (false, eval a X.env) :: starEach [] X.env) : PE X (.Call (.Name "len" p) [.Call (.Name "set" p2) [a] [] q] [] pos) (tLenSetT X.K ta) := by
  refine ⟨fun pins s σ H Q I h => ?_⟩
  refine Call_ (ld_blt I hg hm boot_len (PyProof.Rows.callWith_builtin1 (PyProof.Rows.args_cons ?_ rfl) rfl rfl))
  refine Call_ (ld_blt I hg2 hm2 boot_set (PyProof.Rows.callWith_type1 (PyProof.Rows.args_cons (thn (ha.run pins s σ H _ I h) fun v s1 ⟨x, H1, I1, r1, q1⟩ => PyProof.Rows.args_nil ?_) na) na rfl))
  obtain ⟨l, ks, rfl, hl, hk, few, q1⟩ := q1
  cases r1
  obtain ⟨its, r, pl, hz⟩ := I1.tuple hl
  refine set_of_tup (P := X.prog) (w := X.w) ks (I1.ok.hd hc) (show s1.heap.IsTuple l its.toArray from pl) (by simpa using refs_of_vals r) (fun p hp => I1.isT (hk p hp)) few hu fun h' tk L es ep t R g k => PyProof.Rows.args_nil ?_
  obtain ⟨o, ho, hex, hd⟩ := R.ob
  have hs := SetTR.size (s := { s1 with heap := h', toks := tk }) R
  have I2 : Inv X pins σ H1 { s1 with heap := h', toks := tk } := I1.kept k
  refine call_len_set ho hex hd (SetTR.fits (s := { s1 with heap := h', toks := tk }) R) (by rw [hs]; have := R.few; omega) ⟨.int L.length, H1, I2.tok _, ⟨_, by rw [hs]⟩, q1 L R.nd (fun p hp => List.mem_of_mem_take (g.sub p hp)) fun p hp => g.all p (by rw [List.take_length]; exact hp)⟩

/-! ### in the evaluator -/
/-- a tuple, its object known or not -/
def asTM (d : D) (k : List D → Bool) : Bool :=
  D.rec (motive_1 := fun _ => Bool) (motive_2 := fun _ => Unit) false false (fun _ => false) (fun _ => false) (fun _ => false) (fun _ => false) (fun l _ => k l) (fun _ _ => false) (fun _ _ _ => false) (fun _ => false) (fun _ => false) (fun _ => false) (fun _ _ => false) (fun l _ => k l) (fun _ _ _ => false) () (fun _ _ _ _ => ()) d
theorem asTM_ok {B : Bs} {m : Md} {s : S} {H : Hp} {d : D} {v : V} {k : List D → Bool} (r : RDw B m s H d v) (h : asTM d k = true) : ∃ l a xs, v = .ref a ∧ SqT B.K H a xs ∧ RDws B m s H l xs ∧ k l = true := by
  cases d with
  | tup l =>
    obtain ⟨a, xs, ev, q, rl⟩ := r
    exact ⟨l, a, xs, ev, q, rl, h⟩
  | tm l =>
    obtain ⟨a, xs, o, ev, q, _, rl⟩ := r
    exact ⟨l, a, xs, ev, .inl (.inr ⟨o, q⟩), rl, h⟩
  | _ => exact absurd h Bool.false_ne_true
def intsK (d : D) (k : List Int → Bool) : Bool := asTM d fun l => List.rec (motive := fun _ => (List Int → Bool) → Bool) (fun k => k []) (fun x _ ih k => asI x fun i => ih fun r => k (i :: r)) l k
def keysK (l : List D) (k : List (List Int) → Bool) : Bool := List.rec (motive := fun _ => (List (List Int) → Bool) → Bool) (fun k => k []) (fun x _ ih k => intsK x fun i => ih fun r => k (i :: r)) l k
def eqLI (a b : List Int) : Bool := Bool.rec (motive := fun _ => Bool) (Bool.rec (motive := fun _ => Bool) true false (lexI b a)) false (lexI a b)
def memLI (a : List Int) (l : List (List Int)) : Bool := List.rec (motive := fun _ => Bool) false (fun b _ ih => Bool.rec (motive := fun _ => Bool) ih true (eqLI a b)) l
def nubLI (l : List (List Int)) : List (List Int) := List.rec (motive := fun _ => List (List Int)) [] (fun a _ ih => Bool.rec (motive := fun _ => List (List Int)) (a :: ih) ih (memLI a ih)) l
theorem eqLI_iff {a b : List Int} : eqLI a b = true ↔ a = b := by
  have tot : lexI a b = false → lexI b a = false → a = b := fun h1 h2 => by
    rw [lexI_eq] at h1 h2
    have z := PyProof.Rows.lex_total _ _ h1 h2
    exact (List.map_inj_right (f := (Sum.inl : Int → Int ⊕ List Nat)) fun x y h => Sum.inl.inj h).mp z
  constructor
  · intro h
    cases e1 : lexI a b with
    | true => unfold eqLI at h; rw [e1] at h; cases h
    | false =>
      cases e2 : lexI b a with
      | true => unfold eqLI at h; rw [e1, e2] at h; cases h
      | false => exact tot e1 e2
  · rintro rfl
    have z : lexI a a = false := by
      rw [lexI_eq]
      exact PyProof.Rows.lex_irrefl _
    unfold eqLI
    rw [z]
theorem memLI_iff {a : List Int} : ∀ {l : List (List Int)}, memLI a l = true ↔ a ∈ l
  | [] => ⟨fun h => absurd (show false = true from h) Bool.false_ne_true, fun h => by simp at h⟩
  | b :: l => by
    have u : memLI a (b :: l) = Bool.rec (motive := fun _ => Bool) (memLI a l) true (eqLI a b) := rfl
    rw [u]
    cases e : eqLI a b with
    | true => exact ⟨fun _ => by rw [eqLI_iff.mp e]; exact List.mem_cons_self, fun _ => rfl⟩
    | false =>
      have ne : a ≠ b := fun z => by rw [eqLI_iff.mpr z] at e; cases e
      exact ⟨fun h => List.mem_cons_of_mem _ (memLI_iff.mp h), fun h => memLI_iff.mpr ((List.mem_cons.mp h).resolve_left ne)⟩
theorem nubLI_ok : ∀ l : List (List Int), (nubLI l).Nodup ∧ ∀ x, x ∈ nubLI l ↔ x ∈ l
  | [] => ⟨List.nodup_nil, fun x => Iff.rfl⟩
  | a :: l => by
    obtain ⟨n, m⟩ := nubLI_ok l
    have u : nubLI (a :: l) = Bool.rec (motive := fun _ => List (List Int)) (a :: nubLI l) (nubLI l) (memLI a (nubLI l)) := rfl
    rw [u]
    cases e : memLI a (nubLI l) with
    | true =>
      have ha := (m a).mp (memLI_iff.mp e)
      exact ⟨n, fun x => ⟨fun h => List.mem_cons_of_mem _ ((m x).mp h), fun h => (List.mem_cons.mp h).elim (fun z => (m x).mpr (by rw [z]; exact ha)) fun z => (m x).mpr z⟩⟩
    | false =>
      have ha : a ∉ nubLI l := fun z => by rw [memLI_iff.mpr z] at e; cases e
      exact ⟨List.nodup_cons.mpr ⟨ha, n⟩, fun x => by show x ∈ a :: nubLI l ↔ _; rw [List.mem_cons, List.mem_cons, m x]⟩
def xLset (a : XE) : XE := fun e s k x => a e s (fun d s1 => asTM d fun l => keysK l fun ks => grd (Nat.blt ks.length 64) (frN (nubLI ks).length fun n => k (.int (.ofNat n)) s1)) x
section
variable {B : Bs} {m : Md} {s : S} {H : Hp}
theorem intsK_ok {d : D} {v : V} {k : List Int → Bool} (r : RDw B m s H d v) (h : intsK d k = true) : ∃ a is, v = .ref a ∧ SqT B.K H a (is.map V.int) ∧ k is = true := by
  obtain ⟨l, a, xs, ev, q, rl, h1⟩ := asTM_ok r h
  have key : ∀ (l : List D) (xs : List V) (k : List Int → Bool), RDws B m s H l xs → List.rec (motive := fun _ => (List Int → Bool) → Bool) (fun k => k []) (fun x _ ih k => asI x fun i => ih fun r => k (i :: r)) l k = true → ∃ is : List Int, xs = is.map V.int ∧ k is = true := fun l => by
    induction l with
    | nil =>
      intro xs k r h
      have e : xs = [] := r
      exact ⟨[], e, h⟩
    | cons x t ih =>
      intro xs k r h
      obtain ⟨y, u, e, r1, r2⟩ := r
      obtain ⟨i, ei, h2⟩ := asI_ok (show asI x _ = true from h)
      subst ei
      cases r1
      obtain ⟨is, e2, h3⟩ := ih u _ r2 h2
      exact ⟨i :: is, by rw [e, e2]; rfl, h3⟩
  obtain ⟨is, e, h2⟩ := key l xs k rl h1
  rw [e] at q
  exact ⟨a, is, ev, q, h2⟩
theorem keysK_ok : ∀ {l : List D} {xs : List V} {k : List (List Int) → Bool}, RDws B m s H l xs → keysK l k = true → ∃ ks : List (Addr × List Int), xs = ks.map (fun p => V.ref p.1) ∧ (∀ p ∈ ks, SqT B.K H p.1 (p.2.map V.int)) ∧ k (ks.map (·.2)) = true
  | [], xs, k, r, h => by
    have e : xs = [] := r
    exact ⟨[], e, fun p hp => absurd hp (by simp), h⟩
  | x :: l, xs, k, ⟨y, u, e, r1, r2⟩, h => by
    obtain ⟨a, is, ev, q, h2⟩ := intsK_ok r1 (show intsK x (fun i => keysK l fun r => k (i :: r)) = true from h)
    obtain ⟨ks, e2, hk, h3⟩ := keysK_ok r2 h2
    subst e ev e2
    refine ⟨(a, is) :: ks, rfl, fun p hp => ?_, h3⟩
    rcases List.mem_cons.mp hp with z | z
    · rw [z]; exact q
    · exact hk p z
end
theorem x_lset {B : Bs} {c : SI} {E : XK} {X : Cx} {a : Expr} {p p2 q pos : Pos} {xa : XE} (C : Cok B c E X) (hg : c.sc.names.lookup ("len" : Str) = some .globalImplicit) (hm : B.mg ("len" : Str) = none) (hg2 : c.sc.names.lookup ("set" : Str) = some .globalImplicit) (hm2 : B.mg ("set" : Str) = none) (ha : PE X a (TX B E xa))
    (na : starEach [a] X.env = (false, eval a X.env) :: starEach [] X.env) : PE X (.Call (.Name "len" p) [.Call (.Name "set" p2) [a] [] q] [] pos) (TX B E (xLset xa)) :=
  wkE (pe_lenSetT (C.gl hg) (by rw [C.mg]; exact hm) (C.gl hg2) (by rw [C.mg]; exact hm2) ha C.calm (by have := C.room.units; omega) na) fun σ H Q ⟨m, s, env, k, kx, ar, er, hx, hk, hkx⟩ => ⟨m, s, env, _, kx, ar, er, hx, fun d m1 s1 H1 v p1 a1 r1 h => by
    obtain ⟨l, a, xs, ev, q, rl, h1⟩ := asTM_ok r1 h
    obtain ⟨ks, e2, hks, h2⟩ := keysK_ok rl h1
    obtain ⟨c1, h3⟩ := grd_ok h2
    rw [frN_eq] at h3
    subst e2
    rw [Nat.blt_eq, List.length_map] at c1
    refine ⟨a, ks, ev, by rw [C.K]; exact q, fun p hp => by rw [C.K]; exact hks p hp, c1, fun L nd sub all => ?_⟩
    obtain ⟨n1, n2⟩ := nubLI_ok (ks.map (·.2))
    have len : L.length = (nubLI (ks.map (·.2))).length := by
      rw [← List.length_map (as := L) (fun p => p.2)]
      refine (List.Perm.length_eq ((List.perm_ext_iff_of_nodup nd n1).mpr fun x => ?_))
      rw [n2]
      constructor
      · intro h
        obtain ⟨p, hp, e⟩ := List.mem_map.mp h
        exact List.mem_map.mpr ⟨p, sub p hp, e⟩
      · intro h
        obtain ⟨p, hp, e⟩ := List.mem_map.mp h
        rw [← e]
        exact all p hp
    rw [len]
    exact hk (.int _) m1 s1 H1 _ p1 a1 rfl h3, hkx⟩
end Ev
end
end

/-! part EvBD -/
section
set_option Elab.async false
set_option linter.all false
set_option maxRecDepth 100000
set_option maxHeartbeats 4000000
/-! EvBD: x = zip(a, b), walked behind it. -/
noncomputable section
namespace Ev
open PySem PySem.Spec PyProof.Rows L2

/-- the heap with the objects at n .. n + k - 1 as they stand in h0 -/
def extH (H : Hp) (n k : Nat) (h0 : Heap) : Hp := fun b => if n ≤ b ∧ b < n + k then (h0.get? b).map (fun o => HO.ext fun h => h.get? b = some o) else H b
theorem extH_out {H : Hp} {n k b : Nat} {h0 : Heap} (h : ¬ (n ≤ b ∧ b < n + k)) : extH H n k h0 b = H b := if_neg h
theorem extH_in {H : Hp} {n k b : Nat} {h0 : Heap} {u : HO} (h : n ≤ b ∧ b < n + k) (e : extH H n k h0 b = some u) : ∃ o, h0.get? b = some o ∧ u = .ext fun h => h.get? b = some o := by
  unfold extH at e
  rw [if_pos h] at e
  cases q : h0.get? b with
  | none => rw [q] at e; cases e
  | some o => rw [q] at e; exact ⟨o, rfl, (Option.some.inj e).symm⟩
section
variable {X : Cx} {pins : List (Addr × Obj)} {σ : L2.St} {H : Hp} {s : Shared} {h' : Heap}
theorem ext_add {k : Nat} (I : Inv X pins σ H s) (kp : ∀ b o, s.heap.get? b = some o → h'.get? b = some o) : Inv X pins σ (extH H s.heap.objs.size k h') { s with heap := h' } := by
  have old : ∀ b o, s.heap.get? b = some o → extH H s.heap.objs.size k h' b = H b := fun b o e => extH_out fun z => absurd (Heap.lt_size e) (Nat.not_lt.mpr z.1)
  have oldH : ∀ b u, H b = some u → extH H s.heap.objs.size k h' b = some u := fun b u e => by
    rw [extH_out fun z => absurd (I.hok.lt e) (Nat.not_lt.mpr z.1)]
    exact e
  refine I.un (t' := s.toks) ⟨fun b u q _ _ _ => kp b u q, fun b u q _ _ _ => ⟨u.slots, kp b u q⟩, fun b u q n _ => by rw [old b u q]; exact n, fun b u q _ => ⟨u, kp b u q⟩, fun b xs q => oldH _ _ q, fun b u xs q => oldH _ _ q, fun b ps q => ⟨#[], by rw [oldH _ _ q]; simp⟩⟩ fun b u e => ?_
  by_cases z : s.heap.objs.size ≤ b ∧ b < s.heap.objs.size + k
  · obtain ⟨o, q, rfl⟩ := extH_in z e
    exact ⟨q, ⟨o, q⟩, fun h1 h2 a c => c o a⟩
  · rw [extH_out z] at e
    exact (I.hok b u e).stay (fun c v _ q => kp c v q) (fun c q => oldH _ _ q) fun c xs q => oldH _ _ q
theorem ext_drop {n k : Nat} {h0 : Heap} (I : Inv X pins σ (extH H n k h0) s) (hn : ∀ b : Nat, n ≤ b → b < n + k → H b = none) : Inv X pins σ H s := by
  have back : ∀ b u, H b = some u → extH H n k h0 b = some u := fun b u e => by
    rw [extH_out fun z => by rw [hn b z.1 z.2] at e; cases e]
    exact e
  have to : ∀ b u, extH H n k h0 b = some u → (∀ φ, u ≠ .ext φ) → H b = some u := fun b u e ne => by
    by_cases z : n ≤ b ∧ b < n + k
    · obtain ⟨o, _, rfl⟩ := extH_in z e
      exact absurd rfl (ne _)
    · rw [extH_out z] at e
      exact e
  refine I.un (h' := s.heap) (t' := s.toks) ⟨fun b u q _ _ _ => q, fun b u q _ _ _ => ⟨u.slots, q⟩, fun b u q e _ => ?_, fun b u q _ => ⟨u, q⟩, fun b xs q => to _ _ q (fun φ z => by cases z), fun b u xs q => to _ _ q (fun φ z => by cases z), fun b ps q => ⟨#[], by rw [to _ _ q (fun φ z => by cases z)]; simp⟩⟩ fun b u e => ?_
  · by_cases z : n ≤ b ∧ b < n + k
    · exact hn b z.1 z.2
    · rw [extH_out z] at e
      exact e
  · exact (I.hok b u (back b u e)).stay (fun c v _ q => q) (fun c q => to _ _ q (fun φ z => by cases z)) fun c xs q => to _ _ q (fun φ z => by cases z)
end
/-- a zip object that was just made, its parts at n .. n + 4 -/
structure ZS (X : Cx) (t1 t2 : Bool) (a b n : Nat) (h : Heap) : Prop where
  z : IsZip h (n + 4) (n + 2) (n + 3) .none
  p : IsPair h (n + 2) (.ref n) (.ref (n + 1))
  q : IsPair h (n + 3) .none .none
  i1 : ItK t1 h n a 0
  i2 : ItK t2 h (n + 1) b 0
  la : a < n
  lb : b < n
  sz : X.s_0.heap.objs.size ≤ n
  fs : ∀ c : Nat, n ≤ c → c ∉ X.fs
def rZipV (X : Cx) : List V → Hp → VK → Prop := fun vs H1 Q => ∃ t1 t2 a b xs ys, vs = [.ref a, .ref b] ∧ SqV t1 X.K H1 a xs ∧ SqV t2 X.K H1 b ys ∧ ∀ (n : Nat) (h0 : Heap), (∀ c : Nat, n ≤ c → H1 c = none) → ZS X t1 t2 a b n h0 → Q (.ref (n + 4)) (extH H1 n 5 h0)
theorem c_zipV {X : Cx} : CallR X (.type "zip") (rZipV X) := by
  intro pins s σ H vs us Q I rv ⟨t1, t2, a, b, xs, ys, ex, hx, hy, q⟩
  subst ex
  obtain ⟨u1, u2, rfl, r1, r2⟩ := vals2 rv
  obtain rfl : u1 = Value.ref a := r1
  obtain rfl : u2 = Value.ref b := r2
  obtain ⟨its, _, p1⟩ := inv_sq I hx
  obtain ⟨its2, _, p2⟩ := inv_sq I hy
  have la : a < s.heap.objs.size := p1.lt
  have lb : b < s.heap.objs.size := p2.lt
  refine zp_call p1 p2 fun h' hz hTI hTO h1 h2 hsz hk => ?_
  exact ⟨.ref (s.heap.objs.size + 4), _, ext_add (k := 5) I hk, rfl, q _ h' (fun c hc => I.hok.fresh hc) ⟨hz, hTI, hTO, h1, h2, la, lb, I.sz, fun c hc => I.nofs hc⟩⟩
/-- for .. in x, x such an object -/
def iZN (X : Cx) (i : Nat) : TI := fun σ H R => ∃ (n : Nat) (h0 : Heap) (H1 : Hp) (t1 t2 : Bool) (a b : Addr), σ[i]? = some (some (V.ref (n + 4))) ∧ H = extH H1 n 5 h0 ∧ (∀ c : Nat, n ≤ c → H1 c = none) ∧ ZS X t1 t2 a b n h0 ∧ R (Itq t1 t2 X.K a b) H1
theorem pi_zn {X : Cx} {i : Nat} {x : Str} {elts : List Expr} {kk : Nat} {tpos pos : Pos} (hv : PE X (.Name x pos) (tVar i)) : PI X (.Tuple elts kk tpos) (.Name x pos) (iZN X i) := by
  refine ⟨fun pins s σ H R I ⟨n, h0, H1, t1, t2, a, b, hs, eH, hn, Z, hR⟩ => ?_⟩
  refine thn (hv.run pins s σ H (fun v H2 => v = .ref (n + 4) ∧ H2 = H) I ⟨_, hs, rfl, rfl⟩) fun v s1 ⟨y, H2, I1, r1, ev, eH2⟩ => ?_
  subst ev eH2
  obtain rfl : v = Value.ref (n + 4) := r1
  rw [eH] at I1
  have at_ : ∀ (c : Nat) (o : Obj), n ≤ c → c < n + 5 → h0.get? c = some o → s1.heap.get? c = some o := fun c o z1 z2 e => by
    have q : extH H1 n 5 h0 c = some (.ext fun h => h.get? c = some o) := by
      unfold extH
      rw [if_pos ⟨z1, z2⟩, e]
      rfl
    exact (I1.hok c _ q).1
  have hz : IsZip s1.heap (n + 4) (n + 2) (n + 3) .none := at_ _ _ (by omega) (by omega) Z.z
  have I2 : Inv X pins σ H1 s1 := ext_drop I1 fun c z1 _ => hn c z1
  refine wpAny_pyIter_zip hz ⟨n + 4, [n + 4, n + 2, n + 3, n, n + 1], _, _, H1, rfl, I2, turn_zp (PySem.W.ktu_apart n a b Z.la Z.lb), ⟨hz, at_ _ _ (by omega) (by omega) Z.p, ⟨_, _, at_ _ _ (by omega) (by omega) Z.q⟩, Z.i1.at_ fun o e => at_ _ _ (by omega) (by omega) e, Z.i2.at_ fun o e => at_ _ _ (by omega) (by omega) e⟩, fun (c : Nat) hc => ?_, hR⟩
  have e' : c = n + 4 ∨ c = n + 2 ∨ c = n + 3 ∨ c = n ∨ c = n + 1 := by simpa using hc
  have lo : n ≤ c := by rcases e' with z | z | z | z | z <;> omega
  have hi : c < n + 5 := by rcases e' with z | z | z | z | z <;> omega
  obtain ⟨o, eo⟩ : ∃ o, h0.get? c = some o := by
    obtain ⟨o1, e1, _⟩ := Z.i1.ob
    obtain ⟨o2, e2, _⟩ := Z.i2.ob
    rcases e' with z | z | z | z | z
    · rw [z]; exact ⟨_, Z.z⟩
    · rw [z]; exact ⟨_, Z.p⟩
    · rw [z]; exact ⟨_, Z.q⟩
    · rw [z]; exact ⟨_, e1⟩
    · rw [z]; exact ⟨_, e2⟩
  have some_ : extH H1 n 5 h0 c ≠ none := by
    unfold extH
    rw [if_pos ⟨lo, hi⟩, eo]
    exact fun z => by cases z
  refine ⟨hn c lo, fun z => some_ (by rw [z]; exact I1.free), Z.fs c lo, .inr (Nat.le_trans Z.sz lo), fun x c' e z => some_ (by rw [← z]; exact I1.freeC x c' e), fun p hp z => some_ (by rw [← z]; exact (I1.pin p hp).2.1)⟩

/-! ### in the evaluator -/
def lcK (g : XG) (t el : XE) (own : List Nat) (tr : Bool) (e : List D) (k : KD) : KI := fun l s1 rel => grd (shortB l) (S.rec (motive := fun _ => Bool) (fun nl no os => frN no fun no =>
  lpC g t el no tr (wipeD e own) (fun acc s2 => shw no (revD acc) s2 fun s3 => rel s3 fun s4 => k (.ref no) s4) l [] (.mk nl (Nat.succ no) ((no, .hid) :: os))) s1)
def sZr (i : Nat) (a b : XE) (g : XG) (t el : XE) (own : List Nat) (tr : Bool) : XS := fun e s _ c => grd (Nat.blt i (lenD e)) (iZp a b e s (lcK g t el own tr (put e .unb i) c.kr) c.kx)
theorem er_unb {B : Bs} {m : Md} {s : S} {H : Hp} {env : List D} {σ : L2.St} (er : ER B m s H env σ) (i : Nat) (v : Option V) : ER B m s H (put env .unb i) (σ.set i v) := by
  refine ⟨by rw [put_eq, List.length_set, List.length_set]; exact er.len, fun j d h => ?_⟩
  rw [put_eq, List.getElem?_set] at h
  by_cases e : i = j
  · rw [if_pos e] at h
    split at h
    · cases h; exact .inl rfl
    · cases h
  · rw [if_neg e] at h
    rw [List.getElem?_set_ne e]
    exact er.at_ j d h
section
variable {B : Bs} {c : SI} {E : XK} {X : Cx} {ea eb elt tg : Expr} {pos : Pos} {scope : Scope} {own : List (Str × Nat)} {xa xb : XE} {g : XG} {t el : XE} {tr : Bool}
theorem ss_zr {w : List Nat} {ifs elts : List Expr} {i : Nat} {x : Str} {px pz pc sp px2 rp tp : Pos} {kk : Nat} (C : Cok B c E X) (hN : c.N.Nodup) (hi : c.N[i]? = some x) (hxl : c.sc.names.lookup x = some .local) (hd : notD x = true)
    (hz : c.sc.names.lookup ("zip" : Str) = some .globalImplicit) (hzm : B.mg ("zip" : Str) = none) (ha : PE X ea (TX B E xa)) (hb : PE X eb (TX B E xb))
    (hs : starEach [ea, eb] X.env = [(false, eval ea X.env), (false, eval eb X.env)]) (hs2 : starEach [eb] X.env = [(false, eval eb X.env)]) (hpl : (backTo pc (starEach [eb] X.env)).any (·.1) = false)
    (ok : BlkOk c.N c.sc scope own) (hw : ∀ i ∈ w, i ∈ own.map (·.2)) (hg : ∀ X', Cok B (c.blk scope) E0 X' → PG X' (.Tuple elts kk tp) (TGr B E0 w g)) (ht : ∀ X', Cok B (c.blk scope) E0 X' → PTs X' ifs (TB B E0 t)) (he : ∀ X', Cok B (c.blk scope) E0 X' → PE X' elt (TX B E0 el)) :
    PSs X [.Assign [.Name x px] (.Call (.Name "zip" pz) [ea, eb] [] pc) sp, .Return (some (.ListComp elt [⟨.Tuple elts kk tp, .Name x px2, ifs, 0⟩] scope pos)) rp] (TSt B E (sZr i xa xb g t el (own.map (·.2)) tr)) := by
  have hv : PE X (.Name x px2) (tVar i) := pe_var (C.at_ hi) (C.vis (.inl hxl)) (notD_ok hd).1 (notD_ok hd).2.1
  have s1 : PS X (.Assign [.Name x px] (.Call (.Name "zip" pz) [ea, eb] [] pc) sp) (tAsg (tCB (rZipV X) (TAr B E (aCons xa (aCons xb aNil)))) (gName i)) :=
    ps_set (by rw [C.N]; exact hN) (C.at_ hi) (C.loc (.inl hxl)) (pe_callTy c_zipV (C.gl hz) (by rw [C.mg]; exact hzm) boot_zip (a_cons ha (a_cons hb a_nil hs2) (by rw [hs, hs2])) (by decide) (by decide) (by rw [hs, hs2]) hpl) rfl (.inr (by rw [C.sc]; exact hxl))
  have s2 := ps_ret (pos := rp) (pe_lc (pos := pos) (elt := elt) (tt := TB B E0 t) (te := TX B E0 el) C.calm (by rw [C.N]; exact hN) (pi_zn (elts := elts) (kk := kk) (tpos := tp) hv) (by rw [C.N, C.sc]; exact ok) (fun s H L cl fp => hg _ (cok_blk C s H scope cl L fp)) (fun s H L cl fp => ht _ (cok_blk C s H scope cl L fp)) (fun s H L cl fp => he _ (cok_blk C s H scope cl L fp)) (fun _ => rfl))
  refine wkSs (pss_cons s1 (pss_one s2)) fun Dn σ H ⟨m, s, env, n, cc, ar, er, hx0, hn, hc⟩ => ?_
  obtain ⟨hlen, hx⟩ := grd_ok hx0
  rw [Nat.blt_eq, lenD_eq, er.len] at hlen
  refine ⟨m, s, env, fun us s1 => twoD us fun u v => hld u s1 fun l s3 rel => hld v s3 fun l2 s4 rel2 => lcK g t el (own.map fun x : Str × Nat => x.2) tr (put env .unb i) cc.kr (zipD l l2) s4 fun s5 kk => rel2 s5 fun s6 => rel s6 kk, cc.kx, ar, er, hx, fun us m1 s1 H1 zs p1 a1 r1 h1 => ?_, hc.xx⟩
  obtain ⟨u, v, e0, h0⟩ := twoD_ok h1
  subst e0
  obtain ⟨x, y, ex, rx, ry⟩ := rds2 r1
  subst ex
  obtain ⟨t1, a, xs, l, s3, rel, ea, hd1, h2⟩ := hld2 a1 rx h0
  obtain ⟨q1, b1, ro1, _⟩ := hd1.all H1 .refl a1
  obtain ⟨t2, b, ys, l2, s4, rel2, eb, hd2, h3⟩ := hld2 b1 (q1.rd a1 ry) h2
  obtain ⟨q2, b2, ro2, _⟩ := hd2.all H1 .refl b1
  subst ea eb
  unfold rZipV
  rw [C.K]
  refine ⟨t1, t2, a, b, xs, ys, rfl, hd1.now.sq _ _ _ q2 b2, hd2.now.sq _ _ _ .refl b2, fun nz h0 hnz Z => ?_⟩
  have e1 : ER B m1 s1 H1 (put env .unb i) (σ.set i (some (V.ref (nz + 4)))) := er_unb (er.post p1 ar) i _
  refine ⟨nz, h0, H1, t1, t2, a, b, ?_, rfl, hnz, Z, ?_⟩
  · rw [List.getElem?_set_self hlen]
  · rw [C.K]
    refine lc_ki (g := g) (t := t) (el := el) (tr := tr) hw a1 e1 (hc.rt.post p1) (zipD l l2) m1 s1 H1 s4 (fun s5 kk => rel2 s5 fun s6 => rel s6 kk) _ .refl a1 ⟨fun H2 gg ar2 => ?_⟩ h3
    obtain ⟨q1', b1', ro1', xs', hd1'⟩ := hd1.all H2 gg ar2
    obtain ⟨q2', b2', ro2', ys', hd2'⟩ := hd2.all H2 (gg.on q1.fzp) b1'
    have hd1'' : Held B t1 a xs' m1 s4 H2 l := ⟨fun m' s' H' p a' => hd1'.sq _ _ _ (q2'.trans p) a', q2'.rds b1' hd1'.rd⟩
    exact ⟨q1'.trans q2', b2', ro1'.comp ro2', walk_zp b2' hd1'' hd2'⟩
end
end Ev
end
end

/-! part EvBF -/
section
set_option Elab.async false
set_option linter.all false
set_option maxRecDepth 100000
set_option maxHeartbeats 4000000
/-! EvBF: xs.index(y), t.index(y). -/
noncomputable section
namespace Ev
open PySem PySem.Spec PyProof.Rows L2

def rIndexT (K : PySem.W.Frag) : V → List V → Hp → VK → Prop := fun x xs H Q => ∃ (a : Addr) (y : V) (d : PyData) (ds : List PyData) (j : Nat) (z : PyData), x = V.ref a ∧ xs = [y] ∧ Dp K H (V.ref a) (.tuple ds) ∧ Dp K H y d ∧ SeqAt.shaped (.list ds) = true ∧ SeqAt.shaped d = true ∧ ds[j]? = some z ∧ PyData.eqv z d = true ∧
  (∀ (m : Nat) (z' : PyData), m < j → ds[m]? = some z' → PyData.eqv z' d = false) ∧ Q (.int (j : Nat)) H
section
variable {X : Cx}
theorem mt_indexT (hu : X.A.units + 65 < cLine) : MtR X "tuple.index" (rIndexT X.K) := by
  intro pins s σ H x xs v us Q I rx rxs h
  obtain ⟨a, y, d, ds, j, z, rfl, rfl, hl, hy, sl, sd, hz, hzj, hno, q⟩ := h
  obtain rfl : v = Value.ref a := rx
  obtain ⟨uy, rfl, ry⟩ := vals1 rxs
  obtain ⟨bs, r1⟩ := Dp.reads I d y uy hy ry
  have lay : PyData.canLayAll0 ds = true := SeqAt.canLay_of_shaped sl
  have room : X.A.units + 1 + min (PyData.depthAll ds) d.depth < cLine := room_in_shaped sd hu
  cases hl with
  | tup hs ha =>
    obtain ⟨its, rv, pt, hlen⟩ := I.tuple hs
    obtain ⟨⟨cls, dd, data, sls⟩, ho, hc, n, hdt⟩ := pt
    simp only at hc hdt
    subst hc hdt
    obtain ⟨as, rd⟩ := Dp.readsAll I ds _ its ha rv
    have hn : its.length = ds.length := SeqAt.ReadsAll.length ds its as rd
    have hmap : its.map (SeqAt.readOf s.heap) = ds := SeqAt.readsAll_map ds its as lay rd
    have hjd := (List.getElem?_eq_some_iff.mp hz).1
    have hj : j < its.toArray.size := by rw [List.size_toArray]; omega
    have told : ∀ (m : Nat) (hm : m < its.toArray.size) (w : PyData), ds[m]? = some w → SeqAt.readOf s.heap its.toArray[m] = w := fun m hm w hw => by
      have hm' : m < its.length := by simpa using hm
      rw [← hmap, List.getElem?_map, List.getElem?_eq_getElem hm'] at hw
      have e := Option.some.inj hw
      simpa using e
    refine call_meets PySem.F.slot_tuple_index ⟨_, ho, rfl⟩ PySem.F.entry_tuple_index (PySem.F.args_tuple_index_2 _ _) (TI.tuple_indexAt a its.toArray n dd sls uy (fun u => PyData.eqv (SeqAt.readOf s.heap u) d) j hj (by rw [told j hj z hz]; exact hzj) fun m hm hmj => ?_)
      ⟨ho, SeqAt.items_eqAt (vs := its.toArray) (show ReadsAll s.heap its.toArray.toList ds as from rd) r1 lay (SeqAt.canLay_of_shaped sd) room, ⟨.int (j : Nat), H, I.tok _, ⟨_, rfl⟩, q⟩⟩
    have hmd : m < ds.length := by omega
    have e : ds[m]? = some ds[m] := List.getElem?_eq_getElem hmd
    rw [told m hm _ e]
    exact hno m _ hmj e
end
/-! ### in the evaluator -/
def idxO (f : D → D → Option Bool) (a : D) : Nat → List D → Option Nat
  | _, [] => none
  | n, z :: r => match f z a with
    | some true => some n
    | some false => idxO f a (n + 1) r
    | none => none
theorem idxO_ok {f : D → D → Option Bool} {g : D → Option PyData} (h : ∀ a b r p q, f a b = some r → g a = some p → g b = some q → PyData.eqv p q = r) {a : D} {p : PyData} (ha : g a = some p) : ∀ (l : List D) (n j : Nat) (ps : List PyData), idxO f a n l = some j → mapO g l = some ps →
    ∃ i z, j = n + i ∧ ps[i]? = some z ∧ PyData.eqv z p = true ∧ ∀ m z', m < i → ps[m]? = some z' → PyData.eqv z' p = false
  | [], _, _, _, h1, _ => by cases h1
  | z :: l, n, j, ps, h1, h2 => by
    simp only [mapO] at h2
    split at h2
    · rename_i q qt e1 e2
      cases h2
      simp only [idxO] at h1
      split at h1
      · rename_i e
        cases h1
        exact ⟨0, q, rfl, rfl, h _ _ _ _ _ e e1 ha, fun m z' hm => absurd hm (Nat.not_lt_zero m)⟩
      · rename_i e
        obtain ⟨i, w, e3, e4, e5, e6⟩ := idxO_ok h ha l (n + 1) j qt h1 e2
        refine ⟨i + 1, w, by omega, by simpa using e4, e5, fun m z' hm hz => ?_⟩
        cases m with
        | zero =>
          simp at hz
          subst hz
          exact h _ _ _ _ _ e e1 ha
        | succ m => exact e6 m z' (by omega) (by simpa using hz)
      · cases h1
    · cases h2
def optN (o : Option Nat) (k : Nat → Bool) : Bool := Option.rec (motive := fun _ => Bool) false k o
def isTm (d : D) : Bool := match d with
  | .tm _ => true
  | _ => false
theorem isTm_ok {d : D} (h : isTm d = true) : ∃ l, d = .tm l := by
  unfold isTm at h
  split at h
  · exact ⟨_, rfl⟩
  · cases h
def idxK (t : Bool) (s : S) (b a : D) (k : Nat → Bool) : Bool := grd (dpF s 29 a) (grd (dpF s 30 b) (match vw s b, t with
  | .tp l, true => grd (isTm b) (optN (idxO (eqF s 29) a 0 l) k)
  | .ls l, false => optN (idxO (eqF s 29) a 0 l) k
  | _, _ => false))
def xIdx (t : Bool) (a b : XE) : XE := Bool.rec (motive := fun _ => XE) (fun e s k x => a e s (fun u s1 => lsI u s1 fun _ => b e s1 (fun v s2 => idxK false s2 u v fun n => frN n fun n => k (.int (.ofNat n)) s2) x) x) (fun e s k x => a e s (fun u s1 => grd (isTm u) (b e s1 (fun v s2 => idxK true s2 u v fun n => frN n fun n => k (.int (.ofNat n)) s2) x)) x) t
theorem idxK_ok {B : Bs} {m : Md} {s : S} {H : Hp} {t : Bool} {a b : D} {x y : V} {k : Nat → Bool} (ar : AR B m s H) (ra : RDw B m s H a x) (rb : RDw B m s H b y) (h : idxK t s b a k = true) :
    ∃ d ds j z, Dp B.K H x d ∧ (match t with | true => Dp B.K H y (.tuple ds) ∧ isTm b = true | false => Dp B.K H y (.list ds)) ∧ SeqAt.shaped d = true ∧ SeqAt.shaped (.list ds) = true ∧ ds[j]? = some z ∧ PyData.eqv z d = true ∧ (∀ (m : Nat) (z' : PyData), m < j → ds[m]? = some z' → PyData.eqv z' d = false) ∧ k j = true := by
  obtain ⟨h1, h2⟩ := grd_ok h
  obtain ⟨h3, h4⟩ := grd_ok h2
  obtain ⟨p, p1, p2, p3, p4⟩ := dp_ok ar 29 a x h1 ra
  obtain ⟨q, q1, q2, q3, q4⟩ := dp_ok ar 30 b y h3 rb
  have sp : SeqAt.shaped p = true := by
    unfold SeqAt.shaped
    rw [p2, Bool.true_and, decide_eq_true_eq]
    omega
  have q4' : (match vw s b with
    | .no => none
    | .non => some .none
    | .bl b => some (.bool b)
    | .int i => some (.int i)
    | .str x => some (.str x)
    | .rep n => (toPy (m.ν n)).map fun p => .str p.shown
    | .cat w n => (toPy (m.ν n)).map fun p => .str (w ++ p.shown)
    | .tp l => (mapO (pyF m.ν s 29) l).map .tuple
    | .ls l => (mapO (pyF m.ν s 29) l).map .list) = some q := q4
  have fin : ∀ (l : List D) (ds : List PyData), mapO (pyF m.ν s 29) l = some ds → optN (idxO (eqF s 29) a 0 l) k = true → PyData.canLayAll0 ds = true → PyData.depthAll ds ≤ 29 → SeqAt.shaped (.list ds) = true ∧ ∃ j z, ds[j]? = some z ∧ PyData.eqv z p = true ∧ (∀ (m : Nat) (z' : PyData), m < j → ds[m]? = some z' → PyData.eqv z' p = false) ∧ k j = true := fun l ds hds ho cl dp => by
    cases e : idxO (eqF s 29) a 0 l with
    | none => rw [e] at ho; exact absurd (show false = true from ho) Bool.false_ne_true
    | some j =>
      rw [e] at ho
      obtain ⟨i, z, e3, e4, e5, e6⟩ := idxO_ok (eqF_ok 29) p4 l 0 j ds e hds
      rw [Nat.zero_add] at e3
      subst e3
      refine ⟨?_, j, z, e4, e5, e6, ho⟩
      unfold SeqAt.shaped
      simp only [PyData.canLay0, PyData.depth]
      rw [cl, Bool.true_and]
      exact decide_eq_true (by omega)
  cases e : vw s b with
  | tp l =>
    rw [e] at h4 q4'
    cases t with
    | false => exact absurd (show false = true from h4) Bool.false_ne_true
    | true =>
      obtain ⟨ds, hds, rfl⟩ := Option.map_eq_some_iff.mp q4'
      simp only [PyData.canLay0, PyData.depth] at q2 q3
      obtain ⟨h5, h4⟩ := grd_ok h4
      obtain ⟨f1, j, z, f2, f3, f4, f5⟩ := fin l ds hds h4 q2 (by omega)
      exact ⟨p, ds, j, z, p1, ⟨q1, h5⟩, sp, f1, f2, f3, f4, f5⟩
  | ls l =>
    rw [e] at h4 q4'
    cases t with
    | true => exact absurd (show false = true from h4) Bool.false_ne_true
    | false =>
      obtain ⟨ds, hds, rfl⟩ := Option.map_eq_some_iff.mp q4'
      simp only [PyData.canLay0, PyData.depth] at q2 q3
      obtain ⟨f1, j, z, f2, f3, f4, f5⟩ := fin l ds hds h4 q2 (by omega)
      exact ⟨p, ds, j, z, p1, q1, sp, f1, f2, f3, f4, f5⟩
  | _ => rw [e] at h4; cases t <;> exact absurd (show false = true from h4) Bool.false_ne_true
/-! ### tuples whose object is known -/
def tTupM (t : TA) : TE := fun σ H Q => t σ H fun xs H1 => xs.length ≤ sizeLine ∧ ∀ p (o : Obj), H1 p = none → o.dict = none → Q (.ref p) (upd H1 p (.frz o (.tup xs)))
theorem pe_tupM {X : Cx} {es : List Expr} {t : TA} {pos : Pos} {x1} (h : PA X es t) : PE X (.Tuple es x1 pos) (tTupM t) := by
  refine ⟨fun pins s σ H Q I hq => ?_⟩
  refine wpAny_Tuple_spliced (thn (h.run pos pins s σ H _ I hq) fun us s1 ⟨xs, H1, I1, r, z, q⟩ => ⟨by rw [← r.length]; exact z, ?_⟩)
  have free : H1 s1.heap.objs.size = none := I1.hok.fresh (Nat.le_refl _)
  refine ⟨.ref s1.heap.objs.size, upd H1 s1.heap.objs.size (.frz { cls := .type "tuple", data := .seq us.toArray } (.tup xs)), I1.laid (t' := s1.toks) (fun b u e => Heap.get?_push_of_some _ e) (Nat.le_refl _) ?_, rfl, q _ _ free rfl⟩
  exact ⟨Heap.get?_push_size _ rfl, z, us, r, ⟨_, Heap.get?_push_size _ rfl, rfl, _, rfl⟩⟩
theorem c_tupM_raw {X : Cx} : CallR X (.type "tuple") (fun xs H Q => ∃ p ys, xs = [.ref p] ∧ SqL X.K H p ys ∧ ∀ l (o : Obj), H l = none → o.dict = none → Q (.ref l) (upd H l (.frz o (.tup ys)))) := by
  intro pins s σ H xs us Q I r ⟨p, ys, e, hq, q⟩
  subst e
  obtain ⟨u, rfl, rx⟩ := vals1 r
  obtain rfl : u = Value.ref p := rx
  obtain ⟨its, r', pl, hz⟩ := I.list hq
  have len := r'.length
  refine call_tuple_list pl.isList (fun h' kp => ?_) (by simp only [List.size_toArray] <;> omega)
  have I1 : Inv X pins σ H { s with heap := h' } := I.kept (t' := s.toks) kp
  exact ⟨.ref h'.objs.size, _, I1.laid (t' := s.toks) (o := .frz { cls := .type "tuple", data := .seq its.toArray } (.tup ys)) (fun b o e => Heap.get?_push_of_some _ e) (Nat.le_refl _) ⟨Heap.get?_push_size _ rfl, hz, its, r', IsTup.new _ _⟩, rfl, q _ _ (I1.hok.fresh (Nat.le_refl _)) rfl⟩
section
variable {B : Bs} {m : Md} {s : S} {H : Hp} {k : KD} {Q : VK}
theorem fin_tm {l : List D} {xs : List V} (hk : KDok B m s H k Q) (ar : AR B m s H) (r : RDws B m s H l xs) (h : k (.tm l) s = true) : ∀ p (o : Obj), H p = none → o.dict = none → Q (.ref p) (upd H p (.frz o (.tup xs))) := fun p o hp ho => by
  have P := post_new (m := m) (s := s) (o := .frz o (.tup xs)) hp
  exact hk (.tm l) m s _ _ P (ar_new ar hp) ⟨p, xs, o, rfl, upd_same, ho, P.rds ar r⟩ h
end
def xTupM (a : XA) : XE := fun e s k x => a e s (fun us s1 => grd (shortB us) (k (.tm us) s1)) x
def bTupM : BG := fun us s k => one us fun d => lsI d s fun l => k (.tm l) s
section
variable {B : Bs} {c : SI} {E : XK} {X : Cx} {es : List Expr} {za : XA} {pos : Pos}
theorem x_tupM {x1} (h : PA X es (TAr B E za)) : PE X (.Tuple es x1 pos) (TX B E (xTupM za)) := wkE (pe_tupM h) fun σ H Q ⟨m, s, env, k, kx, ar, er, hx, hk, hkx⟩ =>
  ⟨m, s, env, _, kx, ar, er, hx, fun us m1 s1 H1 xs p1 a1 r1 h => by
    obtain ⟨c, h1⟩ := grd_ok h
    have hl := shortB_ok c
    rw [rds_len r1] at hl
    exact ⟨size_ok hl, fin_tm (hk.post p1) a1 r1 h1⟩, hkx⟩
theorem c_tupM (C : Cok B c E X) : CallR X (.type "tuple") (rG B bTupM) := callR_imp c_tupM_raw fun xs H Q ⟨m, s, ds, k, ar, r, hg, hk⟩ => by
  obtain ⟨d, e, h⟩ := one_ok hg
  subst e
  obtain ⟨x, e, rx⟩ := rds1 r
  subst e
  obtain ⟨a, xs, l, e, q, t, h2⟩ := lsI_ok ar rx h
  subst e
  exact ⟨a, xs, rfl, sq_lst q, fin_tm hk ar t h2⟩
end
/-! ### a method of such a tuple -/
def tBMT (r : V → List V → Hp → VK → Prop) (to : TE) (t : TA) : TE := fun σ H Q => to σ H fun x H1 => (∃ p ob xs, x = .ref p ∧ H1 p = some (.frz ob (.tup xs)) ∧ ob.dict = none) ∧ t σ H1 fun xs H2 => r x xs H2 Q
theorem pe_bmT {X : Cx} {o e : Expr} {es : List Expr} {to : TE} {t : TA} {name : Str} {apos cpos : Pos} {id : String} {r : V → List V → Hp → VK → Prop} (slot : Slot "tuple" name id) (hty : typeOf (.builtin id) = pure (.type "method_descriptor")) (hm : MtR X id r) (ho : PE X o to) (ha : PA X (e :: es) t)
    (hbase : attributeBase o name X.env (eval o X.env) = eval o X.env)
    (hfew : ((backTo cpos (starEach (e :: es) X.env)).all (fun x => !x.1) && (backToKw cpos (keywordEach [] X.env)).all (fun x => x.1.isSome)
      && decide ((e :: es).length + ([] : List Keyword).length + (if ([] : List Keyword).isEmpty then 0 else 1) < 30)) = true)
    (hline : (apos.endLine == cpos.line) = true) (hs : starEach (e :: es) X.env = (false, eval e X.env) :: starEach es X.env) (hplain : (backTo cpos (starEach es X.env)).any (·.1) = false) :
    PE X (.Call (.Attribute o name apos) (e :: es) [] cpos) (tBMT r to t) := by
  refine ⟨fun pins s σ H Q I h => ?_⟩
  refine wpAny_Call_method_late hbase hfew hline rfl (thn (ho.run pins s σ H _ I h) fun v s1 ⟨x, H1, I1, r1, ⟨p, ob, xs, ex, hp, hd⟩, q1⟩ => ?_)
  subst ex
  obtain rfl : v = Value.ref p := r1
  obtain ⟨g, _, its, _, ob', g', hc, _⟩ := I1.hok p _ hp
  rw [g] at g'
  cases g'
  refine ⟨"tuple", id, PySem.F.plainAttrs_tuple, slot, hty, ⟨ob, g, hc⟩, fun a e => by cases e; exact ⟨ob, g, hd⟩, ?_⟩
  have hA := ha.run cpos pins s1 σ H1 _ I1 q1
  rw [hs] at hA ⊢
  refine Calls.callWith_builtin (by show (false || (backTo cpos (starEach es X.env)).any (·.1)) = false; rw [hplain] <;> rfl) (Calls.evalArgs_plain ?_)
  exact thn hA fun us s2 ⟨vs, H2, I2, r2, q2⟩ => hm pins s2 σ H2 (.ref p) vs _ us Q I2 rfl r2 q2
section
variable {B : Bs} {c : SI} {E : XK} {X : Cx} {o e : Expr} {pos p q apos : Pos} {xa xb : XE}
theorem x_idx (t : Bool) (C : Cok B c E X) (hu : X.A.units + 65 < cLine) (ho : PE X o (TX B E xa)) (ha : PE X e (TX B E xb)) (hbase : attributeBase o "index" X.env (eval o X.env) = eval o X.env)
    (hfew : ((backTo pos (starEach [e] X.env)).all (fun x => !x.1) && (backToKw pos (keywordEach [] X.env)).all (fun x => x.1.isSome)
      && decide ([e].length + ([] : List Keyword).length + (if ([] : List Keyword).isEmpty then 0 else 1) < 30)) = true)
    (hline : (apos.endLine == pos.line) = true) (hs : starEach [e] X.env = (false, eval e X.env) :: starEach [] X.env) (hplain : (backTo pos (starEach [] X.env)).any (·.1) = false) :
    PE X (.Call (.Attribute o "index" apos) [e] [] pos) (TX B E (xIdx t xa xb)) := by
  cases t with
  | true =>
    refine wkE (pe_bmT PySem.F.slot_tuple_index PySem.F.type_tuple_index (mt_indexT hu) ho (a_cons ha a_nil hs) hbase hfew hline hs hplain) fun σ H Q ⟨m, s, env, k, kx, ar, er, hx0, hk, hkx⟩ => ?_
    have hx : xa env s (fun u s1 => grd (isTm u) (xb env s1 (fun v s2 => idxK true s2 u v fun n => frN n fun n => k (.int (.ofNat n)) s2) kx)) kx = true := hx0
    refine ⟨m, s, env, _, kx, ar, er, hx, fun u m1 s1 H1 v p1 a1 r1 h => ?_, hkx⟩
    obtain ⟨h1, h2⟩ := grd_ok h
    obtain ⟨l, eu⟩ := isTm_ok h1
    subst eu
    have r0 := r1
    obtain ⟨a, xs, ob, ev, q, hd, rl⟩ := r1
    refine ⟨⟨a, ob, xs, ev, q, hd⟩, m1, s1, env, fun us s2 => one us fun w => idxK true s2 (.tm l) w fun n => frN n fun n => k (.int (.ofNat n)) s2, kx, a1, er.post p1 ar, h2, fun us m2 s2 H2 vs p2 a2 r2 h3 => ?_, hkx.post p1⟩
    obtain ⟨w, e, h4⟩ := one_ok h3
    subst e
    obtain ⟨y, e, ry⟩ := rds1 r2
    subst e
    obtain ⟨d, ds, j, z, k1, k2, k3, k4, k5, k6, k7, k8⟩ := idxK_ok a2 ry (p2.rd a1 r0) h4
    rw [frN_eq] at k8
    rw [ev] at k2 ⊢
    rw [C.K]
    exact ⟨a, y, d, ds, j, z, rfl, rfl, k2.1, k1, k4, k3, k5, k6, k7, hk (.int _) m2 s2 H2 _ (p1.trans p2) a2 rfl k8⟩
  | false =>
    refine wkE (pe_bm (T := "list") PySem.F.plainAttrs_list PySem.F.slot_list_index PySem.F.type_list_index (mt_indexD hu) ho (a_cons ha a_nil hs) hbase hfew hline hs hplain) fun σ H Q ⟨m, s, env, k, kx, ar, er, hx0, hk, hkx⟩ => ?_
    have hx : xa env s (fun u s1 => lsI u s1 fun _ => xb env s1 (fun v s2 => idxK false s2 u v fun n => frN n fun n => k (.int (.ofNat n)) s2) kx) kx = true := hx0
    refine ⟨m, s, env, _, kx, ar, er, hx, fun u m1 s1 H1 v p1 a1 r1 h => ?_, hkx⟩
    obtain ⟨a, xs, l, ev, q, rl, h2⟩ := lsI_ok a1 r1 h
    subst ev
    refine ⟨.inl ⟨rfl, xs, sq_lst q⟩, m1, s1, env, fun us s2 => one us fun w => idxK false s2 u w fun n => frN n fun n => k (.int (.ofNat n)) s2, kx, a1, er.post p1 ar, h2, fun us m2 s2 H2 vs p2 a2 r2 h3 => ?_, hkx.post p1⟩
    obtain ⟨w, e, h4⟩ := one_ok h3
    subst e
    obtain ⟨y, e, ry⟩ := rds1 r2
    subst e
    obtain ⟨d, ds, j, z, k1, k2, k3, k4, k5, k6, k7, k8⟩ := idxK_ok a2 ry (p2.rd a1 r1) h4
    rw [frN_eq] at k8
    rw [C.K]
    exact ⟨a, y, d, ds, j, z, rfl, rfl, k2, k1, k4, k3, k5, k6, k7, hk (.int _) m2 s2 H2 _ (p1.trans p2) a2 rfl k8⟩
end
end Ev
end
end

/-! part EvCA -/
section
set_option Elab.async false
set_option linter.all false
set_option maxRecDepth 100000
set_option maxHeartbeats 4000000
/-! EvCA: exceptions as values: X(e), isinstance(e, X), e.field. -/
noncomputable section
namespace Ev
open PySem PySem.Spec PyProof.Rows L2

theorem exF_ok {P : Program} {w : World} {H : Hp} {h : Heap} {a C : Addr} {d : Option Addr} {oe : Obj} {vs : Array Value} (e : h.get? a = some oe) (z : Zc (.ref C) d oe) (hd : oe.data = .fields vs) : ObjOk P w H h a (ExF C d a) :=
  ⟨⟨oe, vs, e, z, hd⟩, ⟨oe, e⟩, fun _ _ ⟨o, v, q, r⟩ k => ⟨o, v, k o q, r⟩⟩
/-- what makes an exception gives it as a value -/
theorem pe_mk {X : Cx} {e : Expr} {C : Addr} {t : L2.St → Hp → XK → Prop} (h : PMk X e t) : PE X e (fun σ H Q => t σ H fun cls d H' => cls = .ref C ∧ ∀ a, H' a = none → Q (.ref a) (upd H' a (ExF C d a))) := by
  refine ⟨fun pins s σ H Q I q => wpAny_mono (h pins s σ H _ I q) (fun u s1 hu => ?_) fun _ _ x => x⟩
  obtain ⟨a, oe, vs, sI, H', cls, d, rfl, J, k, hne, ha, hz, hd, _, na, os, ag, _, ec, q1⟩ := hu
  subst ec
  have I1 := J.laidN (t' := sI.toks) k hne na (exF_ok ha hz hd)
  exact ⟨.ref a, _, ⟨I1.ok, os.trans I1.os, ag, I1.base, I1.loc, I1.cell, I1.free, I1.freeC, I1.pin, I1.hok, I1.len⟩, rfl, q1 a na⟩
/-! ### in the evaluator -/
def xExP (i : Nat) (a : XE) : XE := fun e s k x => a e s (fun _ s1 => k (.xo i []) s1) x
def xExK (i : Nat) (a : XE) : XE := fun e s k x => a e s (fun d s1 => k (.xo i [d]) s1) x
section
variable {B : Bs} {c : SI} {E : XK} {X : Cx} {e : Expr} {p pos : Pos} {xa : XE} {x fld : Str} {i : Nat}
theorem x_exP (T : PlainC B x) (C : Cok B c E X) (hi : B.cls i = x) (hg : c.sc.names.lookup x = some .globalImplicit) (ha : PE X e (TX B E xa)) (he : starEach [e] X.env = (false, eval e X.env) :: starEach [] X.env) : PE X (.Call (.Name x p) [e] [] pos) (TX B E (xExP i xa)) := by
  obtain ⟨A, bmB, Bn, newId, initId, F, q, gC, kC, h1, h2⟩ := T.ok
  refine wkE (pe_mk (C := A) (pmk_ownA F (by rw [C.K]; exact q) (by rw [C.mg]; exact gC) (by rw [C.K]; exact kC) (raises_own (by rw [C.K]; exact h1) (by rw [C.K]; exact h2)) (C.gl hg) (pa_cons ha pa_nil he) T.dbg he rfl)) fun σ H Q ⟨m, s, env, k, kx, ar, er, hx, hk, hkx⟩ => ?_
  refine ⟨m, s, env, _, kx, ar, er, hx, fun d m1 s1 H1 v p1 a1 r1 h => ⟨by show 1 ≤ sizeLine; rw [sizeLine_eq]; decide, rfl, fun a hn => ?_⟩, hkx⟩
  have P := post_new (m := m1) (s := s1) (o := ExF A none a) hn
  exact hk (.xo i []) m1 s1 _ _ (p1.trans P) (ar_new a1 hn) ⟨a, A, [], rfl, by rw [hi]; exact gC, .inl ⟨rfl, upd_same⟩, rfl⟩ h
theorem x_exK (T : KeepC B x fld) (C : Cok B c E X) (hl : 1 ≤ c.k) (hi : B.cls i = x) (hf : B.fld i = fld) (hg : c.sc.names.lookup x = some .globalImplicit) (ha : PE X e (TX B E xa)) (he : starEach [e] X.env = (false, eval e X.env) :: starEach [] X.env) : PE X (.Call (.Name x p) [e] [] pos) (TX B E (xExK i xa)) := by
  refine wkE (pe_mk (C := T.C) (T.make C hl hg ha he)) fun σ H Q ⟨m, s, env, k, kx, ar, er, hx, hk, hkx⟩ => ?_
  refine ⟨m, s, env, _, kx, ar, er, hx, fun d m1 s1 H1 v p1 a1 r1 h A hA => ⟨rfl, fun a hn => ?_⟩, hkx⟩
  have P1 := post_new (m := m1) (s := s1) (o := .xd [(fld, v)]) hA
  have a2 := ar_new (o := .xd [(fld, v)]) a1 hA
  have P2 := post_new (m := m1) (s := s1) (o := ExF T.C (some A) a) hn
  have ne : A ≠ a := fun z => by
    rw [← z, upd_same] at hn
    cases hn
  refine hk (.xo i [d]) m1 s1 _ _ ((p1.trans P1).trans P2) (ar_new a2 hn) ⟨a, T.C, [v], rfl, by rw [hi]; exact T.mg, .inr ⟨A, v, rfl, upd_same, ?_⟩, v, [], rfl, P2.rd a2 (P1.rd a1 r1), rfl⟩ h
  rw [hf, upd_ne ne, upd_same]
end
end Ev
end
end

/-! part EvCB -/
section
set_option Elab.async false
set_option linter.all false
set_option maxRecDepth 100000
set_option maxHeartbeats 4000000
/-! EvCB: isinstance(e, X) and e.field of an exception that is a value. -/
noncomputable section
namespace Ev
open PySem PySem.Spec PyProof.Rows L2

/-- what a class must say so that its instances may be asked -/
structure IsxC (K : PySem.W.Frag) (C : Addr) : Prop where
  cl : (PySem.W.clsIn K C).isSome = true
  ga : PySem.W.findIn K (.ref C) "__getattribute__" = some (some (.builtin "BaseException.__getattribute__"))
  gt : PySem.W.findIn K (.ref C) "__getattr__" = some none
  sb : PySem.W.subIn K (.ref C) (.type "BaseException") = some true
  ac : PySem.W.findIn K (.ref C) "__class__" = some (some (.builtin "object.__class__"))
  sg : PySem.W.specialIn K (.builtin "object.__class__") "__get__" = some (some (.builtin "getset_descriptor.__get__"))
  tk : PySem.W.takesIn K (.builtin "object.__class__") = some true
  mo : PySem.W.mroIn K C (.type "object") = some true
  hd : PySem.W.hasDictIn K C = true
def isxB (K : PySem.W.Frag) (C : Addr) : Bool := (PySem.W.clsIn K C).isSome && (decide (PySem.W.findIn K (.ref C) "__getattribute__" = some (some (.builtin "BaseException.__getattribute__"))) && (decide (PySem.W.findIn K (.ref C) "__getattr__" = some none) &&
  (decide (PySem.W.subIn K (.ref C) (.type "BaseException") = some true) && (decide (PySem.W.findIn K (.ref C) "__class__" = some (some (.builtin "object.__class__"))) && (decide (PySem.W.specialIn K (.builtin "object.__class__") "__get__" = some (some (.builtin "getset_descriptor.__get__"))) &&
  (decide (PySem.W.takesIn K (.builtin "object.__class__") = some true) && (decide (PySem.W.mroIn K C (.type "object") = some true) && PySem.W.hasDictIn K C)))))))
theorem isxB_ok {K : PySem.W.Frag} {C : Addr} (h : isxB K C = true) : IsxC K C := by
  unfold isxB at h
  simp only [Bool.and_eq_true, decide_eq_true_eq] at h
  obtain ⟨h1, h2, h3, h4, h5, h6, h7, h8, h9⟩ := h
  exact ⟨h1, h2, h3, h4, h5, h6, h7, h8, h9⟩
section
variable {X : Cx} {pins : List (Addr × Obj)} {σ : L2.St} {H : Hp} {s : Shared}
/-- such an object as the kit's rules ask of it -/
theorem exF_inst {a C : Addr} {d : Option Addr} (I : Inv X pins σ H s) (h : H a = some (ExF C d a)) (hd : ∀ dd, d = some dd → ∃ fs, H dd = some (.xd fs)) : ∃ oe od, PySem.W.InstAt s.heap a oe C od ∧ (∀ dd fs, d = some dd → H dd = some (.xd fs) → ∃ ob mA, od = some ob ∧ s.heap.get? dd = some ob ∧ s.heap.Ns1 dd mA ∧ ∀ f, RelO (fs.lookup f) (mA f)) := by
  obtain ⟨⟨oe, vs, ho, hz, hv⟩, _, _⟩ := I.hok a _ h
  cases d with
  | none => exact ⟨oe, none, ⟨ho, hz.1, by unfold PySem.W.notCls; rw [hv] <;> rfl, by rw [hz.2]; trivial⟩, fun dd fs z => by cases z⟩
  | some dd =>
    obtain ⟨fs, hfs⟩ := hd dd rfl
    have hx : ObjOk X.prog X.w H s.heap dd (.xd fs) := I.hok dd _ hfs
    obtain ⟨mA, hns, hr⟩ := hx
    obtain ⟨od, hod, hl⟩ := lookIn_ns hns
    refine ⟨oe, some od, ⟨ho, hz.1, by unfold PySem.W.notCls; rw [hv] <;> rfl, by rw [hz.2]; exact hod⟩, fun dd' fs' z q => ?_⟩
    cases z
    rw [hfs] at q
    cases q
    exact ⟨od, mA, rfl, hod, hns, hr⟩
end
theorem call_isX {X : Cx} : CallR X (.builtin "isinstance") (fun xs H Q => ∃ (a C : Addr) (d : Option Addr) (c : V) (cv : Value) (b : Bool), xs = [.ref a, c] ∧ H a = some (ExF C d a) ∧ (∀ dd, d = some dd → ∃ fs, H dd = some (.xd fs)) ∧ IsxC X.K C ∧ (∀ u, RelV c u → u = cv) ∧ PySem.W.kitOne X.K (.ref C) cv = some b ∧ Q (.bl b) H) := by
  intro pins s σ H xs us Q I r h
  obtain ⟨a, C, d, c, cv, b, rfl, ha, hd, T, hcv, e, q⟩ := h
  cases r with
  | cons rx rr =>
    cases rr with
    | cons rt rr =>
      cases rr
      cases rx
      have ec := hcv _ rt
      subst ec
      obtain ⟨oe, od, J, _⟩ := exF_inst I ha hd
      exact PySem.W.kia_one (PySem.W.kitx_exc T.cl T.ga T.gt T.sb T.ac T.sg T.tk T.mo) I.kIn J e (fun z => nomatch z) fun tk => ⟨.bl b, H, I.kept (t' := tk) fun _ _ z => z, rfl, q⟩
/-- e.n -/
theorem pe_fld {X : Cx} {e : Expr} {te : TE} {pos : Pos} {n : Str} (he : PE X e te) (hb : attributeBase e n X.env (eval e X.env) = eval e X.env := by rfl) :
    PE X (.Attribute e n pos) (fun σ H Q => te σ H fun x H1 => ∃ (a C dd : Addr) (fs : List (Str × V)) (v : V), x = .ref a ∧ H1 a = some (ExF C (some dd) a) ∧ H1 dd = some (.xd fs) ∧ fs.lookup n = some v ∧ IsxC X.K C ∧ PySem.W.findIn X.K (.ref C) n = some none ∧ Q v H1) := by
  refine ⟨fun pins s σ H Q I h => ?_⟩
  refine attr_of hb (thn (he.run pins s σ H _ I h) fun u s1 hh => ?_)
  obtain ⟨x, H1, I1, rx, a, C, dd, fs, v, ex, ha, hx, l, T, hno, q⟩ := hh
  subst ex
  obtain rfl : u = Value.ref a := rx
  obtain ⟨oe, od, J, k⟩ := exF_inst I1 ha fun dd' z => by cases z; exact ⟨fs, hx⟩
  obtain ⟨ob, mA, eo, hob, hns, hr⟩ := k dd fs rfl hx
  subst eo
  obtain ⟨u, hu, ru⟩ := RelO.some_of (v := v) (o := mA n) (by rw [← l]; exact hr n)
  obtain ⟨od, ho, hl⟩ := lookIn_ns hns
  rw [hob] at ho
  cases ho
  exact HandSPX.exc_get I1.kIn J T.ga T.gt T.sb (PySem.W.findObj_own T.hd hno rfl (by rw [hl, hu])) (handed_of ru) ⟨v, H1, I1.tok _, ru, q⟩
end Ev
end
end

/-! part EvCC -/
section
set_option Elab.async false
set_option linter.all false
set_option maxRecDepth 100000
set_option maxHeartbeats 4000000
/-! EvCC: isinstance(e, X) and e.field in the evaluator; repr(a) == repr(b). -/
noncomputable section
namespace Ev
open PySem PySem.Spec PyProof.Rows L2

def asXo (d : D) (k : Nat → List D → Bool) : Bool :=
  D.rec (motive_1 := fun _ => Bool) (motive_2 := fun _ => Unit) false false (fun _ => false) (fun _ => false) (fun _ => false) (fun _ => false) (fun _ _ => false) (fun _ _ => false) (fun _ _ _ => false) (fun _ => false) (fun _ => false) (fun _ => false) (fun _ _ => false) (fun _ _ => false) (fun c l _ => k c l) () (fun _ _ _ _ => ()) d
theorem asXo_ok {d : D} {k : Nat → List D → Bool} (h : asXo d k = true) : ∃ c l, d = .xo c l ∧ k c l = true := by
  cases d <;> first | exact ⟨_, _, rfl, h⟩ | exact absurd h Bool.false_ne_true
def optB (o : Option Bool) (k : Bool → Bool) : Bool := Option.rec (motive := fun _ => Bool) false k o
theorem optB_ok {o : Option Bool} {k : Bool → Bool} (h : optB o k = true) : ∃ b, o = some b ∧ k b = true := by
  cases o with
  | none => exact absurd h Bool.false_ne_true
  | some b => exact ⟨b, rfl, h⟩
/-- what is known of a class in isinstance: which of the own classes lie under it -/
structure IsxF (B : Bs) (y : Str) (l : List Bool) : Prop where
  ok : ∃ (v : V) (cv : Value), (∀ u, RelV v u → u = cv) ∧ ((∃ A, B.mg y = some (.ref A) ∧ cv = .ref A ∧ v = .ref A) ∨ (∃ t, B.mg y = none ∧ bootBuiltins y = some (.type t) ∧ cv = .type t ∧ v = .ty t ∧ y ≠ "__name__")) ∧ (y == ("__debug__" : Str)) = false ∧
    ∀ i b C, l[i]? = some b → B.mg (B.cls i) = some (.ref C) → IsxC B.K C ∧ PySem.W.kitOne B.K (.ref C) cv = some b
def xIsx (l : List Bool) (a : XE) : XE := fun e s k x => a e s (fun d s1 => asXo d fun i _ => optB (l[i]?) fun b => k (.bl b) s1) x
structure FldF (B : Bs) (fl : List Str) : Prop where
  eq : ∀ i, B.fld i = fl.getD i ""
  ok : ∀ i C, B.mg (B.cls i) = some (.ref C) → fl.getD i "" ≠ "" → IsxC B.K C ∧ PySem.W.findIn B.K (.ref C) (fl.getD i "") = some none
def xFld (fl : List Str) (n : Str) (a : XE) : XE := fun e s k x => a e s (fun d s1 => asXo d fun i l => grd (Bool.rec (motive := fun _ => Bool) (strE (fl.getD i "") n) false (strE n "")) (List.rec (motive := fun _ => Bool) false (fun v _ _ => k v s1) l)) x
section
variable {B : Bs} {c : SI} {E : XK} {X : Cx} {ea : Expr} {p q pos : Pos} {xa : XE} {y : Str} {l : List Bool}
theorem x_isx (F : IsxF B y l) (C : Cok B c E X) (hg : c.sc.names.lookup ("isinstance" : Str) = some .globalImplicit) (hm : B.mg ("isinstance" : Str) = none) (hgT : c.sc.names.lookup y = some .globalImplicit) (ha : PE X ea (TX B E xa))
    (he : starEach [ea, .Name y q] X.env = (false, eval ea X.env) :: starEach [.Name y q] X.env) : PE X (.Call (.Name ("isinstance" : Str) p) [ea, .Name y q] [] pos) (TX B E (xIsx l xa)) := by
  obtain ⟨v, cv, hv, hy, hdb, hi⟩ := F.ok
  have hb : bootBuiltins ("isinstance" : Str) = some (.builtin "isinstance") := by rfl
  have h2 : PE X (.Name y q) (tC v) := by
    rcases hy with ⟨A, h1, h2, h3⟩ | ⟨t, h1, h2, h3, h4, h5⟩
    · subst h3
      exact pe_glob (u := .ref A) (v := .ref A) (C.gl hgT) (by rw [C.mg]; exact h1) rfl hdb
    · subst h4
      exact pe_bltn (C.gl hgT) (by rw [C.mg]; exact h1) h2 rfl h5 hdb
  refine wkE (pe_callB call_isX (C.gl hg) (by rw [C.mg]; exact hm) hb (pa_cons ha (pa_cons h2 pa_nil rfl) he) (by decide) (by decide) he rfl) fun σ H Q ⟨m, s, env, k, kx, ar, er, hx, hk, hkx⟩ => ?_
  refine ⟨m, s, env, _, kx, ar, er, hx, fun u m1 s1 H1 w p1 a1 r1 h1 => ?_, hkx⟩
  obtain ⟨i, ds, eu, h3⟩ := asXo_ok h1
  subst eu
  obtain ⟨b, e1, h4⟩ := optB_ok h3
  obtain ⟨a, A, xs, ew, g, z, _⟩ := r1
  obtain ⟨T, e2⟩ := hi i b A e1 g
  have hd : ∃ d, H1 a = some (ExF A d a) ∧ ∀ dd, d = some dd → ∃ fs, H1 dd = some (.xd fs) := by
    rcases z with ⟨_, q⟩ | ⟨dd, x, _, q, q2⟩
    · exact ⟨none, q, fun dd z => by cases z⟩
    · exact ⟨some dd, q, fun dd' z => by cases z; exact ⟨_, q2⟩⟩
  obtain ⟨d, q, q2⟩ := hd
  rw [C.K]
  exact ⟨a, A, d, v, cv, b, by rw [ew], q, q2, T, hv, e2, hk (.bl b) m1 s1 H1 _ p1 a1 rfl h4⟩
theorem x_fld {fl : List Str} {n : Str} (F : FldF B fl) (C : Cok B c E X) (ha : PE X ea (TX B E xa)) (hb : attributeBase ea n X.env (eval ea X.env) = eval ea X.env) : PE X (.Attribute ea n pos) (TX B E (xFld fl n xa)) := by
  refine wkE (pe_fld ha hb) fun σ H Q ⟨m, s, env, k, kx, ar, er, hx, hk, hkx⟩ => ?_
  refine ⟨m, s, env, _, kx, ar, er, hx, fun u m1 s1 H1 w p1 a1 r1 h1 => ?_, hkx⟩
  obtain ⟨i, ds, eu, h3⟩ := asXo_ok h1
  subst eu
  obtain ⟨e1, h4⟩ := grd_ok h3
  have e2 : fl.getD i "" = n ∧ n ≠ "" := by
    cases z : strE n "" with
    | true => rw [z] at e1; exact absurd e1 Bool.false_ne_true
    | false =>
      rw [z] at e1
      have e1 : strE (fl.getD i "") n = true := e1
      rw [strE_eq, beq_iff_eq] at e1
      refine ⟨e1, fun z2 => ?_⟩
      rw [strE_eq, z2] at z
      simp at z
  obtain ⟨e2, e3⟩ := e2
  obtain ⟨a, A, xs, ew, g, z, rl⟩ := r1
  obtain ⟨T, hno⟩ := F.ok i A g (by rw [e2]; exact e3)
  rw [e2] at hno
  cases ds with
  | nil => exact absurd h4 Bool.false_ne_true
  | cons v r =>
    obtain ⟨y, t, ey, ry, _⟩ := rl
    rcases z with ⟨e4, _⟩ | ⟨dd, x, e4, q, q2⟩
    · rw [e4] at ey
      cases ey
    · rw [e4] at ey
      cases ey
      rw [C.K]
      exact ⟨a, A, dd, _, y, ew, q, q2, by rw [F.eq, e2]; simp [List.lookup], T, hno, hk v m1 s1 H1 _ p1 a1 ry h4⟩
end
end Ev
end
end

/-! part EvCD -/
section
set_option Elab.async false
set_option linter.all false
set_option maxRecDepth 100000
set_option maxHeartbeats 4000000
/-! EvCD: repr(a) == repr(b) where a and b are lists of equal things. -/
noncomputable section
namespace Ev
open PySem PySem.Spec PyProof.Rows L2

section
variable {X : Cx} {pins : List (Addr × Obj)} {σ : L2.St} {H : Hp} {s : Shared} {W : Addr → Prop}
/-- a dict's entries, read -/
theorem pairs_read {P : Program} {w : World} {h : Heap} : ∀ {es : List DictEntry} {vs : List (Key × Value)}, Pairs (mixKind P w) es vs → ReadsAll h (es.map (·.key)) (vs.map fun p => match p.1 with | .inl i => PyData.int i | .inr x => PyData.str x) [] ∧ es.map (·.val) = vs.map (·.2)
  | _, _, .nil => ⟨.nil, rfl⟩
  | _, _, .cons (e := e) (kv := kv) k v r => by
    obtain ⟨q1, q2⟩ := pairs_read (h := h) r
    refine ⟨?_, by rw [List.map_cons, List.map_cons, v, q2]⟩
    rw [List.map_cons, List.map_cons]
    have k' : keyIs kv.1 e.key = true := k
    have q : Reads h e.key (match kv.1 with | .inl i => PyData.int i | .inr x => PyData.str x) [] := by
      rcases keyIs_shape k' with ⟨i, t, e1, e2⟩ | ⟨x, t, e1, e2⟩
      · rw [e1, e2]; exact .int i t
      · rw [e1, e2]; exact .str x t
    exact .cons q q1
mutual
theorem rdz_of {B : Bs} {m : Md} {nl no : Nat} : ∀ {d : D} {v : V}, RD B m nl no W H d v → (toPy d).isSome = true → RD0 B.K W H d v
  | .unb, _, h, _ => h
  | .non, _, h, _ => h
  | .bl _, _, h, _ => h
  | .int _, _, h, _ => h
  | .str _, _, h, _ => h
  | .ty _, _, h, e => by cases e
  | .tup l, _, ⟨a, xs, e, q, r⟩, z => ⟨a, xs, e, q, rdzs_of r (by have z' : ((toPys l).map PyData.tuple).isSome = true := z; simpa using z')⟩
  | .fl l, _, ⟨a, xs, e, q, n, r⟩, z => ⟨a, xs, e, q, n, rdzs_of r (by have z' : ((toPys l).map PyData.list).isSome = true := z; simpa using z')⟩
  | .fd ks vs, _, ⟨a, e, n, h⟩, z => ⟨a, e, n, by
      rcases h with h | ⟨ws, q, l, r⟩
      · exact .inl h
      · exact .inr ⟨ws, q, l, rdzs_of r (by
          have z' : ((toPys vs).map (fun ps => PyData.dict ((ks.map fun k => match k with | .inl i => PyData.int i | .inr x => PyData.str x).zip ps))).isSome = true := z
          simpa using z')⟩⟩
  | .ref _, _, _, e => by cases e
  | .glob _, _, _, e => by cases e
  | .sym _, _, _, e => by cases e
  | .rep _, _, _, e => by cases e
  | .tm _, _, _, e => by cases e
  | .xo _ _, _, _, e => by cases e
theorem rdzs_of {B : Bs} {m : Md} {nl no : Nat} : ∀ {ds : List D} {vs : List V}, RDs B m nl no W H ds vs → (toPys ds).isSome = true → RD0s B.K W H ds vs
  | [], _, h, _ => h
  | d :: ds, _, ⟨y, r, e, h, t⟩, z => by
    have z' : (match toPy d, toPys ds with | some p, some ps => some (p :: ps) | _, _ => none).isSome = true := z
    split at z'
    · rename_i p ps e1 e2
      exact ⟨y, r, e, rdz_of h (by rw [e1]; rfl), rdzs_of t (by rw [e2]; rfl)⟩
    · cases z'
end
mutual
/-- closed data, read, dicts too -/
theorem reads0_of (I : Inv X pins σ H s) (hS : H sysModules = none) : ∀ {d : D} {v : V} {u : Value} {p : PyData}, RD0 X.K W H d v → RelV v u → toPy d = some p → ∃ as, Reads s.heap u p as ∧ sysModules ∉ as
  | .non, v, u, p, h, r, e => by
    have ev : v = .non := h
    subst ev
    cases e
    cases r
    exact ⟨_, .none, by simp⟩
  | .bl b, v, u, p, h, r, e => by
    have ev : v = .bl b := h
    subst ev
    cases e
    cases r
    exact ⟨_, .bool b, by simp⟩
  | .int i, v, u, p, h, r, e => by
    have ev : v = .int i := h
    subst ev
    cases e
    obtain ⟨t, rfl⟩ := r
    exact ⟨_, .int i t, by simp⟩
  | .str x, v, u, p, h, r, e => by
    have ev : v = .str x := h
    subst ev
    cases e
    obtain ⟨t, rfl⟩ := r
    exact ⟨_, .str x t, by simp⟩
  | .tup l, v, u, p, ⟨a, xs, ev, q, rl⟩, r, e => by
    subst ev
    cases r
    obtain ⟨its, rv, pt, _⟩ := I.tuple q
    obtain ⟨ps, el, ep⟩ := Option.map_eq_some_iff.mp (show (toPys l).map PyData.tuple = some p from e)
    subst ep
    obtain ⟨as, hr, hn⟩ := readsAll0_of I hS rl rv el
    obtain ⟨o, ho, hc, n, hdt⟩ := pt
    exact ⟨as, .tuple ho hc hdt (by simpa using hr), hn⟩
  | .fl l, v, u, p, ⟨a, xs, ev, q, _, rl⟩, r, e => by
    subst ev
    cases r
    obtain ⟨its, n, rv, ho, _⟩ := I.lst q
    obtain ⟨ps, el, ep⟩ := Option.map_eq_some_iff.mp (show (toPys l).map PyData.list = some p from e)
    subst ep
    obtain ⟨as, hr, hn⟩ := readsAll0_of I hS rl rv el
    refine ⟨a :: as, .list ho rfl rfl (by simpa using hr), fun hm => ?_⟩
    rcases List.mem_cons.mp hm with z | z
    · rw [← z, hS] at q
      cases q
    · exact hn z
  | .fd ks vs, v, u, p, ⟨a, ev, _, hh⟩, r, e => by
    subst ev
    cases r
    obtain ⟨ps, el, ep⟩ := Option.map_eq_some_iff.mp (show (toPys vs).map (fun ps => PyData.dict ((ks.map fun k => match k with | .inl i => PyData.int i | .inr x => PyData.str x).zip ps)) = some p from e)
    subst ep
    rcases hh with ⟨e1, e2, q⟩ | ⟨ws, q, hl, rl⟩
    · subst e1 e2
      cases el
      obtain ⟨h1, h2⟩ := reads_nil I (.inl q)
      exact ⟨[a], h1, h2⟩
    · have hA : sysModules ≠ a := fun z => by
        rw [← z, hS] at q
        cases q
      obtain ⟨_, _, vv, hv, o, es, ep, e1, e2, e3, _, e5, _⟩ := I.hok a _ q
      obtain ⟨k1, k2⟩ := pairs_read (h := s.heap) e5
      have key : ∀ (ks : List Key) (ws : List V) (vv : List (Key × Value)), ks.length = ws.length → KV (ks.zip ws) vv → vv.map (·.1) = ks ∧ Vals ws (vv.map (·.2)) := fun ks => by
        induction ks with
        | nil =>
          intro ws vv hl h
          cases ws with
          | nil => cases h; exact ⟨rfl, .nil⟩
          | cons _ _ => cases hl
        | cons k ks ih =>
          intro ws vv hl h
          cases ws with
          | nil => cases hl
          | cons w ws =>
            cases h with
            | cons h1 h2 =>
              obtain ⟨q1, q2⟩ := ih ws _ (by simpa using hl) h2
              exact ⟨by rw [List.map_cons, q1, ← h1.1], .cons h1.2 q2⟩
      obtain ⟨g1, g2⟩ := key ks ws vv hl hv
      obtain ⟨bs, hr, hn⟩ := readsAll0_of I hS rl g2 el
      have hlen : ks.length = ps.length := by
        have l1 := g2.length
        have l2 := SeqAt.ReadsAll.length ps _ bs hr
        omega
      have z1 : ((ks.map fun k => match k with | .inl i => PyData.int i | .inr x => PyData.str x).zip ps).map (·.1) = ks.map fun k => match k with | .inl i => PyData.int i | .inr x => PyData.str x := List.map_fst_zip (by simp [hlen])
      have z2 : ((ks.map fun k => match k with | .inl i => PyData.int i | .inr x => PyData.str x).zip ps).map (·.2) = ps := List.map_snd_zip (by simp [hlen])
      refine ⟨a :: [] ++ bs, .dict (as := []) (bs := bs) e1 e2.1 e3 ?_ ?_, fun hm => ?_⟩
      · rw [z1, ← g1, List.map_map]
        exact k1
      · rw [z2, k2]
        exact hr
      · rcases List.mem_cons.mp hm with z | z
        · exact hA z
        · exact hn (by simpa using z)
  | .unb, _, _, _, h, _, _ => h.elim
  | .ty _, _, _, _, _, _, e => by cases e
  | .ref _, _, _, _, h, _, _ => h.elim
  | .glob _, _, _, _, h, _, _ => h.elim
  | .sym _, _, _, _, h, _, _ => h.elim
  | .rep _, _, _, _, h, _, _ => h.elim
  | .tm _, _, _, _, h, _, _ => h.elim
  | .xo _ _, _, _, _, h, _, _ => h.elim
theorem readsAll0_of (I : Inv X pins σ H s) (hS : H sysModules = none) : ∀ {ds : List D} {vs : List V} {us : List Value} {ps : List PyData}, RD0s X.K W H ds vs → Vals vs us → toPys ds = some ps → ∃ as, ReadsAll s.heap us ps as ∧ sysModules ∉ as
  | [], vs, us, ps, h, r, e => by
    have ev : vs = [] := h
    subst ev
    cases r
    cases e
    exact ⟨_, .nil, by simp⟩
  | d :: ds, vs, us, ps, ⟨x, t, ev, h1, h2⟩, r, e => by
    subst ev
    cases r with
    | cons r1 r2 =>
      have e' : (match toPy d, toPys ds with | some p, some ps => some (p :: ps) | _, _ => none) = some ps := e
      split at e'
      · rename_i p ps' e1 e2
        cases e'
        obtain ⟨as, q1, n1⟩ := reads0_of I hS h1 r1 e1
        obtain ⟨bs, q2, n2⟩ := readsAll0_of I hS h2 r2 e2
        exact ⟨as ++ bs, .cons q1 q2, fun hm => (List.mem_append.mp hm).elim n1 n2⟩
      · cases e'
end
end
end Ev
end
end

/-! part EvCE -/
section
set_option Elab.async false
set_option linter.all false
set_option maxRecDepth 100000
set_option maxHeartbeats 4000000
/-! EvCE: repr(a) == repr(b) in the evaluator. -/
noncomputable section
namespace Ev
open PySem PySem.Spec PyProof.Rows L2

theorem call_reprA {X : Cx} (hu : X.A.units + 200 < cLine) (hg : X.A.guards = some []) : CallR X (.builtin "repr") (fun xs H Q => ∃ a p, xs = [.ref a] ∧ (∀ pins σ s, Inv X pins σ H s → ∃ as, Reads s.heap (.ref a) p as ∧ sysModules ∉ as) ∧ p.showable = true ∧ p.shown.length ≤ sizeLine ∧ p.depth ≤ 100 ∧ Q (.str p.shown) H) := by
  rintro pins s σ H xs us Q I r ⟨a, p, rfl, hr, hs, hz, hd, q⟩
  cases r with
  | cons r1 r2 =>
  cases r2
  cases r1
  obtain ⟨as, rr, hn⟩ := hr pins σ s I
  exact repr_of_reads' rr hs (fun _ => hn) hg (by omega) (fun _ _ e => e) (fun h' u tk hk => ⟨.str p.shown, H, I.kept hk, ⟨_, rfl⟩, q⟩) hz
/-- an item's data -/
def pI (ν : Nat → D) (d : D) : Option PyData := match d with
  | .sym n => toPy (ν n)
  | d => toPy d
def sbI (ν : Nat → D) (d : D) : D := match d with
  | .sym n => ν n
  | d => d
/-- how long its text may be -/
def kdG (d : D) : Bool := match toPy d with
  | some p => p.showable && Nat.ble p.shown.length 1000000 && Nat.ble p.depth 60
  | none => false
def gI (d : D) : Nat := match d with
  | .bl _ => 5
  | .sym _ => 1000000
  | d => match kdG d with
    | true => 1000000
    | false => 100000000
def sumG (l : List D) : Nat := List.rec (motive := fun _ => Nat) 0 (fun d _ n => gI d + 2 + n) l
def okGs (l : List D) : Bool := Nat.ble (sumG l) 15000000
section
variable {B : Bs} {m : Md} {s : S} {H : Hp}
theorem kdr_of (ar : AR B m s H) {n : Nat} (h : n < s.nl) : ∃ p, toPy (m.ν n) = some p ∧ p.showable = true ∧ p.shown.length ≤ 1000000 ∧ p.depth ≤ 60 := by
  obtain ⟨⟨p, hp⟩, hk⟩ := B.kdr n _ (ar.lets n h)
  obtain ⟨_, a2, a3, a4, _⟩ := hk p hp
  exact ⟨p, hp, a2, a3, a4⟩
theorem item_ok (ar : AR B m s H) {d : D} {v : V} (r : RDw B m s H d v) (h : gI d ≤ 15000000) : ∃ p, pI m.ν d = some p ∧ p.showable = true ∧ p.shown.length ≤ gI d ∧ p.depth ≤ 60 ∧ RD0 B.K (Al m s) H (sbI m.ν d) v := by
  have gen : ∀ d : D, (∀ n, d ≠ .sym n) → (∀ b, d ≠ .bl b) → RDw B m s H d v → gI d ≤ 15000000 → ∃ p, pI m.ν d = some p ∧ p.showable = true ∧ p.shown.length ≤ gI d ∧ p.depth ≤ 60 ∧ RD0 B.K (Al m s) H (sbI m.ν d) v := fun d h1 h2 r h => by
    have e1 : gI d = match kdG d with | true => 1000000 | false => 100000000 := by
      cases d <;> first | rfl | exact absurd rfl (h1 _) | exact absurd rfl (h2 _)
    have e3 : sbI m.ν d = d := by
      cases d <;> first | rfl | exact absurd rfl (h1 _)
    have e2 : pI m.ν d = toPy d := by
      cases d <;> first | rfl | exact absurd rfl (h1 _)
    cases e : kdG d with
    | false => rw [e1, e] at h; exact absurd h (by decide)
    | true =>
      rw [e1, e]
      unfold kdG at e
      cases q : toPy d with
      | none => rw [q] at e; exact ff e
      | some p =>
        rw [q] at e
        simp only [Bool.and_eq_true] at e
        obtain ⟨⟨k1, k2⟩, k3⟩ := e
        exact ⟨p, by rw [e2, q], k1, Nat.le_of_ble_eq_true k2, Nat.le_of_ble_eq_true k3, by rw [e3]; exact rdz_of r (by rw [q]; rfl)⟩
  cases d with
  | sym n =>
    obtain ⟨hn, h0⟩ := r
    obtain ⟨p, hp, a2, a3, a4⟩ := kdr_of ar hn
    exact ⟨p, hp, a2, a3, a4, h0⟩
  | bl b => exact ⟨.bool b, rfl, rfl, by cases b <;> decide, by simp [PyData.depth], r⟩
  | _ => exact gen _ (fun n => by simp) (fun n => by simp) r h
theorem items_ok {X : Cx} {pins : List (Addr × Obj)} {σ : L2.St} {sh : Shared} (hK : X.K = B.K) (ar : AR B m s H) : ∀ {l : List D} {xs : List V}, RDws B m s H l xs → sumG l ≤ 15000000 → ∃ ps, mapO (pI m.ν) l = some ps ∧ PyData.showableAll ps = true ∧ (PyData.shownAll ps).length = l.length ∧ ((PyData.shownAll ps).map fun t => t.length + 2).sum ≤ sumG l ∧ PyData.depthAll ps ≤ 60 ∧
    (Inv X pins σ H sh → H sysModules = none → ∀ us, Vals xs us → ∃ as, ReadsAll sh.heap us ps as ∧ sysModules ∉ as)
  | [], xs, r, _ => by
    have ev : xs = [] := r
    subst ev
    exact ⟨[], rfl, by simp only [PyData.showableAll], by simp only [PyData.shownAll, List.length_nil], by simp [PyData.shownAll, sumG], by simp [PyData.depthAll], fun _ _ us h => by cases h; exact ⟨_, .nil, by simp⟩⟩
  | d :: l, xs, ⟨x, t, ev, r1, r2⟩, h => by
    subst ev
    have eS : sumG (d :: l) = gI d + 2 + sumG l := rfl
    rw [eS] at h
    obtain ⟨p, k1, k2, k3, k4, k5⟩ := item_ok ar r1 (by omega)
    obtain ⟨ps, j1, j2, j3, j4, j5, j6⟩ := items_ok (X := X) (pins := pins) (σ := σ) (sh := sh) hK ar r2 (by omega)
    refine ⟨p :: ps, by simp only [mapO, k1, j1], by simp only [PyData.showableAll, k2, j2, Bool.and_self], by simp only [PyData.shownAll, List.length_cons, j3], ?_, by simp only [PyData.depthAll]; omega, fun I hS us h => ?_⟩
    · simp only [PyData.shownAll, List.map_cons, List.sum_cons]
      rw [eS]
      omega
    · cases h with
      | cons h1 h2 =>
        have hp : toPy (sbI m.ν d) = some p := by
          have e := k1
          unfold pI at e
          unfold sbI
          cases d <;> exact e
        obtain ⟨as, q1, n1⟩ := reads0_of I hS (by rw [hK]; exact k5) h1 hp
        obtain ⟨bs, q2, n2⟩ := j6 I hS _ h2
        exact ⟨as ++ bs, .cons q1 q2, fun hm => (List.mem_append.mp hm).elim n1 n2⟩
theorem join_le : ∀ ts : List Str, (Str.join ", " ts).length ≤ (ts.map fun t => t.length + 2).sum
  | [] => by decide
  | [t] => by show t.length ≤ _; simp
  | t :: u :: r => by
    have e : Str.join ", " (t :: u :: r) = t ++ ", " ++ Str.join ", " (u :: r) := rfl
    have h := join_le (u :: r)
    have e2 : ((", " : String) : Str).length = 2 := rfl
    rw [e, strLen_append, strLen_append, e2]
    simp only [List.map_cons, List.sum_cons] at h ⊢
    omega
theorem list_ok {X : Cx} (hK : X.K = B.K) (ar : AR B m s H) {a : Addr} {l : List D} {xs : List V} (ha : H a = some (.lst xs)) (r : RDws B m s H l xs) (h : okGs l = true) (hS : ∃ o, B.K.lookup sysModules = some o) : ∃ ps, mapO (pI m.ν) l = some ps ∧ (PyData.list ps).showable = true ∧ (PyData.list ps).shown.length ≤ sizeLine ∧ (PyData.list ps).depth ≤ 100 ∧
    ∀ pins σ sh, Inv X pins σ H sh → ∃ as, Reads sh.heap (.ref a) (.list ps) as ∧ sysModules ∉ as := by
  have h := Nat.le_of_ble_eq_true (show Nat.ble (sumG l) 15000000 = true from h)
  have key := fun pins σ sh => items_ok (X := X) (pins := pins) (σ := σ) (sh := sh) hK ar r h
  obtain ⟨ps, j1, j2, _, j4, j5, _⟩ := key [] [] X.s_0
  refine ⟨ps, j1, by simp only [PyData.showable, j2], ?_, by simp only [PyData.depth]; omega, fun pins σ sh I => ?_⟩
  · rw [PyData.shown_list, strLen_append, strLen_append]
    have q := join_le (PyData.shownAll ps)
    have e1 : (("[" : String) : Str).length = 1 := rfl
    have e2 : (("]" : String) : Str).length = 1 := rfl
    rw [e1, e2, sizeLine_eq]
    omega
  · obtain ⟨ps', i1, _, _, _, _, i6⟩ := key pins σ sh
    rw [j1] at i1
    cases i1
    obtain ⟨o, ho⟩ := hS
    have hS' : H sysModules = none := (I.bs sysModules o (I.mod.kin _ _ (by rw [hK]; exact ho))).2
    obtain ⟨its, n, rv, hl, _⟩ := I.lst ha
    obtain ⟨as, q1, n1⟩ := i6 I hS' its rv
    refine ⟨a :: as, .list hl rfl rfl (by simpa using q1), fun hm => ?_⟩
    rcases List.mem_cons.mp hm with z | z
    · rw [← z, hS'] at ha
      cases ha
    · exact n1 z
end
/-! ### equal items -/
mutual
def eqG : D → D → Bool
  | .non, .non => true
  | .bl a, .bl b => a == b
  | .int i, .int j => iEq i j
  | .str x, .str y => strE x y
  | .sym n, .sym k => Nat.beq n k
  | .tup l, .tup r => eqGs l r
  | .fl l, .fl r => eqGs l r
  | .fd ks vs, .fd ks' vs' => eqKs ks ks' && eqGs vs vs'
  | _, _ => false
def eqGs : List D → List D → Bool
  | [], [] => true
  | a :: l, b :: r => match eqG a b with
    | true => eqGs l r
    | false => false
  | _, _ => false
def eqKs : List Key → List Key → Bool
  | [], [] => true
  | .inl i :: l, .inl j :: r => iEq i j && eqKs l r
  | .inr x :: l, .inr y :: r => strE x y && eqKs l r
  | _, _ => false
end
theorem eqKs_ok : ∀ {a b : List Key}, eqKs a b = true → a = b
  | [], [], _ => rfl
  | .inl i :: l, .inl j :: r, h => by
    have h' : (iEq i j && eqKs l r) = true := by simpa only [eqKs] using h
    obtain ⟨h1, h2⟩ := Bool.and_eq_true_iff.mp h'
    rw [iEq_eq, decide_eq_true_eq] at h1
    rw [h1, eqKs_ok h2]
  | .inr x :: l, .inr y :: r, h => by
    have h' : (strE x y && eqKs l r) = true := by simpa only [eqKs] using h
    obtain ⟨h1, h2⟩ := Bool.and_eq_true_iff.mp h'
    rw [strE_eq, beq_iff_eq] at h1
    rw [h1, eqKs_ok h2]
  | [], .inl _ :: _, h => by simp [eqKs] at h
  | [], .inr _ :: _, h => by simp [eqKs] at h
  | .inl _ :: _, [], h => by simp [eqKs] at h
  | .inr _ :: _, [], h => by simp [eqKs] at h
  | .inl _ :: _, .inr _ :: _, h => by simp [eqKs] at h
  | .inr _ :: _, .inl _ :: _, h => by simp [eqKs] at h
mutual
theorem eqG_ok : ∀ (a b : D), eqG a b = true → a = b
  | .non, b, h => by cases b <;> first | rfl | (simp [eqG] at h; done)
  | .bl a, b, h => by
    cases b <;> first | (simp [eqG] at h; done) | skip
    rename_i b
    have h' : (a == b) = true := by simpa only [eqG] using h
    rw [beq_iff_eq.mp h']
  | .int i, b, h => by
    cases b <;> first | (simp [eqG] at h; done) | skip
    rename_i j
    have h' : iEq i j = true := by simpa only [eqG] using h
    rw [iEq_eq, decide_eq_true_eq] at h'
    rw [h']
  | .str x, b, h => by
    cases b <;> first | (simp [eqG] at h; done) | skip
    rename_i y
    have h' : strE x y = true := by simpa only [eqG] using h
    rw [strE_eq, beq_iff_eq] at h'
    rw [h']
  | .tup l, b, h => by
    cases b <;> first | (simp [eqG] at h; done) | skip
    rename_i r
    have h' : eqGs l r = true := by simpa only [eqG] using h
    rw [eqGs_ok l r h']
  | .fl l, b, h => by
    cases b <;> first | (simp [eqG] at h; done) | skip
    rename_i r
    have h' : eqGs l r = true := by simpa only [eqG] using h
    rw [eqGs_ok l r h']
  | .fd ks vs, b, h => by
    cases b <;> first | (simp [eqG] at h; done) | skip
    rename_i ks' vs'
    have h' : (eqKs ks ks' && eqGs vs vs') = true := by simpa only [eqG] using h
    obtain ⟨h1, h2⟩ := Bool.and_eq_true_iff.mp h'
    rw [eqKs_ok h1, eqGs_ok vs vs' h2]
  | .sym n, b, h => by
    cases b <;> first | (simp [eqG] at h; done) | skip
    rename_i k
    have h' : Nat.beq n k = true := by simpa only [eqG] using h
    rw [Nat.eq_of_beq_eq_true h']
  | .unb, b, h => by cases b <;> simp [eqG] at h
  | .ty _, b, h => by cases b <;> simp [eqG] at h
  | .ref _, b, h => by cases b <;> simp [eqG] at h
  | .glob _, b, h => by cases b <;> simp [eqG] at h
  | .rep _, b, h => by cases b <;> simp [eqG] at h
  | .tm _, b, h => by cases b <;> simp [eqG] at h
  | .xo _ _, b, h => by cases b <;> simp [eqG] at h
theorem eqGs_ok : ∀ (a b : List D), eqGs a b = true → a = b
  | [], b, h => by cases b <;> first | rfl | (simp [eqGs] at h; done)
  | a :: l, b, h => by
    cases b <;> first | (simp [eqGs] at h; done) | skip
    rename_i b r
    have h' : (match eqG a b with | true => eqGs l r | false => false) = true := by simpa only [eqGs] using h
    cases e : eqG a b with
    | false => rw [e] at h'; cases h'
    | true =>
      rw [e] at h'
      rw [eqG_ok a b e, eqGs_ok l r h']
end
/-! ### the test -/
def xEqR (n : Bool) (a b : XE) : XE := fun e s k x => a e s (fun u s1 => lsI u s1 fun l => grd (okGs l) (b e s1 (fun v s2 => lsI v s2 fun l2 => grd (eqGs l l2) (k (.bl (Bool.rec (motive := fun _ => Bool) true false n)) s2)) x)) x
theorem mapO_congr {f g : D → Option PyData} : ∀ {l : List D}, (∀ d ∈ l, f d = g d) → mapO f l = mapO g l
  | [], _ => rfl
  | d :: l, h => by
    simp only [mapO, h d List.mem_cons_self, mapO_congr fun d hd => h d (List.mem_cons_of_mem _ hd)]
theorem rds_nu {B : Bs} {m m' : Md} {s s' : S} {H : Hp} : ∀ {l : List D} {xs : List V}, RDws B m s H l xs → (∀ i, i < s.nl → m'.ν i = m.ν i) → ∀ d ∈ l, pI m'.ν d = pI m.ν d
  | [], _, _, _ => fun d hd => absurd hd (by simp)
  | d :: l, _, ⟨x, t, _, r1, r2⟩, h => fun d' hd => by
    rcases List.mem_cons.mp hd with z | z
    · subst z
      cases d' <;> first | rfl | skip
      show toPy (m'.ν _) = toPy (m.ν _)
      rw [h _ r1.1]
    · exact rds_nu (s' := s') r2 h d' z
section
variable {B : Bs} {c : SI} {E : XK} {X : Cx} {ea eb : Expr} {p p2 pos pos2 pos3 : Pos} {xa xb : XE}
theorem pe_rl {e : Expr} {xe : XE} {p pos : Pos} (C : Cok B c E X) (hgd : c.gd = true) (hg : c.sc.names.lookup ("repr" : Str) = some .globalImplicit) (hm : B.mg ("repr" : Str) = none) (ha : PE X e (TX B E xe)) (he : starEach [e] X.env = (false, eval e X.env) :: starEach [] X.env) :
    PE X (.Call (.Name ("repr" : Str) p) [e] [] pos) (tCB (fun xs H Q => ∃ a p, xs = [.ref a] ∧ (∀ pins σ s, Inv X pins σ H s → ∃ as, Reads s.heap (.ref a) p as ∧ sysModules ∉ as) ∧ p.showable = true ∧ p.shown.length ≤ sizeLine ∧ p.depth ≤ 100 ∧ Q (.str p.shown) H) (tCons (TX B E xe) tNil)) := by
  have hu : X.A.units + 200 < cLine := by have := C.room.un; omega
  exact pe_callB (call_reprA hu (C.grd hgd)) (C.gl hg) (by rw [C.mg]; exact hm) rfl (pa_cons ha pa_nil he) (by decide) (by decide) he rfl
theorem two_rl {n : Bool} {f : Bool → Bool} (hK : X.K = B.K) (hS : ∃ o, B.K.lookup sysModules = some o) (hn : f true = Bool.rec (motive := fun _ => Bool) true false n) : ∀ σ H Q, TX B E (xEqR n xa xb) σ H Q →
    tOp (fun x y H Q => scal x y = true ∧ Q (.bl (f (decide (x = y)))) H) (tCB (fun xs H Q => ∃ a p, xs = [.ref a] ∧ (∀ pins σ s, Inv X pins σ H s → ∃ as, Reads s.heap (.ref a) p as ∧ sysModules ∉ as) ∧ p.showable = true ∧ p.shown.length ≤ sizeLine ∧ p.depth ≤ 100 ∧ Q (.str p.shown) H) (tCons (TX B E xa) tNil))
      (tCB (fun xs H Q => ∃ a p, xs = [.ref a] ∧ (∀ pins σ s, Inv X pins σ H s → ∃ as, Reads s.heap (.ref a) p as ∧ sysModules ∉ as) ∧ p.showable = true ∧ p.shown.length ≤ sizeLine ∧ p.depth ≤ 100 ∧ Q (.str p.shown) H) (tCons (TX B E xb) tNil)) σ H Q := fun σ H Q ⟨m, s, env, k, kx, ar, er, hx, hk, hkx⟩ => by
  refine ⟨m, s, env, _, kx, ar, er, hx, fun u m1 s1 H1 v p1 a1 r1 h => ?_, hkx⟩
  obtain ⟨a, xs, l, ev, q, rl, h2⟩ := lsI_ok a1 r1 h
  obtain ⟨c1, h3⟩ := grd_ok h2
  obtain ⟨ps, j1, j2, j3, j4, j5⟩ := list_ok hK a1 q rl c1 hS
  refine ⟨a, _, by rw [ev], j5, j2, j3, j4, ?_⟩
  refine ⟨m1, s1, env, _, kx, a1, er.post p1 ar, h3, fun u2 m2 s2 H2 v2 p2 a2 r2 h4 => ?_, hkx.post p1⟩
  obtain ⟨b, ys, l2, ev2, q2, rl2, h5⟩ := lsI_ok a2 r2 h4
  obtain ⟨c2, h6⟩ := grd_ok h5
  have el := eqGs_ok l l2 c2
  subst el
  obtain ⟨ps2, i1, i2, i3, i4, i5⟩ := list_ok hK a2 q2 rl2 c1 hS
  have e : ps2 = ps := by
    rw [mapO_congr (rds_nu (m' := m2) (s' := s2) rl p2.more.nu), j1] at i1
    exact (Option.some.inj i1).symm
  subst e
  refine ⟨b, _, by rw [ev2], i5, i2, i3, i4, rfl, ?_⟩
  rw [decide_eq_true rfl, hn]
  exact hk (.bl _) m2 s2 H2 _ (p1.trans p2) a2 rfl h6
theorem x_eqR (n : Bool) (C : Cok B c E X) (hgd : c.gd = true) (hg : c.sc.names.lookup ("repr" : Str) = some .globalImplicit) (hm : B.mg ("repr" : Str) = none) (hS : ∃ o, B.K.lookup sysModules = some o) (ha : PE X ea (TX B E xa)) (hb : PE X eb (TX B E xb))
    (he : starEach [ea] X.env = (false, eval ea X.env) :: starEach [] X.env) (he2 : starEach [eb] X.env = (false, eval eb X.env) :: starEach [] X.env) :
    PE X (.Compare (.Call (.Name ("repr" : Str) p) [ea] [] pos) [Bool.rec (motive := fun _ => CmpOp) .Eq .NotEq n] [.Call (.Name ("repr" : Str) p2) [eb] [] pos2] pos3) (TX B E (xEqR n xa xb)) := by
  cases n with
  | false => exact wkE (pe_cmpR op_eq (pe_rl C hgd hg hm ha he) (pe_rl C hgd hg hm hb he2) rfl) (two_rl (n := false) (f := fun b => b) C.K hS rfl)
  | true => exact wkE (pe_cmpR op_ne (pe_rl C hgd hg hm ha he) (pe_rl C hgd hg hm hb he2) rfl) (two_rl (n := true) (f := fun b => !b) C.K hS rfl)
theorem t_eqR (n : Bool) (C : Cok B c E X) (hgd : c.gd = true) (hg : c.sc.names.lookup ("repr" : Str) = some .globalImplicit) (hm : B.mg ("repr" : Str) = none) (hS : ∃ o, B.K.lookup sysModules = some o) (ha : PE X ea (TX B E xa)) (hb : PE X eb (TX B E xb))
    (he : starEach [ea] X.env = (false, eval ea X.env) :: starEach [] X.env) (he2 : starEach [eb] X.env = (false, eval eb X.env) :: starEach [] X.env) :
    PT X (.Compare (.Call (.Name ("repr" : Str) p) [ea] [] pos) [Bool.rec (motive := fun _ => CmpOp) .Eq .NotEq n] [.Call (.Name ("repr" : Str) p2) [eb] [] pos2] pos3) (TB B E (xEqR n xa xb)) := by
  cases n with
  | false => exact wkT (pt_cmpR op_eq (pe_rl C hgd hg hm ha he) (pe_rl C hgd hg hm hb he2) rfl) fun σ H Q h => two_rl (n := false) (f := fun b => b) C.K hS rfl σ H _ h
  | true => exact wkT (pt_cmpR op_ne (pe_rl C hgd hg hm ha he) (pe_rl C hgd hg hm hb he2) rfl) fun σ H Q h => two_rl (n := true) (f := fun b => !b) C.K hS rfl σ H _ h
end
end Ev
end
end

/-! part EvCF -/
section
set_option Elab.async false
set_option linter.all false
set_option maxRecDepth 100000
set_option maxHeartbeats 4000000
/-! EvCF: a dict's display whose values are rows of numbers; d[i] of such. -/
noncomputable section
namespace Ev
open PySem PySem.Spec PyProof.Rows L2

/-- (a tuple or a list, its numbers) -/
abbrev Rw := Bool × List Int
def rwH : Rw → HO
  | (true, l) => .tup (l.map V.int)
  | (false, l) => .lst (l.map V.int)
def rwD : Rw → D
  | (true, l) => .tup (l.map D.int)
  | (false, l) => .fl (l.map D.int)
def rwT (r : Rw) : TE := fun σ H Q => ∀ p, H p = none → Q (.ref p) (upd H p (rwH r))
def tInts (l : List Int) : TA := fun _ H K => K (l.map V.int) H
def intsOf : List Expr → Option (List Int)
  | [] => some []
  | .Constant (.int i) _ _ :: r => (intsOf r).map (i :: ·)
  | _ => none
theorem ints_pa {X : Cx} : ∀ {es : List Expr} {l : List Int}, intsOf es = some l → PA X es (tInts l)
  | [], _, h => by
    cases h
    exact pa_nil
  | .Constant (.int i) k p :: r, l, h => by
    obtain ⟨t, e1, e2⟩ := Option.map_eq_some_iff.mp (show (intsOf r).map (i :: ·) = some l from h)
    subst e2
    exact pa_cons (pe_int (i := i)) (ints_pa e1) rfl
  | .Constant .none _ _ :: _, _, h => by cases h
  | .Constant (.bool _) _ _ :: _, _, h => by cases h
  | .Constant (.str _) _ _ :: _, _, h => by cases h
  | .Constant (.bytes _) _ _ :: _, _, h => by cases h
  | .Constant (.float _) _ _ :: _, _, h => by cases h
  | .Constant (.complex _ _) _ _ :: _, _, h => by cases h
  | .Constant .ellipsis _ _ :: _, _, h => by cases h
def rwOf : Expr → Option Rw
  | .Tuple es _ _ => (intsOf es).map fun l => (true, l)
  | .List es _ => (intsOf es).map fun l => (false, l)
  | _ => none
theorem rw_pe {X : Cx} {e : Expr} {r : Rw} (h : rwOf e = some r) (hl : r.2.length ≤ 1000) : PE X e (rwT r) := by
  have hz : ∀ l : List Int, l.length ≤ 1000 → (l.map V.int).length ≤ sizeLine := fun l h => by rw [List.length_map, sizeLine_eq]; omega
  cases e <;> first | (cases h; done) | skip
  · rename_i es p
    obtain ⟨l, e1, e2⟩ := Option.map_eq_some_iff.mp (show (intsOf es).map (fun l => ((false, l) : Rw)) = some r from h)
    subst e2
    exact wkE (pe_lst (ints_pa e1)) fun σ H Q q => ⟨hz l hl, q⟩
  · rename_i es k p
    obtain ⟨l, e1, e2⟩ := Option.map_eq_some_iff.mp (show (intsOf es).map (fun l => ((true, l) : Rw)) = some r from h)
    subst e2
    exact wkE (pe_tup (ints_pa e1)) fun σ H Q q => ⟨hz l hl, q⟩
/-! ### the pairs -/
def trsOf (ps : List (Key × Rw)) : List (TE × TE) := ps.map fun p => (tC (kV p.1), rwT p.2)
inductive Gr : Hp → List (Key × Rw) → List (V × V) → Hp → Prop
  | nil {H} : Gr H [] [] H
  | cons {H H' q k r ps ws} : H q = none → Gr (upd H q (rwH r)) ps ws H' → Gr H ((k, r) :: ps) ((kV k, .ref q) :: ws) H'
theorem tPairs_of {σ : L2.St} : ∀ (ps : List (Key × Rw)) {H : Hp} {K : List (V × V) → Hp → Prop}, (∀ ws H', Gr H ps ws H' → K ws H') → tPairs (trsOf ps) σ H K
  | [], H, K, h => h [] H .nil
  | (k, r) :: ps, H, K, h => fun q hq => tPairs_of ps fun ws H' g => h _ _ (.cons hq g)
theorem gr_keep {H H' : Hp} {ps : List (Key × Rw)} {ws : List (V × V)} (g : Gr H ps ws H') : ∀ {a o}, H a = some o → H' a = some o := by
  induction g with
  | nil => exact fun h => h
  | cons hq _ ih => exact fun h => ih (by rw [upd_ne (ne_of_none h hq)]; exact h)
theorem upd_swap {H : Hp} {a b : Addr} {o u : HO} (h : a ≠ b) : upd (upd H a o) b u = upd (upd H b u) a o := by
  funext c
  unfold upd
  by_cases e : c = a
  · rw [if_pos e, if_neg (fun z => h (e.symm.trans z)), if_pos e]
  · rw [if_neg e, if_neg e]
theorem gr_swap {H H' : Hp} {ps : List (Key × Rw)} {ws : List (V × V)} (g : Gr H ps ws H') : ∀ {p o o'}, H p = some o → Gr (upd H p o') ps ws (upd H' p o') := by
  induction g with
  | nil => exact fun _ => .nil
  | @cons H H' q k r ps ws hq _ ih =>
    intro p o o' hp
    have ne : q ≠ p := fun z => by rw [z, hp] at hq; cases hq
    refine .cons (by rw [upd_ne ne]; exact hq) ?_
    rw [← upd_swap (o := rwH r) ne]
    exact ih (by rw [upd_ne (fun z => ne z.symm)]; exact hp)
theorem rds_ints {B : Bs} {m : Md} {s : S} {H : Hp} : ∀ l : List Int, RDws B m s H (l.map D.int) (l.map V.int)
  | [] => rfl
  | i :: l => ⟨.int i, l.map V.int, rfl, rfl, rds_ints l⟩
theorem gr_ar {B : Bs} {m : Md} {s : S} {H H' : Hp} {ps : List (Key × Rw)} {ws : List (V × V)} (g : Gr H ps ws H') : AR B m s H → AR B m s H' ∧ Post m s H m s H' ∧ ws.map (·.1) = ps.map (fun p => kV p.1) ∧ RDws B m s H' (ps.map fun p => rwD p.2) (ws.map (·.2)) := by
  induction g with
  | nil => exact fun ar => ⟨ar, .refl, rfl, rfl⟩
  | @cons H H' q k r ps ws hq _ ih =>
    intro ar
    have P := post_new (m := m) (s := s) (o := rwH r) hq
    have A := ar_new (o := rwH r) ar hq
    obtain ⟨A2, P2, e, rr⟩ := ih A
    refine ⟨A2, P.trans P2, by rw [List.map_cons, List.map_cons, e], .ref q, ws.map (·.2), rfl, P2.rd A ?_, rr⟩
    obtain ⟨t, l⟩ := r
    cases t with
    | true => exact ⟨q, l.map V.int, rfl, .inl (.inl upd_same), rds_ints l⟩
    | false => exact ⟨q, l.map V.int, rfl, upd_same, not_al ar hq, rds_ints l⟩
theorem valV_none {κ : Type} [DecidableEq κ] {kvs : List (κ × V)} {k : κ} (h : k ∉ kvs.map (·.1)) : valV kvs k = none := by
  induction kvs with
  | nil => rfl
  | cons p r ih =>
    rw [List.map_cons, List.mem_cons, not_or] at h
    rw [valV_neg (fun z => h.1 z.symm)]
    exact ih h.2
theorem merge_nodup : ∀ (kvs acc : List (Key × V)), ((acc ++ kvs).map (·.1)).Nodup → mergeK acc kvs = acc ++ kvs
  | [], acc, _ => by simp [mergeK]
  | (k, v) :: kvs, acc, h => by
    have hk : k ∉ acc.map (·.1) := fun z => by
      rw [List.map_append, List.nodup_append] at h
      exact h.2.2 k z k (by simp) rfl
    have e : mergeK acc ((k, v) :: kvs) = mergeK (putK acc k v) kvs := rfl
    rw [e, putK_new v (valV_none hk), merge_nodup kvs (acc ++ [(k, v)]) (by simpa using h)]
    simp
/-! ### the text -/
def keyOf : Option Expr → Option Key
  | some (.Constant (.int i) _ _) => some (.inl i)
  | some (.Constant (.str x) _ _) => some (.inr x)
  | _ => none
def pairsOf : List (Option Expr) → List Expr → Option (List (Key × Rw))
  | [], [] => some []
  | k :: ks, v :: vs => match keyOf k, rwOf v, pairsOf ks vs with
    | some k, some r, some ps => match Nat.ble r.2.length 1000 with
      | true => some ((k, r) :: ps)
      | false => none
    | _, _, _ => none
  | _, _ => none
def dispOf : Expr → Option (List (Key × Rw))
  | .Dict ks vs _ => match pairsOf ks vs with
    | some ps => match Nat.ble ps.length 15 && Nat.ble 1 ps.length && decide ((ps.map (·.1)).Nodup) with
      | true => some ps
      | false => none
    | none => none
  | _ => none
theorem key_pe {X : Cx} {o : Option Expr} {k : Key} (h : keyOf o = some k) : ∃ e, o = some e ∧ PE X e (tC (kV k)) := by
  unfold keyOf at h
  split at h
  · cases h
    exact ⟨_, rfl, pe_int⟩
  · cases h
    exact ⟨_, rfl, pe_str⟩
  · cases h
theorem pairs_pe {X : Cx} {pos : Pos} : ∀ {ks : List (Option Expr)} {vs : List Expr} {ps : List (Key × Rw)}, pairsOf ks vs = some ps → PPs X pos ks vs (trsOf ps) ∧ ks.all (·.isSome) = true ∧ ks.length = vs.length ∧ ks.length = ps.length
  | [], [], ps, h => by
    cases h
    exact ⟨pps_nil, rfl, rfl, rfl⟩
  | k :: ks, v :: vs, ps, h => by
    have h' : (match keyOf k, rwOf v, pairsOf ks vs with
      | some k, some r, some ps => match Nat.ble r.2.length 1000 with
        | true => some ((k, r) :: ps)
        | false => none
      | _, _, _ => none) = some ps := h
    split at h'
    · rename_i k' r ps' e1 e2 e3
      split at h'
      · rename_i e4
        cases h'
        obtain ⟨e, rfl, q⟩ := key_pe (X := X) e1
        obtain ⟨g1, g2, g3, g4⟩ := pairs_pe (X := X) (pos := pos) e3
        exact ⟨pps_cons q (rw_pe e2 (Nat.le_of_ble_eq_true e4)) g1, by rw [List.all_cons, g2]; rfl, by rw [List.length_cons, List.length_cons, g3], by rw [List.length_cons, List.length_cons, g4]⟩
      · cases h'
    · cases h'
  | [], _ :: _, _, h => by cases h
  | _ :: _, [], _, h => by cases h
theorem zip_of : ∀ (ps : List (Key × Rw)) (ws : List (V × V)), ws.map (·.1) = ps.map (fun p => kV p.1) → ws = ((ps.map (·.1)).zip (ws.map (·.2))).map (fun kv => (kV kv.1, kv.2))
  | [], [], _ => rfl
  | [], _ :: _, h => by cases h
  | _ :: _, [], h => by cases h
  | p :: ps, w :: ws, h => by
    rw [List.map_cons, List.map_cons, List.cons.injEq] at h
    rw [List.map_cons, List.map_cons, List.zip_cons_cons, List.map_cons, ← zip_of ps ws h.2, ← h.1]
def xDsp (ps : List (Key × Rw)) : XE := fun _ s k _ => k (.fd (ps.map (·.1)) (ps.map fun p => rwD p.2)) s
theorem x_dsp {B : Bs} {E : XK} {X : Cx} {e : Expr} {ps : List (Key × Rw)} (h : dispOf e = some ps) : PE X e (TX B E (xDsp ps)) := by
  unfold dispOf at h
  split at h
  · rename_i ks vs pos
    split at h
    · rename_i ps' e1
      split at h
      · rename_i e2
        cases h
        simp only [Bool.and_eq_true, decide_eq_true_eq] at e2
        obtain ⟨⟨c1, c2⟩, c3⟩ := e2
        have c1 := Nat.le_of_ble_eq_true c1
        have c2 := Nat.le_of_ble_eq_true c2
        obtain ⟨g1, g2, g3, g4⟩ := pairs_pe (X := X) (pos := pos) e1
        refine wkE (pe_disp g1 g2 g3 (fun z => by rw [z] at g4; simp at g4; omega) (by omega)) fun σ H Q ⟨m, s, env, k, kx, ar, er, hx, hk, hkx⟩ => fun p hp => tPairs_of ps fun ws H' g => ?_
        have hpp : upd H p (.dK []) p = some (.dK []) := upd_same
        obtain ⟨_, _, e3, _⟩ := gr_ar g (ar_new (o := .dK []) ar hp)
        have hlen : ps.length = ws.length := by simpa using (congrArg List.length e3).symm
        have hk1 : ((ps.map (·.1)).zip (ws.map (·.2))).map (·.1) = ps.map (·.1) := List.map_fst_zip (by simp [hlen])
        refine ⟨gr_keep g hpp, (ps.map (·.1)).zip (ws.map (·.2)), zip_of ps ws e3, by simp [List.length_zip]; omega, ?_⟩
        rw [merge_nodup _ [] (by rw [List.nil_append, hk1]; exact c3), List.nil_append]
        have g5 := gr_swap (o' := .dK ((ps.map (·.1)).zip (ws.map (·.2)))) g hpp
        rw [upd_upd] at g5
        have P := post_new (m := m) (s := s) (o := .dK ((ps.map (·.1)).zip (ws.map (·.2)))) hp
        obtain ⟨A2, P2, _, rr⟩ := gr_ar g5 (ar_new ar hp)
        have hx' : k (.fd (ps.map (fun p => p.1)) (ps.map fun p => rwD p.2)) s = true := hx
        have R : RDw B m s _ (.fd (ps.map (fun p => p.1)) (ps.map fun p => rwD p.2)) (.ref p) := ⟨p, rfl, not_al ar hp, .inr ⟨ws.map (fun p => p.2), upd_same, by simp [hlen], rr⟩⟩
        exact hk _ m s _ _ (P.trans P2) A2 R hx'
      · cases h
    · cases h
  · cases h
/-! ### d[i] -/
def getK (ks : List Key) (vs : List D) (i : Int) (k : D → Bool) : Bool := match ks, vs with
  | .inl j :: ks, v :: vs => Bool.rec (motive := fun _ => Bool) (getK ks vs i k) (k v) (iEq j i)
  | .inr _ :: ks, _ :: vs => getK ks vs i k
  | _, _ => false
def xDg (a b : XE) : XE := fun e s k x => a e s (fun u s1 => b e s1 (fun v s2 => match u with
  | .fd ks vs => asI v fun i => getK ks vs i fun d => k d s2
  | _ => false) x) x
theorem getK_ok {B : Bs} {m : Md} {s : S} {H : Hp} : ∀ {ks : List Key} {vs : List D} {ws : List V} {i : Int} {k : D → Bool}, RDws B m s H vs ws → ks.length = ws.length → getK ks vs i k = true → ∃ d w, valV (ks.zip ws) (.inl i : Key) = some w ∧ RDw B m s H d w ∧ k d = true
  | .inl j :: ks, v :: vs, ws, i, k, ⟨x, t, e, r1, r2⟩, hl, h => by
    subst e
    have h' : Bool.rec (motive := fun _ => Bool) (getK ks vs i k) (k v) (iEq j i) = true := by simpa only [getK] using h
    cases c : iEq j i with
    | true =>
      rw [c] at h'
      rw [iEq_eq, decide_eq_true_eq] at c
      subst c
      exact ⟨v, x, valV_pos rfl, r1, h'⟩
    | false =>
      rw [c] at h'
      have ne : ¬ (Sum.inl j : Key) = Sum.inl i := fun z => by
        rw [iEq_eq, decide_eq_false_iff_not] at c
        exact c (Sum.inl.inj z)
      obtain ⟨d, w, q1, q2, q3⟩ := getK_ok (ks := ks) r2 (by simpa using hl) h'
      exact ⟨d, w, by rw [List.zip_cons_cons, valV_neg ne]; exact q1, q2, q3⟩
  | .inr j :: ks, v :: vs, ws, i, k, ⟨x, t, e, r1, r2⟩, hl, h => by
    subst e
    have h' : getK ks vs i k = true := by simpa only [getK] using h
    obtain ⟨d, w, q1, q2, q3⟩ := getK_ok (ks := ks) r2 (by simpa using hl) h'
    have ne : ¬ (Sum.inr j : Key) = Sum.inl i := fun z => by cases z
    exact ⟨d, w, by rw [List.zip_cons_cons, valV_neg ne]; exact q1, q2, q3⟩
  | [], _, _, _, _, _, _, h => by simp [getK] at h
  | .inl _ :: _, [], _, _, _, _, _, h => by simp [getK] at h
  | .inr _ :: _, [], _, _, _, _, _, h => by simp [getK] at h
section
variable {B : Bs} {c : SI} {E : XK} {X : Cx} {ea eb : Expr} {pos : Pos} {xa xb : XE}
theorem x_dg (C : Cok B c E X) (ha : PE X ea (TX B E xa)) (hb : PE X eb (TX B E xb)) (hs : NoSl eb) : PE X (.Subscript ea eb pos) (TX B E (xDg xa xb)) := by
  refine wkE (pe_dget (by have := C.room.units; omega) ha hb hs) fun σ H Q ⟨m, s, env, k, kx, ar, er, hx, hk, hkx⟩ => ?_
  refine (show tOp (fun x y H2 Q => ∃ a v, x = .ref a ∧ DGet H2 a y (some v) ∧ Q v H2) (TX B E xa) (TX B E xb) σ H Q from two ar er hx hkx fun u v m1 s1 H1 m2 s2 H2 x y p1 p2 a1 a2 r1 r2 h => ?_)
  cases u <;> first | exact ff h | skip
  rename_i ks vs
  obtain ⟨i, ev, h2⟩ := asI_ok (show asI v _ = true from h)
  subst ev
  cases r2
  obtain ⟨a, ex, n, hh⟩ := p2.rd a1 r1
  rcases hh with ⟨e1, e2, _⟩ | ⟨ws, q, hl, rl⟩
  · subst e1 e2
    simp [getK] at h2
  · obtain ⟨d, w, q1, q2, q3⟩ := getK_ok rl hl h2
    refine ⟨a, w, ex, ?_, hk d m2 s2 H2 w (p1.trans p2) a2 q2 q3⟩
    have g := DGet.k (k := (.inl i : Key)) q
    rw [q1] at g
    exact g
end
end Ev
end
end

/-! part EvS -/
section
set_option Elab.async false
set_option linter.all false
set_option maxRecDepth 100000
set_option maxHeartbeats 4000000
/-! EvS: terms, what they mean, what text they are of: expressions. -/
noncomputable section
namespace Ev
open PySem PySem.Spec PyProof.Rows L2

mutual
inductive IG where
  | nm (i : Nat) | tp (n : Nat) (l : IGs)
inductive IGs where
  | nil | cons (g : IG) (r : IGs)
end
mutual
inductive IE where
  | var (i : Nat) | con (d : D) | glo (i : Nat)
  | bin (o : Bop) (a b : IE) | add (a b : IE) | mul (a b : IE) | neg (a : IE)
  | cmp (o : Cop) (a b : IE) | ch (o p : Cop) (a b c : IE) | eq (n : Bool) (a b : IE) | is (n : Bool) (o : Option Bool) (a : IE) | inn (n : Bool) (a b : IE)
  | and_ (a b : IE) | or_ (a b : IE) | not_ (a : IE) | ite (c a b : IE)
  | tup (l : IA) | lst (l : IA) | call (f : Nat) (l : IA) | ix (a b : IE) | sl (a : IE) (bl bh : Bool) (lo hi : IE)
  | bt (n : Nat) (l : IA) | isi (n : Nat) (a : IE) | bits (a : IE) | mt (n : Nat) (a : IE) (l : IA)
  | lc (i : II) (g : IG) (t el : IE) (own : List (Str × Nat)) (tr : Bool)
  | met (b : IE) | dic (t : Bool) | mml (i K : Nat) | repr (a : IE)
  | lsf (l : IA) | adf (a b : IE) | dicf | catr (w : Str) (a : IE) | kd (j : Nat) (a : IE) | metD (b : IE) | abs (i : Nat) (a : IE)
  | nope | frz (a : IE) | rev (a : IE) | pop (a : IE) | lset (a : IE) | lc2 (i : II) (g : IG) (q : IE) (i1 : II) (g1 : IG) (q1 el : IE) (own : List (Str × Nat)) (vs1 : List Nat) (tr : Bool)
  | idx (t : Bool) (a b : IE) | tmd (l : IA)
  | exn (i : Nat) (a : IE) | isx (j : Nat) (a : IE) | fld (n : Str) (a : IE) | eqr (n : Bool) (a b : IE) | dsp (ps : List (Key × Rw)) | dg (a b : IE)
inductive IA where
  | nil | cons (e : IE) (r : IA) | star (e : IE) (r : IA)
inductive II where
  | seq (e : IE) | rg1 (a : IE) | rg2 (a b : IE) | zip (a b : IE) | enum (a : IE)
end
/-- what the terms lean on -/
structure Tb where
  T : Nat → XF
  ft : List (Str × Nat × Bool)
  gt : List (Str × D)
  bl : List Str
  mn : Str
  mz : Nat
  mc : List (Nat × HK)
  mf : HK
  ec : List (Str × Bool)
  kt : List (Str × List (Str × Int)) := []
  kl : List (List D) := []
  ix : List (Str × List Bool) := []
  fl : List Str := []
  sys : Bool := false
/-- built-ins: 0 len, 1 abs, 2 int, 3 max, 4 min, 5 tuple, 6 list, 7 all, 8 any, 9 sum -/
def bfn (n : Nat) : BG := match n with
  | 0 => bLen | 1 => bAbs | 2 => bInt | 3 => bMax | 4 => bMin | 5 => bTup | 6 => bLst | 7 => bAll | 8 => bAny | 9 => bSum | 10 => bSrt | 11 => bTupM | _ => fun _ _ _ => false
def bnm (n : Nat) : Str := match n with
  | 0 => "len" | 1 => "abs" | 2 => "int" | 3 => "max" | 4 => "min" | 5 => "tuple" | 6 => "list" | 7 => "all" | 8 => "any" | 9 => "sum" | 10 => "sorted" | 11 => "tuple" | _ => ""
def mfn (n : Nat) : MG := match n with
  | 0 => mApp | 1 => mExt | 2 => mIns | _ => fun _ _ _ _ => false
def mnm (n : Nat) : Str := match n with
  | 0 => "append" | 1 => "extend" | 2 => "insert" | _ => ""
mutual
def denG : IG → XG
  | .nm i => gNm i
  | .tp n l => gTp n (denGs l)
def denGs : IGs → XGs
  | .nil => gsNil
  | .cons g r => gsCons (denG g) (denGs r)
end
mutual
/-- the slots that a target sets -/
def slG : IG → List Nat
  | .nm i => [i]
  | .tp _ l => slGs l
def slGs : IGs → List Nat
  | .nil => []
  | .cons g r => slG g ++ slGs r
end
mutual
def den (t : Tb) : IE → XE
  | .var i => xV i
  | .con d => xK d
  | .glo i => match t.gt[i]? with
    | some (_, d) => xK d
    | none => fun _ _ _ _ => false
  | .bin o a b => xBin o (den t a) (den t b)
  | .add a b => xAdd (den t a) (den t b)
  | .mul a b => xMul (den t a) (den t b)
  | .neg a => xNeg (den t a)
  | .cmp o a b => xCmp o (den t a) (den t b)
  | .ch o p a b c => xCh o p (den t a) (den t b) (den t c)
  | .eq n a b => xEq n (den t a) (den t b)
  | .is n o a => xIs n o (den t a)
  | .inn n a b => xIn n (den t a) (den t b)
  | .and_ a b => xAnd (den t a) (den t b)
  | .or_ a b => xOr (den t a) (den t b)
  | .not_ a => xNot (den t a)
  | .ite c a b => xIte (den t c) (den t a) (den t b)
  | .tup l => xTupS (denA t l)
  | .lst l => xLstS (denA t l)
  | .call f l => xCall (t.T f) (denA t l)
  | .ix a b => xIx (den t a) (den t b)
  | .sl a bl bh lo hi => xSl (den t a) (Bool.rec oNo (oSm (den t lo)) bl) (Bool.rec oNo (oSm (den t hi)) bh)
  | .bt n l => xBt (bfn n) (denA t l)
  | .isi n a => xIsi n (den t a)
  | .bits a => xBits (den t a)
  | .mt n a l => xMt (mfn n) (den t a) (denA t l)
  | .lc i g c el own tr => xLc (denI t i) (denG g) (den t c) (den t el) (own.map (·.2)) tr
  | .met b => xMet t.mz t.mc t.mf (den t b)
  | .dic b => xDic b
  | .mml i K => xMml i K
  | .repr a => xRepr (den t a)
  | .lsf l => xLsF (denA t l)
  | .adf a b => xAdF (den t a) (den t b)
  | .dicf => xDicF
  | .catr w a => xCatR w (den t a)
  | .kd j a => match t.kt[j]? with
    | some (_, l) => xKd l (den t a)
    | none => fun _ _ _ _ => false
  | .metD b => xMet t.mz t.mc t.mf (den t b)
  | .abs i a => xAbs i (t.kl.getD i []) (den t a)
  | .nope => xNo
  | .frz a => xFz (den t a)
  | .rev a => xRev (den t a)
  | .pop a => xPop (den t a)
  | .lset a => xLset (den t a)
  | .lc2 i g q i1 g1 q1 el own vs1 tr => xLc2 (denI t i) (denG g) (den t q) (denI t i1) (denG g1) (den t q1) (den t el) (own.map (·.2)) vs1 tr
  | .idx tt a b => xIdx tt (den t a) (den t b)
  | .tmd l => xTupM (denA t l)
  | .exn i a => match t.ec[i]? with
    | some (_, true) => xExK i (den t a)
    | some (_, false) => xExP i (den t a)
    | none => fun _ _ _ _ => false
  | .isx j a => match t.ix[j]? with
    | some (_, l) => xIsx l (den t a)
    | none => fun _ _ _ _ => false
  | .fld n a => xFld t.fl n (den t a)
  | .eqr n a b => xEqR n (den t a) (den t b)
  | .dsp ps => xDsp ps
  | .dg a b => xDg (den t a) (den t b)
def denA (t : Tb) : IA → XA
  | .nil => aNil
  | .cons e r => aCons (den t e) (denA t r)
  | .star e r => aStar (den t e) (denA t r)
def denI (t : Tb) : II → XI
  | .seq e => iSeq (den t e)
  | .rg1 a => iRg1 (den t a)
  | .rg2 a b => iRg2 (den t a) (den t b)
  | .zip a b => iZp (den t a) (den t b)
  | .enum a => iEn (den t a)
end

/-! ### the text of a term -/
def bopOf : Bop → Operator → Bool
  | .sub, .Sub => true
  | .fdiv, .FloorDiv => true
  | .mod, .Mod => true
  | .pow, .Pow => true
  | .shl, .LShift => true
  | _, _ => false
def copIs (o : Cop) (p : CmpOp) : Bool := match o, p with
  | .lt, .Lt => true | .le, .LtE => true | .gt, .Gt => true | .ge, .GtE => true | _, _ => false
theorem copIs_ok {o : Cop} {p : CmpOp} (h : copIs o p = true) : copOf p = some o := by
  cases o <;> cases p <;> first | rfl | cases h
/-- a constant of the text -/
def conIs (d : D) (c : Const) : Bool := match d, c with
  | .non, .none => true
  | .bl a, .bool b => Bool.rec (Bool.rec true false b) b a
  | .int i, .int j => iEq i j
  | .str x, .str y => strE x y
  | _, _ => false
mutual
def chkG (c : SI) : IG → Expr → Bool
  | .nm i, .Name x _ => nAt c i x && isW c x
  | .tp n l, .Tuple es _ _ => Nat.beq es.length n && !es.any isStar && chkGs c l es
  | _, _ => false
def chkGs (c : SI) : IGs → List Expr → Bool
  | .nil, [] => true
  | .cons g r, e :: es => chkG c g e && !isStar e && chkGs c r es
  | _, _ => false
end
def inBl (t : Tb) (x : Str) : Bool := t.bl.any fun y => strE y x
def oIs : Option Bool → Const → Bool
  | some true, .bool true => true
  | some false, .bool false => true
  | none, .none => true
  | _, _ => false
/-- no parameter -/
def noPar : Arguments → Bool
  | ⟨[], [], none, [], [], none, []⟩ => true
  | _ => false
def callOf : Expr → Option (Str × List Expr)
  | .Call (.Name x _) es [] _ => some (x, es)
  | _ => none
theorem callOf_ok {e : Expr} {x : Str} {es : List Expr} (h : callOf e = some (x, es)) : ∃ p q, e = .Call (.Name x p) es [] q := by
  unfold callOf at h
  split at h
  · cases h
    exact ⟨_, _, rfl⟩
  · cases h
def intOf : Expr → Option Int
  | .Constant (.int i) _ _ => some i
  | _ => none
theorem intOf_ok {e : Expr} {i : Int} (h : intOf e = some i) : ∃ k p, e = .Constant (.int i) k p := by
  unfold intOf at h
  split at h
  · cases h
    exact ⟨_, _, rfl⟩
  · cases h
def nmOf : Expr → Option Str
  | .Name x _ => some x
  | _ => none
theorem nmOf_ok {e : Expr} {x : Str} (h : nmOf e = some x) : ∃ p, e = .Name x p := by
  unfold nmOf at h
  split at h
  · cases h
    exact ⟨_, rfl⟩
  · cases h
def mmlB (t : Tb) (c : SI) (i K : Nat) (e : Expr) : Bool := match callOf e with
  | some (x, [a, b]) => (match intOf a, callOf b with
    | some j, some (y, [d, f]) => (match intOf d, callOf f with
      | some l, some (z, [g]) => (match nmOf g with
        | some v => iEq j 1 && iEq l (Int.ofNat K) && strE x "max" && strE y "min" && strE z "len" && isG c x && isG c y && isG c z && inBl t x && inBl t y && inBl t z && nAt c i v && isV c v && notD v
        | none => false)
      | _, _ => false)
    | _, _ => false)
  | _ => false
/-- x(lambda d=i: body) -/
def lamOf : Expr → Option (Str × Str × Expr × Scope)
  | .Call (.Name x _) [.Lambda ⟨[], [a0], none, [], [], none, [.Constant (.int _) _ _]⟩ body scope _] [] _ => some (x, a0.arg, body, scope)
  | _ => none
theorem lamOf_ok {e : Expr} {x d : Str} {body : Expr} {scope : Scope} (h : lamOf e = some (x, d, body, scope)) : ∃ (a0 : Arg) (i0 : Int) (k0 : Nat) (p0 p lp pos : Pos), e = .Call (.Name x p) [.Lambda ⟨[], [a0], none, [], [], none, [.Constant (.int i0) k0 p0]⟩ body scope lp] [] pos ∧ a0.arg = d := by
  unfold lamOf at h
  split at h
  · cases h
    exact ⟨_, _, _, _, _, _, _, rfl, rfl⟩
  · cases h
def isTupE : Expr → Bool
  | .Tuple .. => true
  | _ => false
/-- e[::-1] -/
def revOf : Expr → Option Expr
  | .Subscript e (.Slice none none (some (.UnaryOp .USub (.Constant (.int i) _ _) _)) _) _ => Bool.rec none (some e) (iEq i 1)
  | _ => none
theorem revOf_ok {e x : Expr} (h : revOf e = some x) : ∃ k p1 p2 p3 p, e = .Subscript x (.Slice none none (some (.UnaryOp .USub (.Constant (.int 1) k p1) p2)) p3) p := by
  unfold revOf at h
  split at h
  · rename_i i _ _ _ _ _
    cases q : iEq i 1 with
    | false => rw [q] at h; cases h
    | true =>
      rw [q] at h
      rw [iEq_eq, decide_eq_true_eq] at q
      subst q
      cases h
      exact ⟨_, _, _, _, _, rfl⟩
  · cases h
/-- o.x() -/
def m0Of : Expr → Option (Expr × Str × Pos × Pos)
  | .Call (.Attribute e x p) [] [] q => some (e, x, p, q)
  | _ => none
theorem m0Of_ok {e o : Expr} {x : Str} {p q : Pos} (h : m0Of e = some (o, x, p, q)) : e = .Call (.Attribute o x p) [] [] q := by
  unfold m0Of at h
  split at h
  · cases h
    rfl
  · cases h
/-- o.x(a) -/
def m1Of : Expr → Option (Expr × Str × Pos × Expr × Pos)
  | .Call (.Attribute e x p) [f] [] q => some (e, x, p, f, q)
  | _ => none
theorem m1Of_ok {e o f : Expr} {x : Str} {p q : Pos} (h : m1Of e = some (o, x, p, f, q)) : e = .Call (.Attribute o x p) [f] [] q := by
  unfold m1Of at h
  split at h
  · cases h
    rfl
  · cases h
def tupOf : Expr → Option (List Expr × Bool)
  | .Tuple es k p => some (es, true)
  | _ => none
theorem tupOf_ok {e : Expr} {es : List Expr} {b : Bool} (h : tupOf e = some (es, b)) : ∃ k p, e = .Tuple es k p := by
  unfold tupOf at h
  split at h
  · cases h
    exact ⟨_, _, rfl⟩
  · cases h
/-- isinstance(e, y) -/
def isxOf : Expr → Option (Str × Expr × Str)
  | .Call (.Name x _) [e, .Name y _] [] _ => some (x, e, y)
  | _ => none
theorem isxOf_ok {e f : Expr} {x y : Str} (h : isxOf e = some (x, f, y)) : ∃ p q r, e = .Call (.Name x p) [f, .Name y q] [] r := by
  unfold isxOf at h
  split at h
  · cases h
    exact ⟨_, _, _, rfl⟩
  · cases h
/-- e.x -/
def attOf : Expr → Option (Expr × Str)
  | .Attribute e x _ => some (e, x)
  | _ => none
theorem attOf_ok {e f : Expr} {x : Str} (h : attOf e = some (f, x)) : ∃ p, e = .Attribute f x p := by
  unfold attOf at h
  split at h
  · cases h
    exact ⟨_, rfl⟩
  · cases h
/-- x(a) == y(b), x(a) != y(b) -/
def eqrOf : Expr → Option (Bool × Str × Expr × Str × Expr)
  | .Compare (.Call (.Name x _) [a] [] _) [.Eq] [.Call (.Name y _) [b] [] _] _ => some (false, x, a, y, b)
  | .Compare (.Call (.Name x _) [a] [] _) [.NotEq] [.Call (.Name y _) [b] [] _] _ => some (true, x, a, y, b)
  | _ => none
theorem eqrOf_ok {e a b : Expr} {n : Bool} {x y : Str} (h : eqrOf e = some (n, x, a, y, b)) : ∃ p1 p2 p3 p4 p5, e = .Compare (.Call (.Name x p1) [a] [] p2) [Bool.rec (motive := fun _ => CmpOp) .Eq .NotEq n] [.Call (.Name y p3) [b] [] p4] p5 := by
  unfold eqrOf at h
  split at h
  · cases h
    exact ⟨_, _, _, _, _, rfl⟩
  · cases h
    exact ⟨_, _, _, _, _, rfl⟩
  · cases h
/-- rows, alike -/
def eqIs : List Int → List Int → Bool
  | [], [] => true
  | i :: l, j :: r => iEq i j && eqIs l r
  | _, _ => false
def eqPs : List (Key × Rw) → List (Key × Rw) → Bool
  | [], [] => true
  | (k, t, l) :: p, (k2, t2, l2) :: q => eqKs [k] [k2] && (t == t2) && eqIs l l2 && eqPs p q
  | _, _ => false
theorem eqIs_ok : ∀ (a b : List Int), eqIs a b = true → a = b
  | [], [], _ => rfl
  | i :: l, j :: r, h => by
    have h' : (iEq i j && eqIs l r) = true := by simpa only [eqIs] using h
    obtain ⟨h1, h2⟩ := Bool.and_eq_true_iff.mp h'
    rw [iEq_eq, decide_eq_true_eq] at h1
    rw [h1, eqIs_ok l r h2]
  | [], _ :: _, h => by simp [eqIs] at h
  | _ :: _, [], h => by simp [eqIs] at h
theorem eqPs_ok : ∀ (a b : List (Key × Rw)), eqPs a b = true → a = b
  | [], [], _ => rfl
  | (k, t, l) :: p, (k2, t2, l2) :: q, h => by
    have h' : (eqKs [k] [k2] && (t == t2) && eqIs l l2 && eqPs p q) = true := by simpa only [eqPs] using h
    simp only [Bool.and_eq_true] at h'
    obtain ⟨⟨⟨h1, h2⟩, h3⟩, h4⟩ := h'
    have e1 := List.cons.inj (eqKs_ok h1)
    rw [e1.1, beq_iff_eq.mp h2, eqIs_ok _ _ h3, eqPs_ok p q h4]
  | [], _ :: _, h => by simp [eqPs] at h
  | _ :: _, [], h => by simp [eqPs] at h
/-- two clauses -/
def lc2Of : Expr → Option (Expr × Expr × Expr × List Expr × Expr × Expr × List Expr × Scope × Pos)
  | .ListComp elt [⟨tg, iter, ifs, 0⟩, ⟨tg1, iter1, ifs1, 0⟩] scope pos => some (elt, tg, iter, ifs, tg1, iter1, ifs1, scope, pos)
  | _ => none
theorem lc2Of_ok {e elt tg iter tg1 iter1 : Expr} {ifs ifs1 : List Expr} {scope : Scope} {pos : Pos} (h : lc2Of e = some (elt, tg, iter, ifs, tg1, iter1, ifs1, scope, pos)) : e = .ListComp elt [⟨tg, iter, ifs, 0⟩, ⟨tg1, iter1, ifs1, 0⟩] scope pos := by
  unfold lc2Of at h
  split at h
  · cases h
    rfl
  · cases h
def isTrueC : IE → Bool
  | .con (.bl true) => true
  | _ => false
mutual
def chk (t : Tb) (c : SI) : IE → Expr → Bool
  | .var i, .Name x _ => nAt c i x && isV c x && notD x
  | .con d, .Constant k _ _ => conIs d k
  | .con (.ty _), .Name _ _ => false
  | .glo i, .Name x _ => isG c x && match t.gt[i]? with
    | some (y, _) => strE y x
    | none => false
  | .bin o a b, .BinOp l op r _ => bopOf o op && chk t c a l && chk t c b r
  | .add a b, .BinOp l .Add r _ => chk t c a l && chk t c b r
  | .mul a b, .BinOp l .Mult r _ => chk t c a l && chk t c b r
  | .neg a, .UnaryOp .USub e _ => chk t c a e
  | .cmp o a b, .Compare l [op] [r] _ => copIs o op && chk t c a l && chk t c b r
  | .ch o p a b d, .Compare l [op, op2] [r, r2] _ => copIs o op && copIs p op2 && chk t c a l && chk t c b r && chk t c d r2
  | .eq false a b, .Compare l [.Eq] [r] _ => chk t c a l && chk t c b r
  | .eq true a b, .Compare l [.NotEq] [r] _ => chk t c a l && chk t c b r
  | .is false o a, .Compare l [.Is] [.Constant k _ _] _ => oIs o k && chk t c a l
  | .is true o a, .Compare l [.IsNot] [.Constant k _ _] _ => oIs o k && chk t c a l
  | .inn false a b, .Compare l [.In] [r] _ => !isSet r && chk t c a l && chk t c b r
  | .inn true a b, .Compare l [.NotIn] [r] _ => !isSet r && chk t c a l && chk t c b r
  | .and_ a b, .BoolOp .And (e :: e2 :: es) p => chk t c a e && match es with
    | [] => chk t c b e2
    | _ :: _ => chk t c b (.BoolOp .And (e2 :: es) p)
  | .or_ a b, .BoolOp .Or (e :: e2 :: es) p => chk t c a e && match es with
    | [] => chk t c b e2
    | _ :: _ => chk t c b (.BoolOp .Or (e2 :: es) p)
  | .not_ a, .UnaryOp .Not e _ => chk t c a e
  | .ite q a b, .IfExp e l r _ => chk t c q e && chk t c a l && chk t c b r
  | .tup l, .Tuple es _ _ => chkA t c l es
  | .lst l, .List es _ => chkA t c l es
  | .call f l, .Call (.Name x _) es [] _ => isG c x && notD x && chkA t c l es && (match t.ft[f]? with
    | some (y, lv, g) => strE y x && Nat.ble lv c.k && (!g || c.gd)
    | none => false) && (match es with
    | [] => true
    | [_] => true
    | e :: _ => !isStar e)
  | .ix a b, .Subscript e f _ => !isSlice f && chk t c a e && chk t c b f
  | .sl a bl bh lo hi, .Subscript e (.Slice l h none _) _ => chk t c a e && (match bl, l with
    | true, some l => chk t c lo l
    | false, none => true
    | _, _ => false) && (match bh, h with
    | true, some h => chk t c hi h
    | false, none => true
    | _, _ => false)
  | .bt n l, .Call (.Name x _) (e :: es) [] _ => isG c x && Nat.blt n 12 && strE x (bnm n) && inBl t x && !isStar e && !es.any isStar && chkA t c l (e :: es)
  | .isi n a, .Call (.Name x _) [e, .Name y _] [] _ => isG c x && isG c y && strE x "isinstance" && strE y (nmT n) && inBl t x && inBl t y && Nat.blt 0 n && Nat.blt n 7 && !isStar e && chk t c a e
  | .bits a, .Call (.Attribute e x p) [] [] q => strE x "bit_length" && !isCallE e && Nat.beq p.endLine q.line && chk t c a e
  | .mt n a l, .Call (.Attribute e x p) (f :: es) [] q => Nat.blt n 3 && strE x (mnm n) && !isCallE e && Nat.beq p.endLine q.line && !isStar f && !es.any isStar && Nat.blt es.length 20 && chk t c a e && chkA t c l (f :: es)
  | .lc i g q el own tr, .ListComp elt [⟨tg, iter, ifs, 0⟩] scope _ => blkC c.N c.sc scope own && chkI t c (isTupE tg) i iter && !isSet iter && chkG (c.blk scope) g tg && (slG g).all (fun i => (own.map (·.2)).any (Nat.beq i)) && chk t (c.blk scope) el elt && (match ifs with
    | [] => (match q with | .con (.bl true) => true | _ => false)
    | [e] => chk t (c.blk scope) q e
    | _ => false)
  | .met b, .Call (.Name x _) [.Lambda ps body scope _] [] _ => isG c x && strE x t.mn && !strE x "" && c.lm && Nat.ble 2 c.k && LamX.lamSB c.sc scope && noPar ps && (!(t.mc.any fun q => isR q.2) || c.gd) && chk t ⟨c.N, scope, c.k - 2, false, fun _ => false, false⟩ b body
  | .dic _, .Dict [] [] _ => true
  | .mml i K, e => mmlB t c i K e
  | .lsf l, .List es _ => chkA t c l es
  | .adf a b, .BinOp l .Add r _ => chk t c a l && chk t c b r
  | .dicf, .Dict [] [] _ => true
  | .catr w a, .BinOp (.Constant (.str z) _ _) .Add (.Call (.Name x _) [e] [] _) _ => strE w z && isG c x && strE x "repr" && inBl t x && c.gd && !isStar e && chk t c a e
  | .kd j a, .Subscript (.Name x _) f _ => isG c x && !isSlice f && (match t.kt[j]? with
    | some (y, _) => strE y x
    | none => false) && chk t c a f
  | .metD b, e => (match lamOf e with
    | some (x, d, body, scope) => isG c x && strE x t.mn && !strE x "" && c.lm && Nat.ble 2 c.k && lamDB c.N c.sc scope d && (!(t.mc.any fun q => isR q.2) || c.gd) && chk t ⟨c.N, scope, c.k - 2, false, fun _ => false, false⟩ b body
    | none => false)
  | .abs _ a, e => isPlainT e && chk t c a e
  | .nope, _ => true
  | .frz a, e => isPlainT e && chk t c a e
  | .rev a, e => (match revOf e with
    | some x => chk t c a x
    | none => false)
  | .pop a, e => (match m0Of e with
    | some (o, x, p, q) => strE x "pop" && !isCallE o && Nat.beq p.endLine q.line && chk t c a o
    | none => false)
  | .idx _ a b, e => (match m1Of e with
    | some (o, x, p, f, q) => strE x "index" && !isCallE o && Nat.beq p.endLine q.line && !isStar f && chk t c a o && chk t c b f
    | none => false)
  | .exn i a, e => (match callOf e with
    | some (x, [f]) => (match t.ec[i]? with
      | some (y, k) => strE y x && isG c x && (!k || Nat.ble 1 c.k) && !isStar f && chk t c a f
      | none => false)
    | _ => false)
  | .isx j a, e => (match isxOf e with
    | some (x, f, y) => (match t.ix[j]? with
      | some (z, _) => strE x "isinstance" && strE z y && isG c x && isG c y && inBl t x && !isStar f && chk t c a f
      | none => false)
    | none => false)
  | .fld n a, e => (match attOf e with
    | some (f, x) => strE x n && !isCallE f && !t.fl.isEmpty && chk t c a f
    | none => false)
  | .eqr n a b, e => (match eqrOf e with
    | some (n2, x, f, y, g) => (n2 == n) && strE x "repr" && strE y "repr" && isG c x && inBl t x && c.gd && t.sys && !isStar f && !isStar g && chk t c a f && chk t c b g
    | none => false)
  | .dsp ps, e => (match dispOf e with
    | some qs => eqPs qs ps
    | none => false)
  | .dg a b, .Subscript e f _ => !isSlice f && chk t c a e && chk t c b f
  | .tmd l, e => (match tupOf e with
    | some (es, _) => chkA t c l es
    | none => false)
  | .lset a, e => (match callOf e with
    | some (x, [f]) => (match callOf f with
      | some (y, [g]) => isG c x && isG c y && strE x "len" && strE y "set" && inBl t x && inBl t y && !isStar g && chk t c a g
      | _ => false)
    | _ => false)
  | .lc2 i g q i1 g1 q1 el own vs1 tr, e => (match lc2Of e with
    | some (elt, tg, iter, ifs, tg1, iter1, ifs1, scope, _) => blkC c.N c.sc scope own && chkI t c (isTupE tg) i iter && !isSet iter && chkG (c.blk scope) g tg && (slG g).all (fun i => (own.map (·.2)).any (Nat.beq i)) && chkI t (c.blk scope) (isTupE tg1) i1 iter1 && !isSet iter1 && chkG (c.blk scope) g1 tg1 && (slG g1).all (fun i => vs1.any (Nat.beq i)) && vs1.all (fun i => (own.map (·.2)).any (Nat.beq i)) && chk t (c.blk scope) el elt
      && (match ifs with
        | [] => isTrueC q
        | [e] => chk t (c.blk scope) q e
        | _ => false)
      && (match ifs1 with
        | [] => isTrueC q1
        | [e] => chk t (c.blk scope) q1 e
        | _ => false)
    | none => false)
  | .repr a, .Call (.Name x _) [e] [] _ => isG c x && strE x "repr" && inBl t x && c.gd && !isStar e && chk t c a e
  | _, _ => false
def chkA (t : Tb) (c : SI) : IA → List Expr → Bool
  | .nil, [] => true
  | .cons a r, e :: es => !isStar e && chk t c a e && chkA t c r es
  | .star a r, .Starred e _ :: es => chk t c a e && chkA t c r es
  | _, _ => false
def chkI (t : Tb) (c : SI) (tp : Bool) : II → Expr → Bool
  | .seq a, e => chk t c a e
  | .rg1 a, .Call (.Name x _) [e] [] _ => isG c x && strE x "range" && inBl t x && !isStar e && chk t c a e
  | .rg2 a b, .Call (.Name x _) [e, f] [] _ => isG c x && strE x "range" && inBl t x && !isStar e && !isStar f && chk t c a e && chk t c b f
  | .zip a b, .Call (.Name x _) [e, f] [] _ => isG c x && strE x "zip" && inBl t x && !isStar e && !isStar f && tp && chk t c a e && chk t c b f
  | .enum a, .Call (.Name x _) [e] [] _ => isG c x && strE x "enumerate" && inBl t x && !isStar e && tp && chk t c a e
  | _, _ => false
end
end Ev
end
end

/-! part EvT -/
section
set_option Elab.async false
set_option linter.all false
set_option maxRecDepth 100000
set_option maxHeartbeats 4000000
/-! EvT: a term that is of a text says what the text does: expressions. -/
noncomputable section
namespace Ev
open PySem PySem.Spec PyProof.Rows L2

structure TbOk (B : Bs) (t : Tb) : Prop where
  fn : ∀ f x l g, t.ft[f]? = some (x, l, g) → FnC B g l x (t.T f)
  gl : ∀ (i : Nat) x d, t.gt[i]? = some (x, d) → ∃ u v, B.mg x = some u ∧ RelV v u ∧ (x == ("__debug__" : Str)) = false ∧ ∀ m s H, AR B m s H → RDw B m s H d v
  bl : ∀ x, x ∈ t.bl → B.mg x = none
  met : t.mn ≠ "" → MetOk B t.mn t.mz t.mc t.mf
  exP : ∀ (i : Nat) x, t.ec[i]? = some (x, false) → PlainC B x ∧ B.cls i = x
  exK : ∀ (i : Nat) x, t.ec[i]? = some (x, true) → Nonempty (KeepC B x (B.fld i)) ∧ B.cls i = x
  kt : ∀ (j : Nat) x l, t.kt[j]? = some (x, l) → KdF B x l
  kl : ∀ i c, c ∈ t.kl.getD i [] → c ∈ B.kd i
  ix : ∀ (j : Nat) y l, t.ix[j]? = some (y, l) → IsxF B y l
  fl : t.fl.isEmpty = false → FldF B t.fl
  sys : t.sys = true → ∃ o, B.K.lookup sysModules = some o
def isBo : Expr → Bool
  | .BoolOp .. => true
  | _ => false
structure Snd (B : Bs) (E : XK) (X : Cx) (e : Expr) (x : XE) : Prop where
  pe : PE X e (TX B E x)
  pt : PT X e (TB B E x)
  pw : isBo e = true → PW X e (TB B E x)
theorem strE_ok {x y : Str} (h : strE x y = true) : x = y := by
  rw [strE_eq, beq_iff_eq] at h
  exact h
theorem inBl_ok {t : Tb} {x : Str} (h : inBl t x = true) : x ∈ t.bl := by
  unfold inBl at h
  rw [List.any_eq_true] at h
  obtain ⟨y, h1, h2⟩ := h
  rw [← strE_ok h2]
  exact h1
theorem not_t {b : Bool} (h : (!b) = true) : b = false := by cases b <;> first | rfl | cases h
section
variable {B : Bs} {E : XK} {X : Cx} {e : Expr} {x : XE} {c : SI} {t : Tb}
/-- where a test is the value's truth -/
theorem snd_val (h : PE X e (TX B E x)) (hp : isPlainT e = true) : Snd B E X e x := ⟨h, t_val h (isTrue_plain hp), fun z => by cases e <;> first | exact absurd (show false = true from hp) Bool.false_ne_true | exact absurd (show false = true from z) Bool.false_ne_true⟩
theorem snd_cmp (h : PE X e (TX B E x)) (h2 : PT X e (TB B E x)) (hb : isBo e = false) : Snd B E X e x := ⟨h, h2, fun z => by rw [hb] at z; cases z⟩
end
/-! ### targets -/
section
variable {B : Bs} {E : XK} {X : Cx} {c : SI} {w : List Nat}
mutual
theorem chkG_ok (C : Cok B c E X) : ∀ (g : IG) (e : Expr), chkG c g e = true → (∀ i ∈ slG g, i ∈ w) → PG X e (TGr B E w (denG g))
  | .nm i, .Name x p, h, hw => by
    have h' : (nAt c i x && isW c x) = true := h
    rw [Bool.and_eq_true] at h'
    obtain ⟨h1, h2⟩ := isW_ok h'.2
    exact g_name (by rw [C.N]; exact C.nd) (C.at_ (nAt_ok h'.1)) (C.loc h1) (by rw [C.fn, C.sc]; exact h2) (hw i (by simp [slG]))
  | .tp n l, .Tuple es k p, h, hw => by
    have h' : (Nat.beq es.length n && !es.any isStar && chkGs c l es) = true := h
    rw [Bool.and_eq_true, Bool.and_eq_true] at h'
    have hl := Nat.eq_of_beq_eq_true h'.1.1
    exact g_tup C.calm C.K (chkGs_ok C l es h'.2 hw) (by rw [assign_len, hl]) (assign_find es (not_t h'.1.2))
theorem chkGs_ok (C : Cok B c E X) : ∀ (g : IGs) (es : List Expr), chkGs c g es = true → (∀ i ∈ slGs g, i ∈ w) → PGs X es (TGsr B E w (denGs g))
  | .nil, [], _, _ => gs_nil
  | .cons g r, e :: es, h, hw => by
    have h' : (chkG c g e && !isStar e && chkGs c r es) = true := h
    rw [Bool.and_eq_true, Bool.and_eq_true] at h'
    exact gs_cons (chkG_ok C g e h'.1.1 fun i hi => hw i (by simp only [slGs]; exact List.mem_append_left _ hi)) (chkGs_ok C r es h'.2 fun i hi => hw i (by simp only [slGs]; exact List.mem_append_right _ hi)) (assign_map e es (not_t h'.1.2))
end
end
theorem conIs_ok {B : Bs} {d : D} {k : Const} (h : conIs d k = true) : ∃ v, (∀ X j p, PE X (.Constant k j p) (tC v)) ∧ ∀ m s H, RDw B m s H d v := by
  cases d <;> cases k <;> first
    | exact ⟨.non, fun X j p => pe_non, fun m s H => rfl⟩
    | (rename_i a b
       have e : a = b := by cases a <;> cases b <;> first | rfl | cases h
       subst e
       exact ⟨.bl a, fun X j p => pe_bl, fun m s H => rfl⟩)
    | (rename_i a b
       have e : a = b := by
         have h' : iEq a b = true := h
         rw [iEq_eq, decide_eq_true_eq] at h'
         exact h'
       subst e
       exact ⟨.int a, fun X j p => pe_int, fun m s H => rfl⟩)
    | (rename_i a b
       have e : a = b := strE_ok h
       subst e
       exact ⟨.str a, fun X j p => pe_str, fun m s H => rfl⟩)
    | cases h
end Ev
end
end

/-! part EvU -/
section
set_option Elab.async false
set_option linter.all false
set_option maxRecDepth 100000
set_option maxHeartbeats 4000000
/-! EvU: a term that is of a text says what the text does: expressions, one shape after another. -/
noncomputable section
namespace Ev
open PySem PySem.Spec PyProof.Rows L2

/-- arguments: what they do; a star argument alone -/
structure SndA (B : Bs) (E : XK) (X : Cx) (es : List Expr) (z : XA) : Prop where
  pa : PA X es (TAr B E z)
  st : ∀ e p, es = [.Starred e p] → ∃ xa, z = aStar xa aNil ∧ PE X e (TX B E xa)
def OkE (B : Bs) (t : Tb) (i : IE) : Prop := ∀ (c : SI) (E : XK) (X : Cx) (e : Expr), Cok B c E X → chk t c i e = true → Snd B E X e (den t i)
def OkA (B : Bs) (t : Tb) (i : IA) : Prop := ∀ (c : SI) (E : XK) (X : Cx) (es : List Expr), Cok B c E X → chkA t c i es = true → SndA B E X es (denA t i)
def OkI (B : Bs) (t : Tb) (i : II) : Prop := ∀ (c : SI) (E : XK) (X : Cx) (tg e : Expr), Cok B c E X → chkI t c (isTupE tg) i e = true → PI X tg e (TIr B E (denI t i))
theorem nbeq {a b : Nat} (h : Nat.beq a b = true) : (a == b) = true := by rw [Nat.eq_of_beq_eq_true h]; exact beq_self_eq_true b
theorem a2 {a b : Bool} (h : (a && b) = true) : a = true ∧ b = true := by rwa [Bool.and_eq_true] at h
theorem x_k {B : Bs} {E : XK} {X : Cx} {d : D} {v : V} {e : Expr} (h : PE X e (tC v)) (hd : ∀ m s H, AR B m s H → RDw B m s H d v) : PE X e (TX B E (xK d)) := wkE h fun σ H Q ⟨m, s, env, k, kx, ar, er, hx, hk, _⟩ =>
  hk d m s H v .refl ar (hd _ _ _ ar) hx
section
variable {B : Bs} {t : Tb} (K : TbOk B t)
include K
theorem ok_var (i : Nat) : OkE B t (.var i) := fun c E X e C h => by
  cases e <;> first | exact ff h | skip
  rename_i x p
  obtain ⟨h1, h2⟩ := a2 (show (nAt c i x && isV c x && notD x) = true from h)
  obtain ⟨h0, h1⟩ := a2 h1
  obtain ⟨h3, h4, h5⟩ := notD_ok h2
  exact snd_val (x_var (pe_var (C.at_ (nAt_ok h0)) (C.vis (isV_ok h1)) h3 h4)) rfl
theorem ok_con (d : D) : OkE B t (.con d) := fun c E X e C h => by
  cases e <;> first | exact ff h | (cases d <;> exact ff h) | skip
  rename_i k j p
  obtain ⟨v, h1, h2⟩ := conIs_ok (B := B) (show conIs d k = true from by cases d <;> exact h)
  exact snd_val (x_k (h1 X j p) (fun m s H _ => h2 m s H)) rfl
theorem ok_glo (i : Nat) : OkE B t (.glo i) := fun c E X e C h => by
  cases e <;> first | exact ff h | skip
  rename_i x p
  obtain ⟨h1, h2⟩ := a2 (show (isG c x && match (generalizing := false) t.gt[i]? with | some (y, _) => strE y x | none => false) = true from h)
  have hd : den t (.glo i) = match t.gt[i]? with | some (_, d) => xK d | none => fun _ _ _ _ => false := rfl
  cases q : t.gt[i]? with
  | none => rw [q] at h2; exact ff h2
  | some yd =>
    obtain ⟨y, d⟩ := yd
    rw [q] at h2 hd
    have ey := strE_ok (show strE y x = true from h2)
    subst ey
    obtain ⟨u, v, m1, m2, m3, m4⟩ := K.gl i y d q
    rw [hd]
    exact snd_val (x_k (pe_glob (C.gl (isG_ok h1)) (by rw [C.mg]; exact m1) m2 m3) m4) rfl
theorem bopOf_ok {E : XK} {X : Cx} {o : Bop} {op : Operator} {ea eb : Expr} {xa xb : XE} {pos : Pos} (h : bopOf o op = true) (ha : PE X ea (TX B E xa)) (hb : PE X eb (TX B E xb)) : PE X (.BinOp ea op eb pos) (TX B E (xBin o xa xb)) := by
  cases o <;> cases op <;> first | exact ff h | exact x_sub ha hb | exact x_fdiv ha hb | exact x_mod ha hb | exact x_pow ha hb | exact x_shl ha hb
theorem ok_bin (o : Bop) (a b : IE) (ha : OkE B t a) (hb : OkE B t b) : OkE B t (.bin o a b) := fun c E X e C h => by
  cases e <;> first | exact ff h | skip
  rename_i l op r p
  obtain ⟨h1, h2⟩ := a2 (show (bopOf o op && chk t c a l && chk t c b r) = true from h)
  obtain ⟨h0, h1⟩ := a2 h1
  exact snd_val (bopOf_ok K h0 (ha c E X l C h1).pe (hb c E X r C h2).pe) rfl
theorem ok_add (a b : IE) (ha : OkE B t a) (hb : OkE B t b) : OkE B t (.add a b) := fun c E X e C h => by
  cases e <;> first | exact ff h | skip
  rename_i l op r p
  cases op <;> first | exact ff h | skip
  obtain ⟨h1, h2⟩ := a2 (show (chk t c a l && chk t c b r) = true from h)
  exact snd_val (x_addA C (ha c E X l C h1).pe (hb c E X r C h2).pe) rfl
theorem ok_mul (a b : IE) (ha : OkE B t a) (hb : OkE B t b) : OkE B t (.mul a b) := fun c E X e C h => by
  cases e <;> first | exact ff h | skip
  rename_i l op r p
  cases op <;> first | exact ff h | skip
  obtain ⟨h1, h2⟩ := a2 (show (chk t c a l && chk t c b r) = true from h)
  exact snd_val (x_mulA C (ha c E X l C h1).pe (hb c E X r C h2).pe) rfl
theorem t_neg {E : XK} {X : Cx} {ea : Expr} {xa : XE} {p : Pos} (ha : PE X ea (TX B E xa)) : PT X (.UnaryOp .USub ea p) (TB B E (xNeg xa)) := t_val (x_neg ha) (fun w => rfl)
theorem ok_neg (a : IE) (ha : OkE B t a) : OkE B t (.neg a) := fun c E X e C h => by
  cases e <;> first | exact ff h | skip
  rename_i op l p
  cases op <;> first | exact ff h | skip
  have h1 : chk t c a l = true := h
  exact snd_cmp (x_neg (ha c E X l C h1).pe) (t_neg K (ha c E X l C h1).pe) rfl
theorem ok_not (a : IE) (ha : OkE B t a) : OkE B t (.not_ a) := fun c E X e C h => by
  cases e <;> first | exact ff h | skip
  rename_i op l p
  cases op <;> first | exact ff h | skip
  have h1 : chk t c a l = true := h
  exact snd_cmp (x_not (ha c E X l C h1).pe) (t_not (ha c E X l C h1).pt) rfl
theorem ok_cmp (o : Cop) (a b : IE) (ha : OkE B t a) (hb : OkE B t b) : OkE B t (.cmp o a b) := fun c E X e C h => by
  cases e <;> first | exact ff h | skip
  rename_i l ops rs p
  obtain _ | ⟨op, _ | ⟨op2, ops⟩⟩ := ops
  · exact ff h
  · obtain _ | ⟨r, _ | ⟨r2, rs⟩⟩ := rs
    · exact ff h
    · obtain ⟨h1, h2⟩ := a2 (show (copIs o op && chk t c a l && chk t c b r) = true from h)
      obtain ⟨h0, h1⟩ := a2 h1
      have q := copIs_ok h0
      exact snd_cmp (x_cmp q (ha c E X l C h1).pe (hb c E X r C h2).pe) (t_cmp q (ha c E X l C h1).pe (hb c E X r C h2).pe) rfl
    · exact ff h
  · obtain _ | ⟨r, rs⟩ := rs <;> exact ff h
theorem ok_ch (o o2 : Cop) (a b d : IE) (ha : OkE B t a) (hb : OkE B t b) (hd : OkE B t d) : OkE B t (.ch o o2 a b d) := fun c E X e C h => by
  cases e <;> first | exact ff h | skip
  rename_i l ops rs p
  obtain _ | ⟨op, _ | ⟨op2, _ | ⟨op3, ops⟩⟩⟩ := ops
  · exact ff h
  · exact ff h
  · obtain _ | ⟨r, _ | ⟨r2, _ | ⟨r3, rs⟩⟩⟩ := rs
    · exact ff h
    · exact ff h
    · obtain ⟨h3, h4⟩ := a2 (show (copIs o op && copIs o2 op2 && chk t c a l && chk t c b r && chk t c d r2) = true from h)
      obtain ⟨h2, h3⟩ := a2 h3
      obtain ⟨h1, h2⟩ := a2 h2
      obtain ⟨h0, h1⟩ := a2 h1
      exact snd_cmp (x_chain (copIs_ok h0) (copIs_ok h1) (ha c E X l C h2).pe (hb c E X r C h3).pe (hd c E X r2 C h4).pe) (t_chain (copIs_ok h0) (copIs_ok h1) (ha c E X l C h2).pe (hb c E X r C h3).pe (hd c E X r2 C h4).pe) rfl
    · exact ff h
  · exact ff h
theorem ok_eq (n : Bool) (a b : IE) (ha : OkE B t a) (hb : OkE B t b) : OkE B t (.eq n a b) := fun c E X e C h => by
  cases e <;> first | exact ff h | (cases n <;> exact ff h) | skip
  rename_i l ops rs p
  obtain _ | ⟨op, _ | ⟨op2, ops⟩⟩ := ops
  · cases n <;> exact ff h
  · obtain _ | ⟨r, _ | ⟨r2, rs⟩⟩ := rs
    · cases n <;> cases op <;> exact ff h
    · cases n <;> cases op <;> first | exact ff h | skip
      all_goals
        obtain ⟨h1, h2⟩ := a2 (show (chk t c a l && chk t c b r) = true from h)
        first
          | exact snd_cmp (x_eq C (ha c E X l C h1).pe (hb c E X r C h2).pe) (t_eq C (ha c E X l C h1).pe (hb c E X r C h2).pe) rfl
          | exact snd_cmp (x_ne C (ha c E X l C h1).pe (hb c E X r C h2).pe) (t_ne C (ha c E X l C h1).pe (hb c E X r C h2).pe) rfl
    · cases n <;> cases op <;> exact ff h
  · obtain _ | ⟨r, rs⟩ := rs <;> cases n <;> cases op <;> exact ff h
theorem ok_inn (n : Bool) (a b : IE) (ha : OkE B t a) (hb : OkE B t b) : OkE B t (.inn n a b) := fun c E X e C h => by
  cases e <;> first | exact ff h | (cases n <;> exact ff h) | skip
  rename_i l ops rs p
  obtain _ | ⟨op, _ | ⟨op2, ops⟩⟩ := ops
  · cases n <;> exact ff h
  · obtain _ | ⟨r, _ | ⟨r2, rs⟩⟩ := rs
    · cases n <;> cases op <;> exact ff h
    · cases n <;> cases op <;> first | exact ff h | skip
      all_goals
        obtain ⟨h1, h2⟩ := a2 (show (!isSet r && chk t c a l && chk t c b r) = true from h)
        obtain ⟨h0, h1⟩ := a2 h1
        have h0 := not_t h0
        first
          | exact snd_cmp (x_in C (ha c E X l C h1).pe (hb c E X r C h2).pe (mark_no h0)) (t_in C (ha c E X l C h1).pe (hb c E X r C h2).pe (mark_no h0)) rfl
          | exact snd_cmp (x_notin C (ha c E X l C h1).pe (hb c E X r C h2).pe (mark_no h0)) (t_notin C (ha c E X l C h1).pe (hb c E X r C h2).pe (mark_no h0)) rfl
    · cases n <;> cases op <;> exact ff h
  · obtain _ | ⟨r, rs⟩ := rs <;> cases n <;> cases op <;> exact ff h
def oC : Option Bool → Const
  | some b => .bool b
  | none => .none
omit K in
theorem oIs_ok (o : Option Bool) {k : Const} (h : oIs o k = true) : k = oC o := by
  obtain _ | b := o
  · cases k <;> first | exact ff h | rfl
  · cases b <;> cases k <;> first | exact ff h | (rename_i b; cases b <;> first | exact ff h | rfl)
theorem ok_is (n : Bool) (o : Option Bool) (a : IE) (ha : OkE B t a) : OkE B t (.is n o a) := fun c E X e C h => by
  cases e <;> first | exact ff h | (cases n <;> exact ff h) | skip
  rename_i l ops rs p
  obtain _ | ⟨op, _ | ⟨op2, ops⟩⟩ := ops
  · cases n <;> exact ff h
  · obtain _ | ⟨r, _ | ⟨r2, rs⟩⟩ := rs
    · cases n <;> cases op <;> exact ff h
    · cases r <;> first | (cases n <;> cases op <;> exact ff h) | skip
      rename_i k j pk
      cases n <;> cases op <;> first | exact ff h | skip
      all_goals
        obtain ⟨h1, h2⟩ := a2 (show (oIs o k && chk t c a l) = true from h)
        have h1 := oIs_ok o h1
        subst h1
        cases o
        all_goals first
          | exact snd_cmp (x_is (o := none) (ha c E X l C h2).pe) (t_is (o := none) (ha c E X l C h2).pe) rfl
          | exact snd_cmp (x_isnot (o := none) (ha c E X l C h2).pe) (t_isnot (o := none) (ha c E X l C h2).pe) rfl
          | exact snd_cmp (x_is (o := some _) (ha c E X l C h2).pe) (t_is (o := some _) (ha c E X l C h2).pe) rfl
          | exact snd_cmp (x_isnot (o := some _) (ha c E X l C h2).pe) (t_isnot (o := some _) (ha c E X l C h2).pe) rfl
    · cases r <;> cases n <;> cases op <;> exact ff h
  · obtain _ | ⟨r, rs⟩ := rs
    · cases n <;> cases op <;> exact ff h
    · obtain _ | ⟨r2, rs⟩ := rs
      · cases r <;> cases n <;> cases op <;> exact ff h
      · cases r <;> cases n <;> cases op <;> exact ff h
theorem ok_and (a b : IE) (ha : OkE B t a) (hb : OkE B t b) : OkE B t (.and_ a b) := fun c E X e C h => by
  cases e <;> first | exact ff h | skip
  rename_i op es p
  cases op <;> first | exact ff h | skip
  obtain _ | ⟨e1, _ | ⟨e2, es⟩⟩ := es
  · exact ff h
  · exact ff h
  · obtain ⟨h1, h2⟩ := a2 (show (chk t c a e1 && match (generalizing := false) es with | [] => chk t c b e2 | _ :: _ => chk t c b (.BoolOp .And (e2 :: es) p)) = true from h)
    have sa := ha c E X e1 C h1
    cases es with
    | nil =>
      have sb := hb c E X e2 C h2
      have w := w_and sa.pt (w_and1 sb.pt (pos := p))
      exact ⟨x_and sa.pe (x_one sb.pe), w.pt, fun _ => w⟩
    | cons e3 es =>
      have sb := hb c E X _ C h2
      have w := w_and sa.pt (sb.pw rfl)
      exact ⟨x_and sa.pe sb.pe, w.pt, fun _ => w⟩
theorem ok_or (a b : IE) (ha : OkE B t a) (hb : OkE B t b) : OkE B t (.or_ a b) := fun c E X e C h => by
  cases e <;> first | exact ff h | skip
  rename_i op es p
  cases op <;> first | exact ff h | skip
  obtain _ | ⟨e1, _ | ⟨e2, es⟩⟩ := es
  · exact ff h
  · exact ff h
  · obtain ⟨h1, h2⟩ := a2 (show (chk t c a e1 && match (generalizing := false) es with | [] => chk t c b e2 | _ :: _ => chk t c b (.BoolOp .Or (e2 :: es) p)) = true from h)
    have sa := ha c E X e1 C h1
    cases es with
    | nil =>
      have sb := hb c E X e2 C h2
      have w := w_or sa.pt (w_or1 sb.pt (pos := p))
      exact ⟨x_or sa.pe (x_one sb.pe), w.pt, fun _ => w⟩
    | cons e3 es =>
      have sb := hb c E X _ C h2
      have w := w_or sa.pt (sb.pw rfl)
      exact ⟨x_or sa.pe sb.pe, w.pt, fun _ => w⟩
theorem ok_ite (q a b : IE) (hq : OkE B t q) (ha : OkE B t a) (hb : OkE B t b) : OkE B t (.ite q a b) := fun c E X e C h => by
  cases e <;> first | exact ff h | skip
  rename_i e l r p
  obtain ⟨h1, h2⟩ := a2 (show (chk t c q e && chk t c a l && chk t c b r) = true from h)
  obtain ⟨h0, h1⟩ := a2 h1
  exact snd_cmp (x_ite (hq c E X e C h0).pt (ha c E X l C h1).pe (hb c E X r C h2).pe) (t_ite (hq c E X e C h0).pt (ha c E X l C h1).pt (hb c E X r C h2).pt) rfl
theorem ok_tup (l : IA) (ha : OkA B t l) : OkE B t (.tup l) := fun c E X e C h => by
  cases e <;> first | exact ff h | skip
  rename_i es k p
  exact snd_val (x_tup (ha c E X es C h).pa C.K) rfl
theorem ok_lst (l : IA) (ha : OkA B t l) : OkE B t (.lst l) := fun c E X e C h => by
  cases e <;> first | exact ff h | skip
  rename_i es p
  exact snd_val (x_lst (ha c E X es C h).pa) rfl
theorem ok_ix (a b : IE) (ha : OkE B t a) (hb : OkE B t b) : OkE B t (.ix a b) := fun c E X e C h => by
  cases e <;> first | exact ff h | skip
  rename_i e f p
  obtain ⟨h1, h2⟩ := a2 (show (!isSlice f && chk t c a e && chk t c b f) = true from h)
  obtain ⟨h0, h1⟩ := a2 h1
  exact snd_val (x_ix C (ha c E X e C h1).pe (hb c E X f C h2).pe (ix_plain (not_t h0))) rfl
theorem ok_ob (b : Bool) (i : IE) (hi : OkE B t i) (c : SI) (E : XK) (X : Cx) (l : Option Expr) (C : Cok B c E X) (h : (match b, l with | true, some l => chk t c i l | false, none => true | _, _ => false) = true) : PO X l (TOr B E (Bool.rec oNo (oSm (den t i)) b)) := by
  cases b <;> cases l <;> first | exact ff h | exact o_no | exact o_sm (hi c E X _ C h).pe
theorem ok_sl (a : IE) (bl bh : Bool) (lo hi : IE) (ha : OkE B t a) (hl : OkE B t lo) (hh : OkE B t hi) : OkE B t (.sl a bl bh lo hi) := fun c E X e C h => by
  cases e <;> first | exact ff h | skip
  rename_i e f p
  cases f <;> first | exact ff h | skip
  rename_i l hx s p2
  cases s <;> first | exact ff h | skip
  obtain ⟨h1, h2⟩ := a2 (show (chk t c a e && (match (generalizing := false) bl, l with | true, some l => chk t c lo l | false, none => true | _, _ => false) && (match (generalizing := false) bh, hx with | true, some l => chk t c hi l | false, none => true | _, _ => false)) = true from h)
  obtain ⟨h0, h1⟩ := a2 h1
  exact snd_val (x_sl C (ha c E X e C h0).pe (ok_ob K bl lo hl c E X l C h1) (ok_ob K bh hi hh c E X hx C h2)) rfl
omit K in
theorem few_ok {X : Cx} {pos : Pos} {es : List Expr} (h : es.any isStar = false) (hl : es.length < 30) : ((backTo pos (starEach es X.env)).all (fun x => !x.1) && (backToKw pos (keywordEach [] X.env)).all (fun x => x.1.isSome)
      && decide (es.length + ([] : List Keyword).length + (if ([] : List Keyword).isEmpty then 0 else 1) < 30)) = true := by
  have h1 : (backTo pos (starEach es X.env)).all (fun x => !x.1) = true := by
    rw [← any_star (pos := pos) (env := X.env)] at h
    rw [List.all_eq_not_any_not]
    simp only [Bool.not_not]
    rw [h]
    rfl
  have h2 : (backToKw pos (keywordEach [] X.env)).all (fun x => x.1.isSome) = true := rfl
  have h3 : decide (es.length + ([] : List Keyword).length + (if ([] : List Keyword).isEmpty then 0 else 1) < 30) = true := decide_eq_true (by simpa using hl)
  rw [h1, h2, h3]
  rfl
theorem ok_call (f : Nat) (l : IA) (ha : OkA B t l) : OkE B t (.call f l) := fun c E X e C h => by
  cases e <;> first | exact ff h | skip
  rename_i g es kw p
  cases g <;> first | exact ff h | skip
  rename_i x px
  cases kw <;> first | exact ff h | skip
  obtain ⟨h3, h4⟩ := a2 (show (isG c x && notD x && chkA t c l es && (match (generalizing := false) t.ft[f]? with
    | some (y, lv, g) => strE y x && Nat.ble lv c.k && (!g || c.gd)
    | none => false) && (match (generalizing := false) es with
    | [] => true
    | [_] => true
    | e :: _ => !isStar e)) = true from h)
  obtain ⟨h1, h3⟩ := a2 h3
  obtain ⟨h1, h2⟩ := a2 h1
  obtain ⟨h0, h1⟩ := a2 h1
  cases q : t.ft[f]? with
  | none => rw [q] at h3; exact ff h3
  | some yg =>
    obtain ⟨y, lv, g⟩ := yg
    rw [q] at h3
    obtain ⟨q1, q3⟩ := a2 (show (strE y x && Nat.ble lv c.k && (!g || c.gd)) = true from h3)
    obtain ⟨q1, q2⟩ := a2 q1
    have ey := strE_ok q1
    subst ey
    have F := (K.fn f y lv g q).up (Nat.le_refl lv) (gd' := c.gd) (fun z => by rw [z] at q3; exact q3)
    have hl := Nat.le_of_ble_eq_true q2
    obtain ⟨n1, n2, n3⟩ := notD_ok h1
    have A := ha c E X es C h2
    refine snd_val ?_ rfl
    obtain _ | ⟨e, es⟩ := es
    · cases l with
      | nil => exact x_call0 C F hl (isG_ok h0) n1
      | cons a r => exact ff h2
      | star a r => exact ff h2
    · cases st : isStar e with
      | true =>
        cases e <;> first | exact ff st | skip
        rename_i e pe
        cases es with
        | cons e2 es => exact ff h4
        | nil =>
          obtain ⟨xa, z1, z2⟩ := A.st e pe rfl
          show PE X _ (TX B E (xCall (t.T f) (denA t l)))
          rw [z1]
          exact x_callS1 C F hl (isG_ok h0) n1 z2 rfl
      | false =>
        cases pl : (backTo p (starEach es X.env)).any (·.1) with
        | false => exact x_call C F hl (isG_ok h0) n1 A.pa (star_no st) pl
        | true => exact x_callS2 C F hl (isG_ok h0) n1 A.pa (star_no st) pl
omit K in
theorem bn_ok {x : Str} (h : ∃ n, n < 12 ∧ x = bnm n) : x ≠ "__name__" ∧ (x == ("__debug__" : Str)) = false := by
  obtain ⟨n, h1, rfl⟩ := h
  have : n = 0 ∨ n = 1 ∨ n = 2 ∨ n = 3 ∨ n = 4 ∨ n = 5 ∨ n = 6 ∨ n = 7 ∨ n = 8 ∨ n = 9 ∨ n = 10 ∨ n = 11 := by omega
  rcases this with rfl | rfl | rfl | rfl | rfl | rfl | rfl | rfl | rfl | rfl | rfl | rfl <;> exact ⟨by decide, by decide⟩
theorem ok_bt (n : Nat) (l : IA) (ha : OkA B t l) : OkE B t (.bt n l) := fun c E X e C h => by
  cases e <;> first | exact ff h | skip
  rename_i g es kw p
  cases g <;> first | exact ff h | (cases es <;> exact ff h) | skip
  rename_i x px
  obtain _ | ⟨e, es⟩ := es
  · exact ff h
  cases kw <;> first | exact ff h | skip
  obtain ⟨h5, h6⟩ := a2 (show (isG c x && Nat.blt n 12 && strE x (bnm n) && inBl t x && !isStar e && !es.any isStar && chkA t c l (e :: es)) = true from h)
  obtain ⟨h4, h5⟩ := a2 h5
  obtain ⟨h3, h4⟩ := a2 h4
  obtain ⟨h2, h3⟩ := a2 h3
  obtain ⟨h1, h2⟩ := a2 h2
  obtain ⟨h0, h1⟩ := a2 h1
  have hn : n < 12 := by rwa [Nat.blt_eq] at h1
  have ex := strE_ok h2
  obtain ⟨n1, n2⟩ := bn_ok ⟨n, hn, ex⟩
  have A := (ha c E X (e :: es) C h6).pa
  have hg := isG_ok h0
  have hm := K.bl x (inBl_ok h3)
  have hs := star_no (es := es) (env := X.env) (not_t h4)
  have hp : (backTo p (starEach es X.env)).any (·.1) = false := by rw [any_star]; exact not_t h5
  refine snd_val ?_ rfl
  subst ex
  have : n = 0 ∨ n = 1 ∨ n = 2 ∨ n = 3 ∨ n = 4 ∨ n = 5 ∨ n = 6 ∨ n = 7 ∨ n = 8 ∨ n = 9 ∨ n = 10 ∨ n = 11 := by omega
  rcases this with rfl | rfl | rfl | rfl | rfl | rfl | rfl | rfl | rfl | rfl | rfl | rfl
  · exact x_btF C (c_len C) hg hm rfl A n1 n2 hs hp
  · exact x_btF C c_abs hg hm rfl A n1 n2 hs hp
  · exact x_btT C c_int hg hm rfl A n1 n2 hs hp
  · exact x_btF C (c_max C) hg hm rfl A n1 n2 hs hp
  · exact x_btF C (c_min C) hg hm rfl A n1 n2 hs hp
  · exact x_btT C (c_tup C) hg hm rfl A n1 n2 hs hp
  · exact x_btT C (c_lst C) hg hm rfl A n1 n2 hs hp
  · exact x_btF C (c_all C) hg hm rfl A n1 n2 hs hp
  · exact x_btF C (c_any C) hg hm rfl A n1 n2 hs hp
  · exact x_btF C (c_sum C) hg hm rfl A n1 n2 hs hp
  · exact x_btF C (c_srt C) hg hm rfl A n1 n2 hs hp
  · exact x_btT C (c_tupM C) hg hm rfl A n1 n2 hs hp
omit K in
theorem nm_ok {n : Nat} (h : 0 < n) (h7 : n < 7) : bootBuiltins (nmT n : Str) = some (.type (nmT n)) ∧ (nmT n : Str) ≠ "__name__" ∧ ((nmT n : Str) == ("__debug__" : Str)) = false := by
  have : n = 1 ∨ n = 2 ∨ n = 3 ∨ n = 4 ∨ n = 5 ∨ n = 6 := by omega
  rcases this with rfl | rfl | rfl | rfl | rfl | rfl <;> exact ⟨rfl, by decide, by decide⟩
theorem ok_isi (n : Nat) (a : IE) (ha : OkE B t a) : OkE B t (.isi n a) := fun c E X e C h => by
  cases e <;> first | exact ff h | skip
  rename_i g es kw p
  cases g <;> first | exact ff h | skip
  rename_i x px
  obtain _ | ⟨e, _ | ⟨e2, _ | ⟨e3, es⟩⟩⟩ := es
  · exact ff h
  · exact ff h
  · cases e2 <;> first | exact ff h | skip
    rename_i y py
    cases kw <;> first | exact ff h | skip
    have H := (show (isG c x && isG c y && strE x "isinstance" && strE y (nmT n) && inBl t x && inBl t y && Nat.blt 0 n && Nat.blt n 7 && !isStar e && chk t c a e) = true from h)
    simp only [Bool.and_eq_true] at H
    obtain ⟨⟨⟨⟨⟨⟨⟨⟨⟨h1, h2⟩, h3⟩, h4⟩, h5⟩, h6⟩, h7⟩, h8⟩, h9⟩, hh⟩ := H
    rw [Nat.blt_eq] at h7 h8
    have e1 := strE_ok h3
    have e2 := strE_ok h4
    subst e1 e2
    obtain ⟨b1, b2, b3⟩ := nm_ok h7 h8
    exact snd_val (x_isi C (isG_ok h1) (K.bl _ (inBl_ok h5)) (isG_ok h2) (K.bl _ (inBl_ok h6)) b1 (ha c E X e C hh).pe b2 b3 (kit_n h8 (by omega)) (star_no (not_t h9))) rfl
  · cases e2 <;> exact ff h
theorem ok_bits (a : IE) (ha : OkE B t a) : OkE B t (.bits a) := fun c E X e C h => by
  cases e <;> first | exact ff h | skip
  rename_i g es kw p
  cases g <;> first | exact ff h | skip
  rename_i e x q
  cases es <;> first | exact ff h | skip
  cases kw <;> first | exact ff h | skip
  have H := (show (strE x "bit_length" && !isCallE e && Nat.beq q.endLine p.line && chk t c a e) = true from h)
  simp only [Bool.and_eq_true] at H
  obtain ⟨⟨⟨h0, h1⟩, h2⟩, h3⟩ := H
  have ex := strE_ok h0
  subst ex
  exact snd_val (x_bits (ha c E X e C h3).pe (base_no (not_t h1)) (nbeq h2)) rfl
theorem ok_mt (n : Nat) (a : IE) (l : IA) (ha : OkE B t a) (hl : OkA B t l) : OkE B t (.mt n a l) := fun c E X e C h => by
  cases e <;> first | exact ff h | skip
  rename_i g es kw p
  cases g <;> first | exact ff h | (cases es <;> exact ff h) | skip
  rename_i e x q
  obtain _ | ⟨f, es⟩ := es
  · exact ff h
  cases kw <;> first | exact ff h | skip
  have H := (show (Nat.blt n 3 && strE x (mnm n) && !isCallE e && Nat.beq q.endLine p.line && !isStar f && !es.any isStar && Nat.blt es.length 20 && chk t c a e && chkA t c l (f :: es)) = true from h)
  simp only [Bool.and_eq_true] at H
  obtain ⟨⟨⟨⟨⟨⟨⟨⟨h1, h2⟩, h3⟩, h4⟩, h5⟩, h6⟩, h7⟩, h8⟩, h9⟩ := H
  have hn : n < 3 := by rwa [Nat.blt_eq] at h1
  have ex := strE_ok h2
  subst ex
  have A := (hl c E X (f :: es) C h9).pa
  have ho := (ha c E X e C h8).pe
  have hb := fun z : Str => base_no (x := z) (env := X.env) (t := eval e X.env) (not_t h3)
  have hs := star_no (es := es) (env := X.env) (not_t h5)
  have hp : (backTo p (starEach es X.env)).any (·.1) = false := by rw [any_star]; exact not_t h6
  have hf := few_ok (X := X) (pos := p) (es := f :: es) (by rw [List.any_cons, not_t h5, not_t h6]; rfl) (by rw [Nat.blt_eq] at h7; simp only [List.length_cons]; omega)
  refine snd_val ?_ rfl
  have : n = 0 ∨ n = 1 ∨ n = 2 := by omega
  rcases this with rfl | rfl | rfl
  · exact x_mt C F.slot_list_append F.type_list_append mt_append (r_app) ho A (hb _) hf (nbeq h4) hs hp
  · exact x_mt C F.slot_list_extend F.type_list_extend mt_extend (r_ext) ho A (hb _) hf (nbeq h4) hs hp
  · exact x_mt C F.slot_list_insert F.type_list_insert mt_insert (r_ins) ho A (hb _) hf (nbeq h4) hs hp
omit K in
theorem any_mem {l : List Nat} {i : Nat} (h : l.any (Nat.beq i) = true) : i ∈ l := by
  rw [List.any_eq_true] at h
  obtain ⟨j, h1, h2⟩ := h
  rw [Nat.eq_of_beq_eq_true h2]
  exact h1
theorem ok_lc (i : II) (g : IG) (q el : IE) (own : List (Str × Nat)) (tr : Bool) (hi : OkI B t i) (hq : OkE B t q) (he : OkE B t el) : OkE B t (.lc i g q el own tr) := fun c E X e C h => by
  cases e <;> first | exact ff h | skip
  rename_i elt gs scope p
  obtain _ | ⟨⟨tg, iter, ifs, asy⟩, _ | ⟨g2, gs⟩⟩ := gs
  · exact ff h
  · obtain (_ | asy) | asy := asy
    rotate_left 1
    · exact ff h
    · exact ff h
    obtain ⟨h6, h7⟩ := a2 (show (blkC c.N c.sc scope own && chkI t c (isTupE tg) i iter && !isSet iter && chkG (c.blk scope) g tg && (slG g).all (fun i => (own.map (·.2)).any (Nat.beq i)) && chk t (c.blk scope) el elt && (match (generalizing := false) ifs with
    | [] => (match (generalizing := false) q with | .con (.bl true) => true | _ => false)
    | [e] => chk t (c.blk scope) q e
    | _ => false)) = true from h)
    obtain ⟨h5, h6⟩ := a2 h6
    obtain ⟨h4, h5⟩ := a2 h5
    obtain ⟨h3, h4⟩ := a2 h4
    obtain ⟨h2, h3⟩ := a2 h3
    obtain ⟨h1, h2⟩ := a2 h2
    rw [List.all_eq_true] at h5
    refine snd_val (x_lc (w := own.map (·.2)) C C.nd (hi c E X tg iter C h2) (blkOk_by h1) (fun i z => z) (fun X' C' => chkG_ok C' g tg h4 fun i z => any_mem (h5 i z)) (fun X' C' => ?_) (fun X' C' => (he _ _ X' elt C' h6).pe) (set_no (not_t h3))) rfl
    obtain _ | ⟨f, _ | ⟨f2, fs⟩⟩ := ifs
    · cases q <;> first | exact ff h7 | skip
      rename_i d
      cases d <;> first | exact ff h7 | skip
      rename_i b
      cases b <;> first | exact ff h7 | exact ts_nil C'
    · exact ts_one (hq _ _ X' f C' h7).pt
    · exact ff h7
  · obtain (_ | asy) | asy := asy <;> exact ff h
theorem ok_met (b : IE) (hb : OkE B t b) : OkE B t (.met b) := fun c E X e C h => by
  cases e <;> first | exact ff h | skip
  rename_i g es kw p
  cases g <;> first | exact ff h | skip
  rename_i x px
  obtain _ | ⟨e, _ | ⟨e2, es⟩⟩ := es
  · exact ff h
  · cases e <;> first | exact ff h | skip
    rename_i ps body scope lp
    cases kw <;> first | exact ff h | skip
    have H := (show (isG c x && strE x t.mn && !strE x "" && c.lm && Nat.ble 2 c.k && LamX.lamSB c.sc scope && noPar ps && (!(t.mc.any fun q => isR q.2) || c.gd) && chk t ⟨c.N, scope, c.k - 2, false, fun _ => false, false⟩ b body) = true from h)
    simp only [Bool.and_eq_true] at H
    obtain ⟨⟨⟨⟨⟨⟨⟨⟨h1, h2⟩, h3⟩, h4⟩, h5⟩, h6⟩, h7⟩, h9⟩, h8⟩ := H
    have e1 := strE_ok h2
    subst e1
    have hk := Nat.le_of_ble_eq_true h5
    have M := K.met (fun z => by rw [z] at h3; exact ff h3)
    have hps : ps = ⟨[], [], none, [], [], none, []⟩ := by
      obtain ⟨a, b, v, d, e, f, g⟩ := ps
      cases a <;> cases b <;> cases v <;> cases d <;> cases e <;> cases f <;> cases g <;> first | rfl | exact ff h7
    subst hps
    refine snd_val (x_met (k := c.k - 2) M C (fun z => by rw [z] at h9; exact h9) h4 (by omega) (isG_ok h1) (LamX.lamS_by h6) rfl (fun q cl pm cv ctv => rfl) fun X' E' C' => (hb _ E' X' body C' h8).pe) rfl
  · cases e <;> exact ff h
theorem ok_dic (b : Bool) : OkE B t (.dic b) := fun c E X e C h => by
  cases e <;> first | exact ff h | skip
  rename_i ks vs p
  cases ks <;> cases vs <;> first | exact ff h | skip
  exact snd_val (x_dic b) rfl
theorem ok_repr (a : IE) (ha : OkE B t a) : OkE B t (.repr a) := fun c E X e C h => by
  cases e <;> first | exact ff h | skip
  rename_i g es kw p
  cases g <;> first | exact ff h | skip
  rename_i x px
  obtain _ | ⟨e, _ | ⟨e2, es⟩⟩ := es
  · exact ff h
  · cases kw <;> first | exact ff h | skip
    have H := (show (isG c x && strE x "repr" && inBl t x && c.gd && !isStar e && chk t c a e) = true from h)
    simp only [Bool.and_eq_true] at H
    obtain ⟨⟨⟨⟨⟨h1, h2⟩, h3⟩, h4⟩, h5⟩, h6⟩ := H
    have e1 := strE_ok h2
    subst e1
    exact snd_val (x_repr C h4 (isG_ok h1) (K.bl _ (inBl_ok h3)) (ha c E X e C h6).pe (star_no (not_t h5))) rfl
  · exact ff h
theorem ok_lsf (l : IA) (ha : OkA B t l) : OkE B t (.lsf l) := fun c E X e C h => by
  cases e <;> first | exact ff h | skip
  rename_i es p
  exact snd_val (x_lsf (ha c E X es C h).pa) rfl
theorem ok_adf (a b : IE) (ha : OkE B t a) (hb : OkE B t b) : OkE B t (.adf a b) := fun c E X e C h => by
  cases e <;> first | exact ff h | skip
  rename_i l o r p
  cases o <;> first | exact ff h | skip
  obtain ⟨h1, h2⟩ := a2 (show (chk t c a l && chk t c b r) = true from h)
  exact snd_val (x_adf (ha c E X l C h1).pe (hb c E X r C h2).pe) rfl
theorem ok_dicf : OkE B t .dicf := fun c E X e C h => by
  cases e <;> first | exact ff h | skip
  rename_i ks vs p
  cases ks <;> cases vs <;> first | exact ff h | skip
  exact snd_val x_dicf rfl
theorem ok_catr (w : Str) (a : IE) (ha : OkE B t a) : OkE B t (.catr w a) := fun c E X e C h => by
  cases e <;> first | exact ff h | skip
  rename_i l o r p
  cases l <;> first | exact ff h | skip
  rename_i k j p1
  cases k <;> first | exact ff h | skip
  rename_i z
  cases o <;> first | exact ff h | skip
  cases r <;> first | exact ff h | skip
  rename_i g es kw p2
  cases g <;> first | exact ff h | skip
  rename_i x px
  obtain _ | ⟨e, _ | ⟨e2, es⟩⟩ := es
  · exact ff h
  · cases kw <;> first | exact ff h | skip
    have H := (show (strE w z && isG c x && strE x "repr" && inBl t x && c.gd && !isStar e && chk t c a e) = true from h)
    simp only [Bool.and_eq_true] at H
    obtain ⟨⟨⟨⟨⟨⟨h0, h1⟩, h2⟩, h3⟩, h4⟩, h5⟩, h6⟩ := H
    have e0 := strE_ok h0
    have e1 := strE_ok h2
    subst e0 e1
    exact snd_val (x_catr C h4 (isG_ok h1) (K.bl _ (inBl_ok h3)) (ha c E X e C h6).pe (star_no (not_t h5))) rfl
  · exact ff h
theorem ok_kd (j : Nat) (a : IE) (ha : OkE B t a) : OkE B t (.kd j a) := fun c E X e C h => by
  cases e <;> first | exact ff h | skip
  rename_i g f p
  cases g <;> first | exact ff h | skip
  rename_i x px
  have H := (show (isG c x && !isSlice f && (match (generalizing := false) t.kt[j]? with | some (y, _) => strE y x | none => false) && chk t c a f) = true from h)
  simp only [Bool.and_eq_true] at H
  obtain ⟨⟨⟨h1, h2⟩, h3⟩, h4⟩ := H
  have hd : den t (.kd j a) = match t.kt[j]? with | some (_, l) => xKd l (den t a) | none => fun _ _ _ _ => false := rfl
  cases q : t.kt[j]? with
  | none => rw [q] at h3; exact ff h3
  | some yd =>
    obtain ⟨y, l⟩ := yd
    rw [q] at h3 hd
    have ey := strE_ok (show strE y x = true from h3)
    subst ey
    rw [hd]
    exact snd_val (x_kd C (K.kt j y l q) (isG_ok h1) (ha c E X f C h4).pe (ix_plain (not_t h2))) rfl
theorem ok_metD (b : IE) (hb : OkE B t b) : OkE B t (.metD b) := fun c E X e C h => by
  have h' : (match lamOf e with
    | some (x, d, body, scope) => isG c x && strE x t.mn && !strE x "" && c.lm && Nat.ble 2 c.k && lamDB c.N c.sc scope d && (!(t.mc.any fun q => isR q.2) || c.gd) && chk t ⟨c.N, scope, c.k - 2, false, fun _ => false, false⟩ b body
    | none => false) = true := h
  cases q : lamOf e with
  | none => rw [q] at h'; exact ff h'
  | some r =>
    obtain ⟨x, d, body, scope⟩ := r
    rw [q] at h'
    simp only [Bool.and_eq_true] at h'
    obtain ⟨⟨⟨⟨⟨⟨⟨h1, h2⟩, h3⟩, h4⟩, h5⟩, h6⟩, h9⟩, h8⟩ := h'
    obtain ⟨a0, i0, k0, p0, p, lp, pos, ee, ed⟩ := lamOf_ok q
    have e1 := strE_ok h2
    subst e1 ee ed
    have hk := Nat.le_of_ble_eq_true h5
    have M := K.met (fun z => by rw [z] at h3; exact ff h3)
    exact snd_val (x_metD (k := c.k - 2) M C (fun z => by rw [z] at h9; exact h9) h4 (by omega) (isG_ok h1) (lamD_by h6) fun X' E' C' => (hb _ E' X' body C' h8).pe) rfl
theorem ok_abs (i : Nat) (a : IE) (ha : OkE B t a) : OkE B t (.abs i a) := fun c E X e C h => by
  obtain ⟨h1, h2⟩ := a2 (show (isPlainT e && chk t c a e) = true from h)
  exact snd_val (x_abs (K.kl i) (ha c E X e C h2).pe) h1
theorem ok_nope : OkE B t .nope := fun c E X e C h => ⟨x_no, t_no, fun _ => w_no⟩
theorem ok_frz (a : IE) (ha : OkE B t a) : OkE B t (.frz a) := fun c E X e C h => by
  obtain ⟨h1, h2⟩ := a2 (show (isPlainT e && chk t c a e) = true from h)
  exact snd_val (x_fz (ha c E X e C h2).pe) h1
theorem ok_rev (a : IE) (ha : OkE B t a) : OkE B t (.rev a) := fun c E X e C h => by
  have h' : (match (generalizing := false) revOf e with | some x => chk t c a x | none => false) = true := h
  cases q : revOf e with
  | none => rw [q] at h'; exact ff h'
  | some x =>
    rw [q] at h'
    obtain ⟨k, p1, p2, p3, p, ee⟩ := revOf_ok q
    subst ee
    exact snd_val (x_rev C (ha c E X x C h').pe) rfl
theorem ok_pop (a : IE) (ha : OkE B t a) : OkE B t (.pop a) := fun c E X e C h => by
  have h' : (match (generalizing := false) m0Of e with | some (o, x, p, q) => strE x "pop" && !isCallE o && Nat.beq p.endLine q.line && chk t c a o | none => false) = true := h
  cases q : m0Of e with
  | none => rw [q] at h'; exact ff h'
  | some r =>
    obtain ⟨o, x, p1, p2⟩ := r
    rw [q] at h'
    have H := (show (strE x "pop" && !isCallE o && Nat.beq p1.endLine p2.line && chk t c a o) = true from h')
    simp only [Bool.and_eq_true] at H
    obtain ⟨⟨⟨h1, h2⟩, h3⟩, h4⟩ := H
    have ee := m0Of_ok q
    have ex := strE_ok h1
    subst ee ex
    exact snd_val (x_pop C (ha c E X o C h4).pe (base_no (x := "pop") (env := X.env) (t := eval o X.env) (not_t h2)) (nbeq h3)) rfl
theorem ok_idx (tt : Bool) (a b : IE) (ha : OkE B t a) (hb : OkE B t b) : OkE B t (.idx tt a b) := fun c E X e C h => by
  have h' : (match (generalizing := false) m1Of e with | some (o, x, p, f, q) => strE x "index" && !isCallE o && Nat.beq p.endLine q.line && !isStar f && chk t c a o && chk t c b f | none => false) = true := h
  cases q : m1Of e with
  | none => rw [q] at h'; exact ff h'
  | some r =>
    obtain ⟨o, x, p1, f, p2⟩ := r
    rw [q] at h'
    have H := (show (strE x "index" && !isCallE o && Nat.beq p1.endLine p2.line && !isStar f && chk t c a o && chk t c b f) = true from h')
    simp only [Bool.and_eq_true] at H
    obtain ⟨⟨⟨⟨⟨h1, h2⟩, h3⟩, h5⟩, h4⟩, h6⟩ := H
    have ee := m1Of_ok q
    have ex := strE_ok h1
    subst ee ex
    have hs := star_no (es := []) (env := X.env) (not_t h5)
    exact snd_val (x_idx tt C (u65 C) (ha c E X o C h4).pe (hb c E X f C h6).pe (base_no (x := "index") (env := X.env) (t := eval o X.env) (not_t h2)) (few_ok (by rw [List.any_cons, not_t h5]; rfl) (by simp)) (nbeq h3) hs rfl) rfl
theorem ok_exn (i : Nat) (a : IE) (ha : OkE B t a) : OkE B t (.exn i a) := fun c E X e C h => by
  have h' : (match (generalizing := false) callOf e with
    | some (x, [f]) => (match (generalizing := false) t.ec[i]? with
      | some (y, k) => strE y x && isG c x && (!k || Nat.ble 1 c.k) && !isStar f && chk t c a f
      | none => false)
    | _ => false) = true := h
  have hd : den t (.exn i a) = match t.ec[i]? with | some (_, true) => xExK i (den t a) | some (_, false) => xExP i (den t a) | none => fun _ _ _ _ => false := rfl
  split at h'
  · rename_i x f e1
    obtain ⟨p, q, rfl⟩ := callOf_ok e1
    cases z : t.ec[i]? with
    | none => rw [z] at h'; exact ff h'
    | some yk =>
      obtain ⟨y, k⟩ := yk
      rw [z] at h' hd
      have H := (show (strE y x && isG c x && (!k || Nat.ble 1 c.k) && !isStar f && chk t c a f) = true from h')
      simp only [Bool.and_eq_true] at H
      obtain ⟨⟨⟨⟨h1, h2⟩, h3⟩, h4⟩, h5⟩ := H
      have ex := strE_ok h1
      subst ex
      rw [hd]
      have he := star_no (es := []) (env := X.env) (not_t h4)
      cases k with
      | false =>
        obtain ⟨P, hc⟩ := K.exP i y z
        exact snd_val (x_exP P C hc (isG_ok h2) (ha c E X f C h5).pe he) rfl
      | true =>
        obtain ⟨⟨P⟩, hc⟩ := K.exK i y z
        exact snd_val (x_exK P C (Nat.le_of_ble_eq_true h3) hc rfl (isG_ok h2) (ha c E X f C h5).pe he) rfl
  · exact ff h'
theorem ok_isx (j : Nat) (a : IE) (ha : OkE B t a) : OkE B t (.isx j a) := fun c E X e C h => by
  have h' : (match (generalizing := false) isxOf e with
    | some (x, f, y) => (match (generalizing := false) t.ix[j]? with
      | some (z, _) => strE x "isinstance" && strE z y && isG c x && isG c y && inBl t x && !isStar f && chk t c a f
      | none => false)
    | none => false) = true := h
  have hd : den t (.isx j a) = match t.ix[j]? with | some (_, l) => xIsx l (den t a) | none => fun _ _ _ _ => false := rfl
  cases q : isxOf e with
  | none => rw [q] at h'; exact ff h'
  | some r =>
    obtain ⟨x, f, y⟩ := r
    rw [q] at h'
    obtain ⟨p1, p2, p3, ee⟩ := isxOf_ok q
    subst ee
    have h' : (match (generalizing := false) t.ix[j]? with
      | some (z, _) => strE x "isinstance" && strE z y && isG c x && isG c y && inBl t x && !isStar f && chk t c a f
      | none => false) = true := h'
    cases z : t.ix[j]? with
    | none => rw [z] at h'; exact ff h'
    | some zl =>
      obtain ⟨z1, l⟩ := zl
      rw [z] at h' hd
      have H := (show (strE x "isinstance" && strE z1 y && isG c x && isG c y && inBl t x && !isStar f && chk t c a f) = true from h')
      simp only [Bool.and_eq_true] at H
      obtain ⟨⟨⟨⟨⟨⟨h1, h2⟩, h3⟩, h4⟩, h5⟩, h6⟩, h7⟩ := H
      have e1 := strE_ok h1
      have e2 := strE_ok h2
      subst e1 e2
      rw [hd]
      exact snd_val (x_isx (K.ix j _ l z) C (isG_ok h3) (K.bl _ (inBl_ok h5)) (isG_ok h4) (ha c E X f C h7).pe (star_no (not_t h6))) rfl
theorem ok_fld (n : Str) (a : IE) (ha : OkE B t a) : OkE B t (.fld n a) := fun c E X e C h => by
  have h' : (match (generalizing := false) attOf e with
    | some (f, x) => strE x n && !isCallE f && !t.fl.isEmpty && chk t c a f
    | none => false) = true := h
  cases q : attOf e with
  | none => rw [q] at h'; exact ff h'
  | some r =>
    obtain ⟨f, x⟩ := r
    rw [q] at h'
    obtain ⟨p1, ee⟩ := attOf_ok q
    subst ee
    have H := (show (strE x n && !isCallE f && !t.fl.isEmpty && chk t c a f) = true from h')
    simp only [Bool.and_eq_true] at H
    obtain ⟨⟨⟨h1, h2⟩, h3⟩, h4⟩ := H
    have e1 := strE_ok h1
    subst e1
    exact snd_val (x_fld (K.fl (not_t h3)) C (ha c E X f C h4).pe (base_no (x := x) (env := X.env) (t := eval f X.env) (not_t h2))) rfl
theorem ok_eqr (n : Bool) (a b : IE) (ha : OkE B t a) (hb : OkE B t b) : OkE B t (.eqr n a b) := fun c E X e C h => by
  have h' : (match (generalizing := false) eqrOf e with
    | some (n2, x, f, y, g) => (n2 == n) && strE x "repr" && strE y "repr" && isG c x && inBl t x && c.gd && t.sys && !isStar f && !isStar g && chk t c a f && chk t c b g
    | none => false) = true := h
  cases q : eqrOf e with
  | none => rw [q] at h'; exact ff h'
  | some r =>
    obtain ⟨n2, x, f, y, g⟩ := r
    rw [q] at h'
    obtain ⟨p1, p2, p3, p4, p5, ee⟩ := eqrOf_ok q
    subst ee
    have H := (show ((n2 == n) && strE x "repr" && strE y "repr" && isG c x && inBl t x && c.gd && t.sys && !isStar f && !isStar g && chk t c a f && chk t c b g) = true from h')
    simp only [Bool.and_eq_true] at H
    obtain ⟨⟨⟨⟨⟨⟨⟨⟨⟨⟨h0, h1⟩, h2⟩, h3⟩, h4⟩, h5⟩, h6⟩, h7⟩, h8⟩, h9⟩, h10⟩ := H
    have e0 := beq_iff_eq.mp h0
    have e1 := strE_ok h1
    have e2 := strE_ok h2
    subst e0 e1 e2
    have R := x_eqR (p := p1) (p2 := p3) (pos := p2) (pos2 := p4) (pos3 := p5) n2 C h5 (isG_ok h3) (K.bl _ (inBl_ok h4)) (K.sys h6) (ha c E X f C h9).pe (hb c E X g C h10).pe (star_no (not_t h7)) (star_no (not_t h8))
    exact snd_cmp R (t_eqR n2 C h5 (isG_ok h3) (K.bl _ (inBl_ok h4)) (K.sys h6) (ha c E X f C h9).pe (hb c E X g C h10).pe (star_no (not_t h7)) (star_no (not_t h8))) rfl
theorem ok_dsp (ps : List (Key × Rw)) : OkE B t (.dsp ps) := fun c E X e C h => by
  have h' : (match (generalizing := false) dispOf e with
    | some qs => eqPs qs ps
    | none => false) = true := h
  cases q : dispOf e with
  | none => rw [q] at h'; exact ff h'
  | some qs =>
    rw [q] at h'
    have e1 := eqPs_ok qs ps h'
    subst e1
    have hp : isPlainT e = true := by
      cases e <;> first | rfl | (exact absurd q (by simp [dispOf]))
    exact snd_val (x_dsp q) hp
theorem ok_dg (a b : IE) (ha : OkE B t a) (hb : OkE B t b) : OkE B t (.dg a b) := fun c E X e C h => by
  cases e <;> first | exact ff h | skip
  rename_i e f p
  obtain ⟨h1, h2⟩ := a2 (show (!isSlice f && chk t c a e && chk t c b f) = true from h)
  obtain ⟨h0, h1⟩ := a2 h1
  exact snd_val (x_dg C (ha c E X e C h1).pe (hb c E X f C h2).pe (fun o i => by cases f <;> first | rfl | (cases (not_t h0)))) rfl
theorem ok_tmd (l : IA) (ha : OkA B t l) : OkE B t (.tmd l) := fun c E X e C h => by
  have h' : (match (generalizing := false) tupOf e with | some (es, _) => chkA t c l es | none => false) = true := h
  cases q : tupOf e with
  | none => rw [q] at h'; exact ff h'
  | some r =>
    obtain ⟨es, b⟩ := r
    rw [q] at h'
    obtain ⟨k, p, ee⟩ := tupOf_ok q
    subst ee
    exact snd_val (x_tupM (ha c E X es C h').pa) rfl
theorem ok_lset (a : IE) (ha : OkE B t a) : OkE B t (.lset a) := fun c E X e C h => by
  have h' : (match (generalizing := false) callOf e with
    | some (x, [f]) => (match (generalizing := false) callOf f with
      | some (y, [g]) => isG c x && isG c y && strE x "len" && strE y "set" && inBl t x && inBl t y && !isStar g && chk t c a g
      | _ => false)
    | _ => false) = true := h
  split at h'
  · rename_i x f e1
    split at h'
    · rename_i y g e2
      obtain ⟨_, _, rfl⟩ := callOf_ok e1
      obtain ⟨_, _, rfl⟩ := callOf_ok e2
      simp only [Bool.and_eq_true] at h'
      obtain ⟨⟨⟨⟨⟨⟨⟨h1, h2⟩, h3⟩, h4⟩, h5⟩, h6⟩, h7⟩, h8⟩ := h'
      have e3 := strE_ok h3
      have e4 := strE_ok h4
      subst e3 e4
      exact snd_val (x_lset C (isG_ok h1) (K.bl _ (inBl_ok h5)) (isG_ok h2) (K.bl _ (inBl_ok h6)) (ha c E X g C h8).pe (star_no (not_t h7))) rfl
    · exact ff h'
  · exact ff h'
omit K in
theorem isTrueC_ok {q : IE} (h : isTrueC q = true) : q = .con (.bl true) := by
  unfold isTrueC at h
  split at h
  · rfl
  · cases h
theorem ok_ifs {c : SI} {E : XK} {X : Cx} {q : IE} {ifs : List Expr} (hq : OkE B t q) (C : Cok B c E0 X) (h : (match ifs with
        | [] => isTrueC q
        | [e] => chk t c q e
        | _ => false) = true) : PTs X ifs (TB B E0 (den t q)) := by
  obtain _ | ⟨f, _ | ⟨f2, fs⟩⟩ := ifs
  · have e := isTrueC_ok h
    subst e
    exact ts_nil C
  · exact ts_one (hq _ _ X f C h).pt
  · exact ff h
theorem ok_lc2 (i : II) (g : IG) (q : IE) (i1 : II) (g1 : IG) (q1 el : IE) (own : List (Str × Nat)) (vs1 : List Nat) (tr : Bool) (hi : OkI B t i) (hq : OkE B t q) (hi1 : OkI B t i1) (hq1 : OkE B t q1) (he : OkE B t el) : OkE B t (.lc2 i g q i1 g1 q1 el own vs1 tr) := fun c E X e C h => by
  have h' : (match (generalizing := false) lc2Of e with
    | some (elt, tg, iter, ifs, tg1, iter1, ifs1, scope, _) => blkC c.N c.sc scope own && chkI t c (isTupE tg) i iter && !isSet iter && chkG (c.blk scope) g tg && (slG g).all (fun i => (own.map (·.2)).any (Nat.beq i)) && chkI t (c.blk scope) (isTupE tg1) i1 iter1 && !isSet iter1 && chkG (c.blk scope) g1 tg1 && (slG g1).all (fun i => vs1.any (Nat.beq i)) && vs1.all (fun i => (own.map (·.2)).any (Nat.beq i)) && chk t (c.blk scope) el elt
      && (match (generalizing := false) ifs with
        | [] => isTrueC q
        | [e] => chk t (c.blk scope) q e
        | _ => false)
      && (match (generalizing := false) ifs1 with
        | [] => isTrueC q1
        | [e] => chk t (c.blk scope) q1 e
        | _ => false)
    | none => false) = true := h
  cases z : lc2Of e with
  | none => rw [z] at h'; exact ff h'
  | some r =>
    obtain ⟨elt, tg, iter, ifs, tg1, iter1, ifs1, scope, pos⟩ := r
    rw [z] at h'
    have ee := lc2Of_ok z
    subst ee
    simp only [Bool.and_eq_true] at h'
    obtain ⟨⟨⟨⟨⟨⟨⟨⟨⟨⟨⟨⟨h1, h2⟩, h3⟩, h4⟩, h5⟩, h6⟩, h7⟩, h8⟩, h9⟩, h10⟩, h11⟩, h12⟩, h13⟩ := h'
    rw [List.all_eq_true] at h5 h9 h10
    exact snd_val (x_lc2 (w := own.map (·.2)) (w1 := vs1) C C.nd (hi c E X tg iter C h2) (blkOk_by h1) (fun i z => z) (fun i z => any_mem (h10 i z)) (fun i z => z) (fun X' C' => chkG_ok C' g tg h4 fun i z => any_mem (h5 i z)) (fun X' C' => ok_ifs K (E := E0) hq C' h12) (fun X' C' => hi1 _ _ X' tg1 iter1 C' h6)
      (fun X' C' => chkG_ok C' g1 tg1 h8 fun i z => any_mem (h9 i z)) (fun X' C' => ok_ifs K (E := E0) hq1 C' h13) (fun X' C' => (he _ _ X' elt C' h11).pe) (set_no (not_t h3)) (fun env => set_no (not_t h7))) rfl
theorem ok_mml (i n : Nat) : OkE B t (.mml i n) := fun c E X e C h => by
  replace h : mmlB t c i n e = true := h
  unfold mmlB at h
  split at h
  · rename_i x a b e1
    split at h
    · rename_i k y d f e2 e3
      split at h
      · rename_i l z g e4 e5
        split at h
        · rename_i v e6
          obtain ⟨_, _, rfl⟩ := callOf_ok e1
          obtain ⟨_, _, rfl⟩ := intOf_ok e2
          obtain ⟨_, _, rfl⟩ := callOf_ok e3
          obtain ⟨_, _, rfl⟩ := intOf_ok e4
          obtain ⟨_, _, rfl⟩ := callOf_ok e5
          obtain ⟨_, rfl⟩ := nmOf_ok e6
          simp only [Bool.and_eq_true] at h
          obtain ⟨⟨⟨⟨⟨⟨⟨⟨⟨⟨⟨⟨⟨h1, h2⟩, h3⟩, h4⟩, h5⟩, h6⟩, h7⟩, h8⟩, h9⟩, ha⟩, hb⟩, hc⟩, hd⟩, he⟩ := h
          rw [iEq_eq, decide_eq_true_eq] at h1 h2
          have h3 := strE_ok h3
          have h4 := strE_ok h4
          have h5 := strE_ok h5
          obtain ⟨n1, n2, _⟩ := notD_ok he
          subst h1 h2 h3 h4 h5
          exact snd_val (x_mml C (pe_var (C.at_ (nAt_ok hc)) (C.vis (isV_ok hd)) n1 n2) (isG_ok h6) (isG_ok h7) (isG_ok h8) (K.bl _ (inBl_ok h9)) (K.bl _ (inBl_ok ha)) (K.bl _ (inBl_ok hb)) rfl) rfl
        · exact ff h
      · exact ff h
    · exact ff h
  · exact ff h
theorem ok_nil : OkA B t .nil := fun c E X es C h => by
  cases es <;> first | exact ff h | exact ⟨a_nil, fun _ _ z => by cases z⟩
theorem ok_cons (e : IE) (r : IA) (he : OkE B t e) (hr : OkA B t r) : OkA B t (.cons e r) := fun c E X es C h => by
  obtain _ | ⟨f, es⟩ := es
  · exact ff h
  obtain ⟨h1, h2⟩ := a2 (show (!isStar f && chk t c e f && chkA t c r es) = true from by cases f <;> exact h)
  obtain ⟨h0, h1⟩ := a2 h1
  have h0 := not_t h0
  exact ⟨a_cons (he c E X f C h1).pe (hr c E X es C h2).pa (star_no h0), fun e p z => by cases z; exact ff h0.symm⟩
theorem ok_star (e : IE) (r : IA) (he : OkE B t e) (hr : OkA B t r) : OkA B t (.star e r) := fun c E X es C h => by
  obtain _ | ⟨f, es⟩ := es
  · exact ff h
  cases f <;> first | exact ff h | skip
  rename_i f p
  obtain ⟨h1, h2⟩ := a2 (show (chk t c e f && chkA t c r es) = true from h)
  refine ⟨a_star C (he c E X f C h1).pe (hr c E X es C h2).pa rfl, fun e' p' z => ?_⟩
  cases z
  cases r <;> first | exact ff h2 | exact ⟨_, rfl, (he c E X f C h1).pe⟩
theorem ok_seq (e : IE) (he : OkE B t e) : OkI B t (.seq e) := fun c E X tg f C h => i_seq C.K (he c E X f C h).pe
theorem ok_rg1 (a : IE) (ha : OkE B t a) : OkI B t (.rg1 a) := fun c E X tg e C h => by
  cases e <;> first | exact ff h | skip
  rename_i g es kw p
  cases g <;> first | exact ff h | skip
  rename_i x px
  obtain _ | ⟨e, _ | ⟨e2, es⟩⟩ := es
  · exact ff h
  · cases kw <;> first | exact ff h | skip
    have H := (show (isG c x && strE x "range" && inBl t x && !isStar e && chk t c a e) = true from h)
    simp only [Bool.and_eq_true] at H
    obtain ⟨⟨⟨⟨h1, h2⟩, h3⟩, h4⟩, h5⟩ := H
    have ex := strE_ok h2
    subst ex
    exact i_rng1 (C.gl (isG_ok h1)) (by rw [C.mg]; exact K.bl _ (inBl_ok h3)) (ha c E X e C h5).pe (star_no (not_t h4))
  · exact ff h
theorem ok_rg2 (a b : IE) (ha : OkE B t a) (hb : OkE B t b) : OkI B t (.rg2 a b) := fun c E X tg e C h => by
  cases e <;> first | exact ff h | skip
  rename_i g es kw p
  cases g <;> first | exact ff h | skip
  rename_i x px
  obtain _ | ⟨e, _ | ⟨e2, _ | ⟨e3, es⟩⟩⟩ := es
  · exact ff h
  · exact ff h
  · cases kw <;> first | exact ff h | skip
    have H := (show (isG c x && strE x "range" && inBl t x && !isStar e && !isStar e2 && chk t c a e && chk t c b e2) = true from h)
    simp only [Bool.and_eq_true] at H
    obtain ⟨⟨⟨⟨⟨⟨h0, h1⟩, h2⟩, h3⟩, h4⟩, h5⟩, h6⟩ := H
    have ex := strE_ok h1
    subst ex
    exact i_rng2 (C.gl (isG_ok h0)) (by rw [C.mg]; exact K.bl _ (inBl_ok h2)) (ha c E X e C h5).pe (hb c E X e2 C h6).pe (by rw [star_no (not_t h3), star_no (not_t h4)]; rfl) (by rw [star_no (not_t h4)]; rfl)
  · exact ff h
theorem ok_zip (a b : IE) (ha : OkE B t a) (hb : OkE B t b) : OkI B t (.zip a b) := fun c E X tg e C h => by
  cases e <;> first | exact ff h | skip
  rename_i g es kw p
  cases g <;> first | exact ff h | skip
  rename_i x px
  obtain _ | ⟨e, _ | ⟨e2, _ | ⟨e3, es⟩⟩⟩ := es
  · exact ff h
  · exact ff h
  · cases kw <;> first | exact ff h | skip
    have H := (show (isG c x && strE x "zip" && inBl t x && !isStar e && !isStar e2 && isTupE tg && chk t c a e && chk t c b e2) = true from h)
    simp only [Bool.and_eq_true] at H
    obtain ⟨⟨⟨⟨⟨⟨⟨h0, h1⟩, h2⟩, h3⟩, h4⟩, h7⟩, h5⟩, h6⟩ := H
    have ex := strE_ok h1
    subst ex
    cases tg <;> first | exact ff h7 | skip
    exact i_zip C.K (C.gl (isG_ok h0)) (by rw [C.mg]; exact K.bl _ (inBl_ok h2)) (ha c E X e C h5).pe (hb c E X e2 C h6).pe (by rw [star_no (not_t h3), star_no (not_t h4)]; rfl) (by rw [star_no (not_t h4)]; rfl) (by rw [star_no (not_t h4)]; rfl)
  · exact ff h
theorem ok_enum (a : IE) (ha : OkE B t a) : OkI B t (.enum a) := fun c E X tg e C h => by
  cases e <;> first | exact ff h | skip
  rename_i g es kw p
  cases g <;> first | exact ff h | skip
  rename_i x px
  obtain _ | ⟨e, _ | ⟨e2, es⟩⟩ := es
  · exact ff h
  · cases kw <;> first | exact ff h | skip
    have H := (show (isG c x && strE x "enumerate" && inBl t x && !isStar e && isTupE tg && chk t c a e) = true from h)
    simp only [Bool.and_eq_true] at H
    obtain ⟨⟨⟨⟨⟨h0, h1⟩, h2⟩, h3⟩, h7⟩, h5⟩ := H
    have ex := strE_ok h1
    subst ex
    cases tg <;> first | exact ff h7 | skip
    exact i_enum C.K (C.gl (isG_ok h0)) (by rw [C.mg]; exact K.bl _ (inBl_ok h2)) (ha c E X e C h5).pe (by rw [star_no (not_t h3)]; rfl)
  · exact ff h
mutual
theorem okE : ∀ i : IE, OkE B t i
  | .var i => ok_var K i
  | .con d => ok_con K d
  | .glo i => ok_glo K i
  | .bin o a b => ok_bin K o a b (okE a) (okE b)
  | .add a b => ok_add K a b (okE a) (okE b)
  | .mul a b => ok_mul K a b (okE a) (okE b)
  | .neg a => ok_neg K a (okE a)
  | .cmp o a b => ok_cmp K o a b (okE a) (okE b)
  | .ch o p a b c => ok_ch K o p a b c (okE a) (okE b) (okE c)
  | .eq n a b => ok_eq K n a b (okE a) (okE b)
  | .is n o a => ok_is K n o a (okE a)
  | .inn n a b => ok_inn K n a b (okE a) (okE b)
  | .and_ a b => ok_and K a b (okE a) (okE b)
  | .or_ a b => ok_or K a b (okE a) (okE b)
  | .not_ a => ok_not K a (okE a)
  | .ite c a b => ok_ite K c a b (okE c) (okE a) (okE b)
  | .tup l => ok_tup K l (okA l)
  | .lst l => ok_lst K l (okA l)
  | .call f l => ok_call K f l (okA l)
  | .ix a b => ok_ix K a b (okE a) (okE b)
  | .sl a bl bh lo hi => ok_sl K a bl bh lo hi (okE a) (okE lo) (okE hi)
  | .bt n l => ok_bt K n l (okA l)
  | .isi n a => ok_isi K n a (okE a)
  | .bits a => ok_bits K a (okE a)
  | .mt n a l => ok_mt K n a l (okE a) (okA l)
  | .lc i g q el own tr => ok_lc K i g q el own tr (okI i) (okE q) (okE el)
  | .met b => ok_met K b (okE b)
  | .dic b => ok_dic K b
  | .mml i n => ok_mml K i n
  | .repr a => ok_repr K a (okE a)
  | .lsf l => ok_lsf K l (okA l)
  | .adf a b => ok_adf K a b (okE a) (okE b)
  | .dicf => ok_dicf K
  | .catr w a => ok_catr K w a (okE a)
  | .kd j a => ok_kd K j a (okE a)
  | .metD b => ok_metD K b (okE b)
  | .abs i a => ok_abs K i a (okE a)
  | .nope => ok_nope K
  | .frz a => ok_frz K a (okE a)
  | .rev a => ok_rev K a (okE a)
  | .pop a => ok_pop K a (okE a)
  | .lset a => ok_lset K a (okE a)
  | .idx tt a b => ok_idx K tt a b (okE a) (okE b)
  | .tmd l => ok_tmd K l (okA l)
  | .exn i a => ok_exn K i a (okE a)
  | .isx j a => ok_isx K j a (okE a)
  | .fld n a => ok_fld K n a (okE a)
  | .eqr n a b => ok_eqr K n a b (okE a) (okE b)
  | .dsp ps => ok_dsp K ps
  | .dg a b => ok_dg K a b (okE a) (okE b)
  | .lc2 i g q i1 g1 q1 el own vs1 tr => ok_lc2 K i g q i1 g1 q1 el own vs1 tr (okI i) (okE q) (okI i1) (okE q1) (okE el)
theorem okA : ∀ i : IA, OkA B t i
  | .nil => ok_nil K
  | .cons e r => ok_cons K e r (okE e) (okA r)
  | .star e r => ok_star K e r (okE e) (okA r)
theorem okI : ∀ i : II, OkI B t i
  | .seq e => ok_seq K e (okE e)
  | .rg1 a => ok_rg1 K a (okE a)
  | .rg2 a b => ok_rg2 K a b (okE a) (okE b)
  | .zip a b => ok_zip K a b (okE a) (okE b)
  | .enum a => ok_enum K a (okE a)
end
end
end Ev
end
end

/-! part EvV -/
section
set_option Elab.async false
set_option linter.all false
set_option maxRecDepth 100000
set_option maxHeartbeats 4000000
/-! EvV: terms of statements. -/
noncomputable section
namespace Ev
open PySem PySem.Spec PyProof.Rows L2

mutual
inductive IS where
  | set (i : Nat) (e : IE) | setc (i : Nat) (e : IE) | asg (g : IG) (e : IE) | par2 (i j : Nat) (l : IA) | par3 (i j k : Nat) (l : IA) | aug (i : Nat) (o : Bop) (e : IE)
  | ret (e : IE) | retN | exp (e : IE) | iff (q : IE) (a b : ISs) | whl (f : Nat) (q : IE) (b : ISs) | for_ (g : IG) (i : II) (b : ISs) | pass | brk | cnt | rs (i : Nat) (e : IE) | rk (i : Nat) (e : IE) | nope
inductive ISs where
  | nil | one (s : IS) | cons (s : IS) (r : ISs) | rest | zr (i : Nat) (a b : IE) (g : IG) (q el : IE) (own : List (Str × Nat)) (tr : Bool)
end
mutual
def denS (t : Tb) : IS → XS
  | .set i e => sSet i (den t e)
  | .setc i e => sSet i (den t e)
  | .asg g e => sAsg (denG g) (den t e)
  | .par2 i j l => sPar2 i j (denA t l)
  | .par3 i j k l => sPar3 i j k (denA t l)
  | .aug i o e => sAug i o (den t e)
  | .ret e => sRet (den t e)
  | .retN => sRetN
  | .exp e => sExp (den t e)
  | .iff q a b => sIf (den t q) (denSs t a) (denSs t b)
  | .whl f q b => sWhile (den t q) (denSs t b) f
  | .for_ g i b => sFor (denI t i) (denG g) (denSs t b)
  | .pass => sSkip
  | .brk => sBrk
  | .cnt => sCnt
  | .rs i e => sRs i (den t e)
  | .rk i e => sRk i (den t e)
  | .nope => sNop
def denSs (t : Tb) : ISs → XS
  | .nil => sSkip
  | .one s => denS t s
  | .cons s r => sSeq (denS t s) (denSs t r)
  | .rest => sNop
  | .zr i a b g q el own tr => sZr i (den t a) (den t b) (denG g) (den t q) (den t el) (own.map (·.2)) tr
end
def isFn (k : ScopeKind) : Bool := match k with
  | .function => true
  | _ => false
theorem isFn_ok {k : ScopeKind} (h : isFn k = true) : k = .function := by cases k <;> first | rfl | cases h
/-! ### which stores are turned round -/
def namesAt (sc : Scope) (line : Nat) : List Expr → List Str := List.filterMap fun
  | .Name id pos => if sc.names.lookup id == some .local && pos.line == line then some id else none
  | _ => none
def anySt (vs : List Expr) : Bool := vs.any fun
  | .Starred .. => true
  | _ => false
/-- no store is turned round -/
def swN (sc : Scope) (ts vs : List Expr) : Bool :=
  !(ts.length == 2 || ts.length == 3) || vs.length != ts.length || anySt vs ||
    (let n := namesAt sc ((ts.head?.map (·.pos.line)).getD 0) ts
     n.length != ts.length || n.eraseDups.length != n.length || vs.all (foldedForSure 8))
def swY (sc : Scope) (ts vs : List Expr) : Bool :=
  (ts.length == 2 || ts.length == 3) && !(vs.length != ts.length) && !anySt vs &&
    (let n := namesAt sc ((ts.head?.map (·.pos.line)).getD 0) ts
     !(n.length != ts.length) && !(n.eraseDups.length != n.length) && !vs.all (foldedForSure 8) && !vs.all (constantsAlone 8))
theorem swN_ok {env : Env} {ts vs : List Expr} {k k2 p p2} (hk : env.scope.kind = .function) (h : swN env.scope ts vs = true) : swappedStores [.Tuple ts k p] (.Tuple vs k2 p2) env = pure none := by
  have hb : env.blockKind = .function := by unfold Env.blockKind; rw [hk]; rfl
  unfold swN at h
  unfold swappedStores
  simp only [hb]
  show (if (!(ts.length == 2 || ts.length == 3) || vs.length != ts.length || false) = true then pure none else
    if anySt vs = true then pure none else
    if ((namesAt env.scope ((ts.head?.map (·.pos.line)).getD 0) ts).length != ts.length || (namesAt env.scope ((ts.head?.map (·.pos.line)).getD 0) ts).eraseDups.length != (namesAt env.scope ((ts.head?.map (·.pos.line)).getD 0) ts).length) = true then pure none else
    if vs.all (foldedForSure 8) = true then pure none else if vs.all (constantsAlone 8) = true then (do unsupported "assign.tuple-of-constant-expressions:order-of-the-stores"; pure (some (namesAt env.scope ((ts.head?.map (·.pos.line)).getD 0) ts))) else pure (some (namesAt env.scope ((ts.head?.map (·.pos.line)).getD 0) ts)) : Sem (Option (List Str))) = _
  generalize namesAt env.scope ((ts.head?.map (·.pos.line)).getD 0) ts = n at h ⊢
  split
  · rfl
  · rename_i h1
    split
    · rfl
    · rename_i h2
      split
      · rfl
      · rename_i h3
        split
        · rfl
        · rename_i h4
          simp only [Bool.or_eq_true, Bool.or_false] at h h1 h3
          rcases h with (h | h) | h
          · exact absurd h h1
          · exact absurd h h2
          · rcases h with h | h
            · exact absurd h h3
            · exact absurd h h4
theorem swY_ok {env : Env} {ts vs : List Expr} {k k2 p p2} (hk : env.scope.kind = .function) (h : swY env.scope ts vs = true) : swappedStores [.Tuple ts k p] (.Tuple vs k2 p2) env = pure (some (namesAt env.scope ((ts.head?.map (·.pos.line)).getD 0) ts)) := by
  have hb : env.blockKind = .function := by unfold Env.blockKind; rw [hk]; rfl
  unfold swY at h
  unfold swappedStores
  simp only [hb]
  show (if (!(ts.length == 2 || ts.length == 3) || vs.length != ts.length || false) = true then pure none else
    if anySt vs = true then pure none else
    if ((namesAt env.scope ((ts.head?.map (·.pos.line)).getD 0) ts).length != ts.length || (namesAt env.scope ((ts.head?.map (·.pos.line)).getD 0) ts).eraseDups.length != (namesAt env.scope ((ts.head?.map (·.pos.line)).getD 0) ts).length) = true then pure none else
    if vs.all (foldedForSure 8) = true then pure none else if vs.all (constantsAlone 8) = true then (do unsupported "assign.tuple-of-constant-expressions:order-of-the-stores"; pure (some (namesAt env.scope ((ts.head?.map (·.pos.line)).getD 0) ts))) else pure (some (namesAt env.scope ((ts.head?.map (·.pos.line)).getD 0) ts)) : Sem (Option (List Str))) = _
  generalize namesAt env.scope ((ts.head?.map (·.pos.line)).getD 0) ts = n at h ⊢
  simp only [Bool.and_eq_true, Bool.not_eq_true'] at h
  obtain ⟨⟨⟨h1, h2⟩, h3⟩, ⟨⟨h4, h5⟩, h6⟩, h7⟩ := h
  rw [h2, h3, h4, h5, h6, h7, h1]
  rfl
def swT (sc : Scope) (ts vs : List Expr) (ns : List Str) : Bool := isFn sc.kind && swY sc ts vs && (namesAt sc ((ts.head?.map (·.pos.line)).getD 0) ts == ns)
/-- the value of a plain assignment to a pattern -/
def asgOk (sc : Scope) (ts : List Expr) : Expr → Bool
  | .Tuple vs _ _ => isFn sc.kind && swN sc ts vs
  | _ => true
theorem asg_ok {env : Env} {ts : List Expr} {v : Expr} {k p} (h : asgOk env.scope ts v = true) : swappedStores [.Tuple ts k p] v env = pure none := by
  cases v <;> first | rfl | (obtain ⟨h1, h2⟩ := Bool.and_eq_true _ _ ▸ h; exact swN_ok (isFn_ok h1) h2)
def isTup : Expr → Option (List Expr)
  | .Tuple ts _ _ => some ts
  | _ => none
def augOf (o : Bop) (op : Operator) : Bool := match o, op with
  | .add, .Add => true | .sub, .Sub => true | .mul, .Mult => true | .fdiv, .FloorDiv => true | _, _ => false
def shF (scope : Scope) (y : Str) : Bool := scope.names.any fun (n, k) => n == y && (k == .local || k == .cell)
def n2 : List Expr → Option (Str × Pos × Str × Pos)
  | [.Name x px, .Name y py] => some (x, px, y, py)
  | _ => none
def n3 : List Expr → Option (Str × Pos × Str × Pos × Str × Pos)
  | [.Name x px, .Name y py, .Name z pz] => some (x, px, y, py, z, pz)
  | _ => none
theorem n2_ok {l : List Expr} {x y px py} (h : n2 l = some (x, px, y, py)) : l = [.Name x px, .Name y py] := by
  unfold n2 at h
  split at h
  · cases h
    rfl
  · cases h
theorem n3_ok {l : List Expr} {x y z px py pz} (h : n3 l = some (x, px, y, py, z, pz)) : l = [.Name x px, .Name y py, .Name z pz] := by
  unfold n3 at h
  split at h
  · cases h
    rfl
  · cases h
/-- x = zip(a, b), then a return of a comprehension over x -/
def zrOf : List Stmt → Option (Str × Str × Expr × Expr × Pos × List Expr × Str × List Expr × Expr × Scope × Nat × Pos)
  | [.Assign [.Name x _] (.Call (.Name z _) [ea, eb] [] pc) _, .Return (some (.ListComp elt [⟨.Tuple elts kk tp, .Name y _, ifs, 0⟩] scope _)) _] => some (x, z, ea, eb, pc, elts, y, ifs, elt, scope, kk, tp)
  | _ => none
theorem zrOf_ok {l : List Stmt} {x z y : Str} {ea eb elt : Expr} {pc tp : Pos} {elts ifs : List Expr} {scope : Scope} {kk : Nat} (h : zrOf l = some (x, z, ea, eb, pc, elts, y, ifs, elt, scope, kk, tp)) : ∃ px pz sp py pos rp, l = [.Assign [.Name x px] (.Call (.Name z pz) [ea, eb] [] pc) sp, .Return (some (.ListComp elt [⟨.Tuple elts kk tp, .Name y py, ifs, 0⟩] scope pos)) rp] := by
  unfold zrOf at h
  split at h
  · cases h
    exact ⟨_, _, _, _, _, _, rfl⟩
  · cases h
mutual
def chkS (t : Tb) (c : SI) : IS → Stmt → Bool
  | .set i e, .Assign [.Name x _] v _ => nAt c i x && isW c x && !isComp v && chk t c e v
  | .setc i e, .Assign [.Name x py] (.ListComp elt [⟨tg, iter, ifs, 0⟩] scope pos) _ => nAt c i x && kL (lkS c.sc.names x) && isFn c.sc.kind && Nat.beq py.line pos.line && !shF scope x && (match e with | .lc .. => true | .frz (.lc ..) => true | _ => false) && chk t c e (.ListComp elt [⟨tg, iter, ifs, 0⟩] scope pos)
  | .setc i e, .Assign [.Name x py] (.ListComp elt [⟨tg, iter, ifs, 0⟩, ⟨tg1, iter1, ifs1, 0⟩] scope pos) _ => nAt c i x && kL (lkS c.sc.names x) && isFn c.sc.kind && Nat.beq py.line pos.line && !shF scope x && (match e with | .lc2 .. => true | .frz (.lc2 ..) => true | _ => false) && chk t c e (.ListComp elt [⟨tg, iter, ifs, 0⟩, ⟨tg1, iter1, ifs1, 0⟩] scope pos)
  | .asg g e, .Assign [.Tuple ts k p] v _ => !isComp v && asgOk c.sc ts v && chkG c g (.Tuple ts k p) && chk t c e v
  | .par2 i j l, .Assign [.Tuple ts _ _] (.Tuple vs _ _) _ => (match n2 ts with
    | some (x, _, y, _) => !Nat.beq i j && nAt c i x && nAt c j y && kL (lkS c.sc.names x) && kL (lkS c.sc.names y) && swT c.sc ts vs [x, y]
    | none => false) && Nat.beq vs.length 2 && chkA t c l vs
  | .par3 i j k l, .Assign [.Tuple ts _ _] (.Tuple vs _ _) _ => (match n3 ts with
    | some (x, _, y, _, z, _) => !Nat.beq i j && !Nat.beq i k && !Nat.beq j k && nAt c i x && nAt c j y && nAt c k z && kL (lkS c.sc.names x) && kL (lkS c.sc.names y) && kL (lkS c.sc.names z) && swT c.sc ts vs [x, y, z]
    | none => false) && Nat.beq vs.length 3 && chkA t c l vs
  | .aug i o e, .AugAssign (.Name x _) op v _ => augOf o op && nAt c i x && isW c x && chk t c e v
  | .ret e, .Return (some v) _ => chk t c e v
  | .retN, .Return none _ => true
  | .exp e, .Expr v _ => !isComp v && chk t c e v
  | .iff q a b, .If e x y _ => chk t c q e && chkSs t c a x && chkSs t c b y
  | .whl _ q b, .While e x [] _ => chk t c q e && chkSs t c b x
  | .for_ g i b, .For tg it x [] _ => !isSet it && chkG c g tg && chkI t c (isTupE tg) i it && chkSs t c b x
  | .pass, .Pass _ => true
  | .brk, .Break _ => true
  | .cnt, .Continue _ => true
  | .rs i e, .Raise (some (.Call (.Name x _) [v] [] _)) none _ => isG c x && !isStar v && (match t.ec[i]? with | some (y, false) => strE y x | _ => false) && chk t c e v
  | .rk i e, .Raise (some (.Call (.Name x _) [v] [] _)) none _ => isG c x && !isStar v && Nat.ble 1 c.k && (match t.ec[i]? with | some (y, true) => strE y x | _ => false) && chk t c e v
  | .nope, _ => true
  | _, _ => false
def chkSs (t : Tb) (c : SI) : ISs → List Stmt → Bool
  | .nil, [] => true
  | .one s, [x] => chkS t c s x
  | .cons s r, x :: xs => chkS t c s x && chkSs t c r xs
  | .rest, _ => true
  | .zr i a b g q el own tr, l => (match zrOf l with
    | some (x, z, ea, eb, _, elts, y, ifs, elt, scope, kk, tp) => strE x y && strE z "zip" && nAt c i x && kL (lkS c.sc.names x) && notD x && kG (lkS c.sc.names z) && inBl t z && !isStar ea && !isStar eb && chk t c a ea && chk t c b eb && blkC c.N c.sc scope own && chkG (c.blk scope) g (.Tuple elts kk tp) && (slG g).all (fun i => (own.map (·.2)).any (Nat.beq i)) && chk t (c.blk scope) el elt
      && (match ifs with
        | [] => isTrueC q
        | [e] => chk t (c.blk scope) q e
        | _ => false)
    | none => false)
  | _, _ => false
end
end Ev
end
end

/-! part EvW -/
section
set_option Elab.async false
set_option linter.all false
set_option maxRecDepth 100000
set_option maxHeartbeats 4000000
/-! EvW: a term that is of a text says what the text does: statements. -/
noncomputable section
namespace Ev
open PySem PySem.Spec PyProof.Rows L2

def OkS (B : Bs) (t : Tb) (i : IS) : Prop := ∀ (c : SI) (E : XK) (X : Cx) (e : Stmt), Cok B c E X → chkS t c i e = true → PS X e (TSt B E (denS t i))
def OkSs (B : Bs) (t : Tb) (i : ISs) : Prop := ∀ (c : SI) (E : XK) (X : Cx) (e : List Stmt), Cok B c E X → chkSs t c i e = true → PSs X e (TSt B E (denSs t i))
theorem nbne {a b : Nat} (h : (!Nat.beq a b) = true) : a ≠ b := fun z => by
  subst z
  have : Nat.beq a a = true := Nat.beq_refl a
  rw [this] at h
  exact ff h
theorem lkL {sc : Scope} {x : Str} (h : kL (lkS sc.names x) = true) : sc.names.lookup x = some .local := by
  rw [← lkS_eq]
  exact kL_ok h
theorem mulC {i j : Int} (h : opOk .mul i j = true) : CMulW i j := by
  have h' : Nat.blt (Nat.add (Nat.log2 (nAbs i)) (Nat.log2 (nAbs j))) 1000000 = true := h
  rw [nAbs_eq, nAbs_eq, Nat.blt_eq] at h'
  exact h'
theorem iop_mulW {X : Cx} : OpR X (inplaceOp .Mult) (rI CMulW fun i j => .int (i * j)) := opI fun _ _ _ _ _ _ _ hc q => imul_int q hc.ok
section
variable {B : Bs} {t : Tb} (K : TbOk B t)
include K
theorem os_set (i : Nat) (e : IE) : OkS B t (.set i e) := fun c E X s C h => by
  cases s <;> first | exact ff h | skip
  rename_i ts v p
  obtain _ | ⟨tg, _ | ⟨t2, ts⟩⟩ := ts
  · exact ff h
  · cases tg <;> first | exact ff h | skip
    rename_i x px
    have H := (show (nAt c i x && isW c x && !isComp v && chk t c e v) = true from h)
    simp only [Bool.and_eq_true] at H
    obtain ⟨⟨⟨h1, h2⟩, h3⟩, h4⟩ := H
    obtain ⟨w1, w2⟩ := isW_ok h2
    exact s_set (by rw [C.N]; exact C.nd) (C.at_ (nAt_ok h1)) (C.loc w1) (by rw [C.fn, C.sc]; exact w2) (okE K e c E X v C h4).pe (comp_no (not_t h3))
  · cases tg <;> exact ff h
theorem os_setc (i : Nat) (e : IE) : OkS B t (.setc i e) := fun c E X s C h => by
  cases s <;> first | exact ff h | skip
  rename_i ts v p
  obtain _ | ⟨tg, _ | ⟨t2, ts⟩⟩ := ts
  · exact ff h
  · cases tg <;> first | exact ff h | skip
    rename_i x px
    cases v <;> first | exact ff h | skip
    rename_i elt gs scope pos
    obtain _ | ⟨⟨tg, iter, ifs, asy⟩, _ | ⟨⟨tg1, iter1, ifs1, asy1⟩, _ | ⟨g3, gs⟩⟩⟩ := gs
    · exact ff h
    · obtain (_ | asy) | asy := asy
      rotate_left 1
      · exact ff h
      · exact ff h
      have H := (show (nAt c i x && kL (lkS c.sc.names x) && isFn c.sc.kind && Nat.beq px.line pos.line && !shF scope x && (match (generalizing := false) e with | .lc .. => true | .frz (.lc ..) => true | _ => false) && chk t c e (.ListComp elt [⟨tg, iter, ifs, 0⟩] scope pos)) = true from h)
      simp only [Bool.and_eq_true] at H
      obtain ⟨⟨⟨⟨⟨⟨h1, h2⟩, h3⟩, h4⟩, h5⟩, h6⟩, h7⟩ := H
      have go : ∀ (i' : II) (g : IG) (q el : IE) (own : List (Str × Nat)) (tr : Bool), chk t c (.lc i' g q el own tr) (.ListComp elt [⟨tg, iter, ifs, 0⟩] scope pos) = true →
          PS X (.Assign [.Name x px] (.ListComp elt [⟨tg, iter, ifs, 0⟩] scope pos) p) (TSt B E (sSet i (den t (.lc i' g q el own tr)))) ∧ PS X (.Assign [.Name x px] (.ListComp elt [⟨tg, iter, ifs, 0⟩] scope pos) p) (TSt B E (sSet i (xFz (den t (.lc i' g q el own tr))))) := fun i' g q el own tr h7 => by
        have H := (show (blkC c.N c.sc scope own && chkI t c (isTupE tg) i' iter && !isSet iter && chkG (c.blk scope) g tg && (slG g).all (fun i => (own.map (·.2)).any (Nat.beq i)) && chk t (c.blk scope) el elt && (match (generalizing := false) ifs with
        | [] => (match (generalizing := false) q with | .con (.bl true) => true | _ => false)
        | [e] => chk t (c.blk scope) q e
        | _ => false)) = true from h7)
        obtain ⟨k6, k7⟩ := a2 H
        obtain ⟨k5, k6⟩ := a2 k6
        obtain ⟨k4, k5⟩ := a2 k5
        obtain ⟨k3, k4⟩ := a2 k4
        obtain ⟨k2, k3⟩ := a2 k3
        obtain ⟨k1, k2⟩ := a2 k2
        rw [List.all_eq_true] at k5
        have tests : ∀ X', Cok B (c.blk scope) E0 X' → PTs X' ifs (TB B E0 (den t q)) := fun X' C' => by
          obtain _ | ⟨f, _ | ⟨f2, fs⟩⟩ := ifs
          · cases q <;> first | exact ff k7 | skip
            rename_i d
            cases d <;> first | exact ff k7 | skip
            rename_i b
            cases b <;> first | exact ff k7 | exact ts_nil C'
          · exact ts_one (okE K q _ _ X' f C' k7).pt
          · exact ff k7
        exact ⟨s_setLc (w := own.map (·.2)) C C.nd (nAt_ok h1) (lkL h2) (okI K i' c E X tg iter C k2) (blkOk_by k1) (fun i z => z) (by rw [C.sc]; exact isFn_ok h3) (nbeq h4) (not_t h5) (fun X' C' => chkG_ok C' g tg k4 fun i z => any_mem (k5 i z)) tests (fun X' C' => (okE K el _ _ X' elt C' k6).pe) (set_no (not_t k3)),
          s_setLcF (w := own.map (·.2)) C C.nd (nAt_ok h1) (lkL h2) (okI K i' c E X tg iter C k2) (blkOk_by k1) (fun i z => z) (by rw [C.sc]; exact isFn_ok h3) (nbeq h4) (not_t h5) (fun X' C' => chkG_ok C' g tg k4 fun i z => any_mem (k5 i z)) tests (fun X' C' => (okE K el _ _ X' elt C' k6).pe) (set_no (not_t k3))⟩
      cases e <;> first | exact ff h6 | skip
      · rename_i i' g q el own tr
        exact (go i' g q el own tr h7).1
      · rename_i e
        cases e <;> first | exact ff h6 | skip
        rename_i i' g q el own tr
        obtain ⟨_, h8⟩ := a2 (show (isPlainT _ && chk t c (.lc i' g q el own tr) _) = true from h7)
        exact (go i' g q el own tr h8).2
    · obtain (_ | asy) | asy := asy <;> obtain (_ | asy1) | asy1 := asy1 <;> first | exact ff h | skip
      have H := (show (nAt c i x && kL (lkS c.sc.names x) && isFn c.sc.kind && Nat.beq px.line pos.line && !shF scope x && (match (generalizing := false) e with | .lc2 .. => true | .frz (.lc2 ..) => true | _ => false) && chk t c e (.ListComp elt [⟨tg, iter, ifs, 0⟩, ⟨tg1, iter1, ifs1, 0⟩] scope pos)) = true from h)
      simp only [Bool.and_eq_true] at H
      obtain ⟨⟨⟨⟨⟨⟨h1, h2⟩, h3⟩, h4⟩, h5⟩, h6⟩, h7⟩ := H
      have go : ∀ (i' : II) (g : IG) (q : IE) (i1 : II) (g1 : IG) (q1 el : IE) (own : List (Str × Nat)) (vs1 : List Nat) (tr : Bool), chk t c (.lc2 i' g q i1 g1 q1 el own vs1 tr) (.ListComp elt [⟨tg, iter, ifs, 0⟩, ⟨tg1, iter1, ifs1, 0⟩] scope pos) = true →
          PS X (.Assign [.Name x px] (.ListComp elt [⟨tg, iter, ifs, 0⟩, ⟨tg1, iter1, ifs1, 0⟩] scope pos) p) (TSt B E (sSet i (den t (.lc2 i' g q i1 g1 q1 el own vs1 tr)))) ∧ PS X (.Assign [.Name x px] (.ListComp elt [⟨tg, iter, ifs, 0⟩, ⟨tg1, iter1, ifs1, 0⟩] scope pos) p) (TSt B E (sSet i (xFz (den t (.lc2 i' g q i1 g1 q1 el own vs1 tr))))) := fun i' g q i1 g1 q1 el own vs1 tr h7 => by
        have h' := (show (blkC c.N c.sc scope own && chkI t c (isTupE tg) i' iter && !isSet iter && chkG (c.blk scope) g tg && (slG g).all (fun i => (own.map (·.2)).any (Nat.beq i)) && chkI t (c.blk scope) (isTupE tg1) i1 iter1 && !isSet iter1 && chkG (c.blk scope) g1 tg1 && (slG g1).all (fun i => vs1.any (Nat.beq i)) && vs1.all (fun i => (own.map (·.2)).any (Nat.beq i)) && chk t (c.blk scope) el elt
          && (match (generalizing := false) ifs with
            | [] => isTrueC q
            | [e] => chk t (c.blk scope) q e
            | _ => false)
          && (match (generalizing := false) ifs1 with
            | [] => isTrueC q1
            | [e] => chk t (c.blk scope) q1 e
            | _ => false)) = true from h7)
        simp only [Bool.and_eq_true] at h'
        obtain ⟨⟨⟨⟨⟨⟨⟨⟨⟨⟨⟨⟨k1, k2⟩, k3⟩, k4⟩, k5⟩, k6⟩, k7⟩, k8⟩, k9⟩, k10⟩, k11⟩, k12⟩, k13⟩ := h'
        rw [List.all_eq_true] at k5 k9 k10
        exact ⟨s_setLc2 (w := own.map (·.2)) (w1 := vs1) C C.nd (nAt_ok h1) (lkL h2) (okI K i' c E X tg iter C k2) (blkOk_by k1) (fun i z => z) (fun i z => any_mem (k10 i z)) (fun i z => z) (by rw [C.sc]; exact isFn_ok h3) (nbeq h4) (not_t h5) (fun X' C' => chkG_ok C' g tg k4 fun i z => any_mem (k5 i z)) (fun X' C' => ok_ifs K (E := E0) (okE K q) C' k12) (fun X' C' => okI K i1 _ _ X' tg1 iter1 C' k6)
            (fun X' C' => chkG_ok C' g1 tg1 k8 fun i z => any_mem (k9 i z)) (fun X' C' => ok_ifs K (E := E0) (okE K q1) C' k13) (fun X' C' => (okE K el _ _ X' elt C' k11).pe) (set_no (not_t k3)) (fun env => set_no (not_t k7)),
          s_setLc2F (w := own.map (·.2)) (w1 := vs1) C C.nd (nAt_ok h1) (lkL h2) (okI K i' c E X tg iter C k2) (blkOk_by k1) (fun i z => z) (fun i z => any_mem (k10 i z)) (fun i z => z) (by rw [C.sc]; exact isFn_ok h3) (nbeq h4) (not_t h5) (fun X' C' => chkG_ok C' g tg k4 fun i z => any_mem (k5 i z)) (fun X' C' => ok_ifs K (E := E0) (okE K q) C' k12) (fun X' C' => okI K i1 _ _ X' tg1 iter1 C' k6)
            (fun X' C' => chkG_ok C' g1 tg1 k8 fun i z => any_mem (k9 i z)) (fun X' C' => ok_ifs K (E := E0) (okE K q1) C' k13) (fun X' C' => (okE K el _ _ X' elt C' k11).pe) (set_no (not_t k3)) (fun env => set_no (not_t k7))⟩
      cases e <;> first | exact ff h6 | skip
      · rename_i e
        cases e <;> first | exact ff h6 | skip
        rename_i i' g q i1 g1 q1 el own vs1 tr
        obtain ⟨_, h8⟩ := a2 (show (isPlainT _ && chk t c (.lc2 i' g q i1 g1 q1 el own vs1 tr) _) = true from h7)
        exact (go i' g q i1 g1 q1 el own vs1 tr h8).2
      · rename_i i' g q i1 g1 q1 el own vs1 tr
        exact (go i' g q i1 g1 q1 el own vs1 tr h7).1
    · obtain (_ | asy) | asy := asy <;> obtain (_ | asy1) | asy1 := asy1 <;> exact ff h
  · cases tg <;> exact ff h
theorem os_asg (g : IG) (e : IE) : OkS B t (.asg g e) := fun c E X s C h => by
  cases s <;> first | exact ff h | skip
  rename_i ts v p
  obtain _ | ⟨tg, _ | ⟨t2, ts⟩⟩ := ts
  · exact ff h
  · cases tg <;> first | exact ff h | skip
    rename_i ts k px
    have H := (show (!isComp v && asgOk c.sc ts v && chkG c g (.Tuple ts k px) && chk t c e v) = true from h)
    simp only [Bool.and_eq_true] at H
    obtain ⟨⟨⟨h1, h2⟩, h3⟩, h4⟩ := H
    exact s_asg (w := slG g) (okE K e c E X v C h4).pe (chkG_ok C g _ h3 fun i z => z) (comp_sole (not_t h1)) (asg_ok (by rw [C.sc]; exact h2)) rfl
  · cases tg <;> exact ff h
theorem swT_ok {c : SI} {E : XK} {X : Cx} (C : Cok B c E X) {ts vs : List Expr} {ns : List Str} {k k2 p p2} (h : swT c.sc ts vs ns = true) : swappedStores [.Tuple ts k p] (.Tuple vs k2 p2) X.env = pure (some ns) := by
  unfold swT at h
  simp only [Bool.and_eq_true, beq_iff_eq] at h
  obtain ⟨⟨h1, h2⟩, h3⟩ := h
  rw [← C.sc] at h1 h2 h3
  rw [swY_ok (isFn_ok h1) h2, h3]
theorem os_par2 (i j : Nat) (l : IA) : OkS B t (.par2 i j l) := fun c E X s C h => by
  cases s <;> first | exact ff h | skip
  rename_i ts v p
  obtain _ | ⟨tg, _ | ⟨t2, ts⟩⟩ := ts
  · exact ff h
  · cases tg <;> first | exact ff h | skip
    rename_i ts k px
    cases v <;> first | exact ff h | skip
    rename_i vs k2 p2
    have H := (show ((match (generalizing := false) n2 ts with
    | some (x, _, y, _) => !Nat.beq i j && nAt c i x && nAt c j y && kL (lkS c.sc.names x) && kL (lkS c.sc.names y) && swT c.sc ts vs [x, y]
    | none => false) && Nat.beq vs.length 2 && chkA t c l vs) = true from h)
    obtain ⟨hA, h3⟩ := a2 H
    obtain ⟨h1, h2⟩ := a2 hA
    cases e : n2 ts with
    | none => rw [e] at h1; exact ff h1
    | some q =>
      obtain ⟨x, px, y, py⟩ := q
      rw [e] at h1
      have e := n2_ok e
      subst e
      simp only [Bool.and_eq_true] at h1
      obtain ⟨⟨⟨⟨⟨q0, q1⟩, q2⟩, q3⟩, q4⟩, q5⟩ := h1
      have e2 : vs.length = 2 := Nat.eq_of_beq_eq_true h2
      obtain _ | ⟨a, _ | ⟨b, _ | ⟨d, vs⟩⟩⟩ := vs <;> first | (simp only [List.length_nil, List.length_cons] at e2; omega) | skip
      exact s_par2 C C.nd (nAt_ok q1) (nAt_ok q2) (nbne q0) (lkL q3) (lkL q4) (okA K l c E X _ C h3).pa (swT_ok K C q5)
  · cases tg <;> first | exact ff h | (cases v <;> exact ff h)
theorem os_par3 (i j k : Nat) (l : IA) : OkS B t (.par3 i j k l) := fun c E X s C h => by
  cases s <;> first | exact ff h | skip
  rename_i ts v p
  obtain _ | ⟨tg, _ | ⟨t2, ts⟩⟩ := ts
  · exact ff h
  · cases tg <;> first | exact ff h | skip
    rename_i ts kk px
    cases v <;> first | exact ff h | skip
    rename_i vs k2 p2
    have H := (show ((match (generalizing := false) n3 ts with
    | some (x, _, y, _, z, _) => !Nat.beq i j && !Nat.beq i k && !Nat.beq j k && nAt c i x && nAt c j y && nAt c k z && kL (lkS c.sc.names x) && kL (lkS c.sc.names y) && kL (lkS c.sc.names z) && swT c.sc ts vs [x, y, z]
    | none => false) && Nat.beq vs.length 3 && chkA t c l vs) = true from h)
    obtain ⟨hA, h3⟩ := a2 H
    obtain ⟨h1, h2⟩ := a2 hA
    cases e : n3 ts with
    | none => rw [e] at h1; exact ff h1
    | some q =>
      obtain ⟨x, px, y, py, z, pz⟩ := q
      rw [e] at h1
      have e := n3_ok e
      subst e
      simp only [Bool.and_eq_true] at h1
      obtain ⟨⟨⟨⟨⟨⟨⟨⟨⟨q0, q1⟩, q2⟩, q3⟩, q4⟩, q5⟩, q6⟩, q7⟩, q8⟩, q9⟩ := h1
      have e2 : vs.length = 3 := Nat.eq_of_beq_eq_true h2
      obtain _ | ⟨a, _ | ⟨b, _ | ⟨d, _ | ⟨d2, vs⟩⟩⟩⟩ := vs <;> first | (simp only [List.length_nil, List.length_cons] at e2; omega) | skip
      exact s_par3 C C.nd (nAt_ok q3) (nAt_ok q4) (nAt_ok q5) (nbne q0) (nbne q1) (nbne q2) (lkL q6) (lkL q7) (lkL q8) (okA K l c E X _ C h3).pa (swT_ok K C q9)
  · cases tg <;> first | exact ff h | (cases v <;> exact ff h)
theorem os_aug (i : Nat) (o : Bop) (e : IE) : OkS B t (.aug i o e) := fun c E X s C h => by
  cases s <;> first | exact ff h | skip
  rename_i tg op v p
  cases tg <;> first | exact ff h | skip
  rename_i x px
  have H := (show (augOf o op && nAt c i x && isW c x && chk t c e v) = true from h)
  simp only [Bool.and_eq_true] at H
  obtain ⟨⟨⟨h1, h2⟩, h3⟩, h4⟩ := H
  obtain ⟨w1, w2⟩ := isW_ok h3
  have V := (okE K e c E X v C h4).pe
  cases o <;> cases op <;> first | exact ff h1 | skip
  · exact s_aug C C.nd (nAt_ok h2) w1 w2 V (rI_of0 iop_add) (fun _ _ _ => ⟨trivial, rfl⟩)
  · exact s_aug C C.nd (nAt_ok h2) w1 w2 V (rI_of0 iop_sub) (fun _ _ _ => ⟨trivial, rfl⟩)
  · exact s_aug C C.nd (nAt_ok h2) w1 w2 V iop_mulW (fun i j h => ⟨mulC h, rfl⟩)
  · exact s_aug C C.nd (nAt_ok h2) w1 w2 V iop_fdivX (fun i j h => ⟨fdivC h, rfl⟩)
theorem os_ret (e : IE) : OkS B t (.ret e) := fun c E X s C h => by
  cases s <;> first | exact ff h | skip
  rename_i v p
  cases v <;> first | exact ff h | skip
  exact s_ret (okE K e c E X _ C h).pe
theorem os_retN : OkS B t .retN := fun c E X s C h => by
  cases s <;> first | exact ff h | skip
  rename_i v p
  cases v <;> first | exact ff h | exact s_retN
theorem os_exp (e : IE) : OkS B t (.exp e) := fun c E X s C h => by
  cases s <;> first | exact ff h | skip
  rename_i v p
  obtain ⟨h1, h2⟩ := a2 (show (!isComp v && chk t c e v) = true from h)
  exact s_exp (okE K e c E X _ C h2).pe (comp_no (not_t h1))
theorem os_if (q : IE) (a b : ISs) (ha : OkSs B t a) (hb : OkSs B t b) : OkS B t (.iff q a b) := fun c E X s C h => by
  cases s <;> first | exact ff h | skip
  rename_i e x y p
  have H := (show (chk t c q e && chkSs t c a x && chkSs t c b y) = true from h)
  simp only [Bool.and_eq_true] at H
  obtain ⟨⟨h1, h2⟩, h3⟩ := H
  exact s_if (okE K q c E X e C h1).pt (ha c E X x C h2) (hb c E X y C h3)
theorem os_whl (f : Nat) (q : IE) (b : ISs) (hb : OkSs B t b) : OkS B t (.whl f q b) := fun c E X s C h => by
  cases s <;> first | exact ff h | skip
  rename_i e x y p
  cases y <;> first | exact ff h | skip
  obtain ⟨h1, h2⟩ := a2 (show (chk t c q e && chkSs t c b x) = true from h)
  exact s_while C.own (okE K q c E X e C h1).pt (hb c E X x C h2)
theorem os_for (g : IG) (i : II) (b : ISs) (hb : OkSs B t b) : OkS B t (.for_ g i b) := fun c E X s C h => by
  cases s <;> first | exact ff h | skip
  rename_i tg it x y p
  cases y <;> first | exact ff h | skip
  have H := (show (!isSet it && chkG c g tg && chkI t c (isTupE tg) i it && chkSs t c b x) = true from h)
  simp only [Bool.and_eq_true] at H
  obtain ⟨⟨⟨h1, h2⟩, h3⟩, h4⟩ := H
  exact s_for (w := slG g) C.own C.calm (okI K i c E X tg it C h3) (chkG_ok C g tg h2 fun i z => z) (hb c E X x C h4) (set_no (not_t h1))
theorem os_pass : OkS B t .pass := fun c E X s C h => by
  cases s <;> first | exact ff h | exact s_pass
theorem os_brk : OkS B t .brk := fun c E X s C h => by
  cases s <;> first | exact ff h | exact s_brk
theorem os_cnt : OkS B t .cnt := fun c E X s C h => by
  cases s <;> first | exact ff h | exact s_cnt
theorem os_rs (i : Nat) (e : IE) : OkS B t (.rs i e) := fun c E X s C h => by
  cases s <;> first | exact ff h | skip
  rename_i v z p
  cases v <;> first | exact ff h | skip
  rename_i v
  cases v <;> first | exact ff h | (cases z <;> exact ff h) | skip
  rename_i f as kw pc
  cases f <;> first | exact ff h | (cases z <;> exact ff h) | skip
  rename_i x px
  obtain _ | ⟨v, _ | ⟨v2, as⟩⟩ := as
  · cases z <;> exact ff h
  · cases kw <;> cases z <;> first | exact ff h | skip
    have H := (show (isG c x && !isStar v && (match (generalizing := false) t.ec[i]? with | some (y, false) => strE y x | _ => false) && chk t c e v) = true from h)
    simp only [Bool.and_eq_true] at H
    obtain ⟨⟨⟨h1, h2⟩, h3⟩, h4⟩ := H
    cases q : t.ec[i]? with
    | none => rw [q] at h3; exact ff h3
    | some yb =>
      obtain ⟨y, b⟩ := yb
      rw [q] at h3
      cases b <;> first | exact ff h3 | skip
      have ex := strE_ok h3
      subst ex
      obtain ⟨P, e1⟩ := K.exP i y q
      exact s_raise P C e1 (isG_ok h1) (okE K e c E X v C h4).pe (star_no (not_t h2))
  · cases kw <;> cases z <;> exact ff h
theorem os_rk (i : Nat) (e : IE) : OkS B t (.rk i e) := fun c E X s C h => by
  cases s <;> first | exact ff h | skip
  rename_i v z p
  cases v <;> first | exact ff h | skip
  rename_i v
  cases v <;> first | exact ff h | (cases z <;> exact ff h) | skip
  rename_i f as kw pc
  cases f <;> first | exact ff h | (cases z <;> exact ff h) | skip
  rename_i x px
  obtain _ | ⟨v, _ | ⟨v2, as⟩⟩ := as
  · cases z <;> exact ff h
  · cases kw <;> cases z <;> first | exact ff h | skip
    have H := (show (isG c x && !isStar v && Nat.ble 1 c.k && (match (generalizing := false) t.ec[i]? with | some (y, true) => strE y x | _ => false) && chk t c e v) = true from h)
    simp only [Bool.and_eq_true] at H
    obtain ⟨⟨⟨⟨h1, h2⟩, h5⟩, h3⟩, h4⟩ := H
    cases q : t.ec[i]? with
    | none => rw [q] at h3; exact ff h3
    | some yb =>
      obtain ⟨y, b⟩ := yb
      rw [q] at h3
      cases b <;> first | exact ff h3 | skip
      have ex := strE_ok h3
      subst ex
      obtain ⟨⟨P⟩, e1⟩ := K.exK i y q
      exact s_keep P C (Nat.le_of_ble_eq_true h5) e1 rfl (isG_ok h1) (okE K e c E X v C h4).pe (star_no (not_t h2))
  · cases kw <;> cases z <;> exact ff h
mutual
theorem okSt : ∀ i : IS, OkS B t i
  | .set i e => os_set K i e
  | .setc i e => os_setc K i e
  | .asg g e => os_asg K g e
  | .par2 i j l => os_par2 K i j l
  | .par3 i j k l => os_par3 K i j k l
  | .aug i o e => os_aug K i o e
  | .ret e => os_ret K e
  | .retN => os_retN K
  | .exp e => os_exp K e
  | .iff q a b => os_if K q a b (okSts a) (okSts b)
  | .whl f q b => os_whl K f q b (okSts b)
  | .for_ g i b => os_for K g i b (okSts b)
  | .pass => os_pass K
  | .brk => os_brk K
  | .cnt => os_cnt K
  | .rs i e => os_rs K i e
  | .rk i e => os_rk K i e
  | .nope => fun c E X s C h => s_no
theorem okSts : ∀ i : ISs, OkSs B t i
  | .nil => fun c E X e C h => by
    cases e with
    | nil => exact s_nil
    | cons a b => exact ff h
  | .one s => fun c E X e C h => by
    obtain _ | ⟨a, _ | ⟨b, r⟩⟩ := e
    · exact ff h
    · exact s_one (okSt s c E X a C h)
    · exact ff h
  | .cons s r => fun c E X e C h => by
    obtain _ | ⟨a, e⟩ := e
    · exact ff h
    · obtain ⟨h1, h2⟩ := a2 (show (chkS t c s a && chkSs t c r e) = true from h)
      exact s_seq (okSt s c E X a C h1) (okSts r c E X e C h2)
  | .rest => fun c E X e C h => ss_no
  | .zr i a b g q el own tr => fun c E X l C h => by
    have h' : (match (generalizing := false) zrOf l with
    | some (x, z, ea, eb, _, elts, y, ifs, elt, scope, kk, tp) => strE x y && strE z "zip" && nAt c i x && kL (lkS c.sc.names x) && notD x && kG (lkS c.sc.names z) && inBl t z && !isStar ea && !isStar eb && chk t c a ea && chk t c b eb && blkC c.N c.sc scope own && chkG (c.blk scope) g (.Tuple elts kk tp) && (slG g).all (fun i => (own.map (·.2)).any (Nat.beq i)) && chk t (c.blk scope) el elt
      && (match (generalizing := false) ifs with
        | [] => isTrueC q
        | [e] => chk t (c.blk scope) q e
        | _ => false)
    | none => false) = true := h
    cases z : zrOf l with
    | none => rw [z] at h'; exact ff h'
    | some r =>
      obtain ⟨x, zn, ea, eb, pc, elts, y, ifs, elt, scope, kk, tp⟩ := r
      rw [z] at h'
      obtain ⟨px, pz, sp, py, pos, rp, ee⟩ := zrOf_ok z
      subst ee
      simp only [Bool.and_eq_true] at h'
      obtain ⟨⟨⟨⟨⟨⟨⟨⟨⟨⟨⟨⟨⟨⟨⟨h1, h2⟩, h3⟩, h4⟩, h5⟩, h6⟩, h7⟩, h8⟩, h9⟩, h10⟩, h11⟩, h12⟩, h13⟩, h14⟩, h15⟩, h16⟩ := h'
      have e1 := strE_ok h1
      have e2 := strE_ok h2
      subst e1 e2
      rw [List.all_eq_true] at h14
      have hz : c.sc.names.lookup ("zip" : Str) = some .globalImplicit := by rw [← lkS_eq]; exact kG_ok h6
      have q2 : starEach [eb] X.env = [(false, eval eb X.env)] := star_no (not_t h9)
      exact ss_zr (w := own.map (·.2)) C C.nd (nAt_ok h3) (lkL h4) h5 hz (K.bl _ (inBl_ok h7)) (okE K a c E X ea C h10).pe (okE K b c E X eb C h11).pe (by rw [star_no (not_t h8), q2]) q2 (by rw [q2]; rfl) (blkOk_by h12) (fun i z => z) (fun X' C' => chkG_ok C' g _ h13 fun i z => any_mem (h14 i z)) (fun X' C' => ok_ifs K (E := E0) (okE K q) C' h16) (fun X' C' => (okE K el _ _ X' elt C' h15).pe)
end
end
end Ev
end
end

/-! part EvAA -/
section
set_option Elab.async false
set_option linter.all false
set_option maxRecDepth 100000
set_option maxHeartbeats 4000000
/-! EvAA: defs by their terms. -/
noncomputable section
namespace Ev
open PySem PySem.Spec PyProof.Rows L2

def tk (j : Nat) (t : Tb) : Tb := { t with ft := t.ft.take j }
theorem tk_zero {B : Bs} {t : Tb} (K : TbOk B { t with ft := [] }) : TbOk B (tk 0 t) := by
  refine ⟨fun f x l g h => ?_, K.gl, K.bl, K.met, K.exP, K.exK, K.kt, K.kl, K.ix, K.fl, K.sys⟩
  have h' : (t.ft.take 0)[f]? = some (x, l, g) := h
  simp at h'
theorem tk_step {B : Bs} {t : Tb} {j : Nat} {x : Str} {l : Nat} {g : Bool} (K : TbOk B (tk j t)) (h : t.ft[j]? = some (x, l, g)) (F : FnC B g l x (t.T j)) : TbOk B (tk (j + 1) t) := by
  refine ⟨fun f y l' g' q => ?_, K.gl, K.bl, K.met, K.exP, K.exK, K.kt, K.kl, K.ix, K.fl, K.sys⟩
  have q' : (t.ft.take (j + 1))[f]? = some (y, l', g') := q
  rw [List.getElem?_take] at q'
  by_cases e : f < j
  · rw [if_pos (by omega)] at q'
    refine K.fn f y l' g' ?_
    show (t.ft.take j)[f]? = _
    rw [List.getElem?_take, if_pos e]
    exact q'
  · by_cases e2 : f < j + 1
    · have ej : f = j := by omega
      subst ej
      rw [if_pos e2, h] at q'
      cases q'
      exact F
    · rw [if_neg e2] at q'
      cases q'
/-! ### plain parameters -/
def parN : Arguments → Option (List Str)
  | ⟨[], as, none, [], [], none, []⟩ => some (as.map (·.arg))
  | _ => none
theorem parN_ok {a : Arguments} {l : List Str} (h : parN a = some l) : ∃ as, a = ⟨[], as, none, [], [], none, []⟩ ∧ l = as.map (·.arg) := by
  obtain ⟨p, as, v, k, kd, kw, d⟩ := a
  cases p <;> cases v <;> cases k <;> cases kd <;> cases kw <;> cases d <;> first | exact ⟨as, rfl, (Option.some.inj h).symm⟩ | cases h
theorem fm_congr {α β : Type} {f g : α → Option β} : ∀ {l : List α}, (∀ x ∈ l, f x = g x) → l.filterMap f = l.filterMap g
  | [], _ => rfl
  | x :: l, h => by
    rw [List.filterMap_cons, List.filterMap_cons, h x (List.mem_cons_self), fm_congr fun y hy => h y (List.mem_cons_of_mem _ hy)]
theorem lk_zip : ∀ {ps : List Str} {us : List Value}, ps.Nodup → us.length = ps.length → ∀ x ∈ ps, ((ps.zip us).lookup x).isNone = false
  | [], _, _, _, x, h => by simp at h
  | p :: ps, [], _, h, _, _ => by simp at h
  | p :: ps, u :: us, nd, hl, x, h => by
    rw [List.zip_cons_cons, List.lookup]
    cases e : x == p with
    | true => rfl
    | false =>
      rcases List.mem_cons.mp h with z | z
      · rw [z] at e; simp at e
      · exact lk_zip (List.nodup_cons.mp nd).2 (by simpa using hl) x z
theorem fm_zip : ∀ {ps : List Str} {us : List Value}, ps.Nodup → us.length = ps.length → ps.filterMap (fun n => ((ps.zip us).lookup n).map fun v => (n, v)) = ps.zip us
  | [], _, _, _ => by simp
  | p :: ps, [], _, h => by simp at h
  | p :: ps, u :: us, nd, hl => by
    obtain ⟨n1, n2⟩ := List.nodup_cons.mp nd
    have ih := fm_zip n2 (us := us) (by simpa using hl)
    rw [List.zip_cons_cons, List.filterMap_cons]
    have e1 : (((p, u) :: ps.zip us).lookup p) = some u := by rw [List.lookup]; simp
    rw [e1]
    show (p, u) :: _ = _
    congr 1
    conv => rhs; rw [← ih]
    refine fm_congr fun x hx => ?_
    rw [List.lookup]
    have : (x == p) = false := by
      rw [beq_eq_false_iff_ne]
      intro z
      rw [z] at hx
      exact n1 hx
    rw [this]
theorem bind_plain {x qual : Str} {as : List Arg} {body : List Stmt} {scope : Scope} {kV doc pm : Value} {an : Option Addr} {cdv ct : Value} {us : List Value} (h : us.length = as.length) (hn : (as.map (·.arg)).Nodup) :
    bindArgs (PySem.W.fnOf x qual ⟨[], as, none, [], [], none, []⟩ body scope .none kV doc pm an cdv ct) ⟨us, []⟩ = pure ((as.map (·.arg)).zip us) := by
  have hl : us.length = (as.map (·.arg)).length := by rw [h, List.length_map]
  have l1 := lk_zip hn hl
  have l2 := fm_zip hn hl
  have e0 : (PySem.W.fnOf x qual ⟨[], as, none, [], [], none, []⟩ body scope .none kV doc pm an cdv ct).params = ⟨[], as, none, [], [], none, []⟩ := rfl
  have e1 : (PySem.W.fnOf x qual ⟨[], as, none, [], [], none, []⟩ body scope .none kV doc pm an cdv ct).defaults = .none := rfl
  have e2 : seqItems? .none = pure none := rfl
  have l3 : ((as.map (·.arg)).take as.length).filter (fun n => (((as.map (·.arg)).zip us).lookup n).isNone) = [] := by
    rw [List.filter_eq_nil_iff]
    intro a ha
    rw [l1 a (List.mem_of_mem_take ha)]
    exact Bool.false_ne_true
  unfold bindArgs
  rw [e0, e1, e2]
  simp [l3, h]
  rw [List.filterMap_map] at l2
  exact congrArg pure l2
def memS (l : List Str) (x : Str) : Bool := l.any fun y => strE y x
def nodS : List Str → Bool
  | [] => true
  | x :: r => !memS r x && nodS r
theorem memS_ok {l : List Str} {x : Str} (h : memS l x = false) : x ∉ l := fun z => by
  unfold memS at h
  rw [List.any_eq_false] at h
  have := h x z
  rw [strE_eq] at this
  simp at this
theorem nodS_ok : ∀ {l : List Str}, nodS l = true → l.Nodup
  | [], _ => .nil
  | x :: r, h => by
    obtain ⟨h1, h2⟩ := a2 (show (!memS r x && nodS r) = true from h)
    exact List.nodup_cons.mpr ⟨memS_ok (not_t h1), nodS_ok h2⟩
def eqSs : List Str → List Str → Bool
  | [], [] => true
  | x :: r, y :: q => strE x y && eqSs r q
  | _, _ => false
theorem eqSs_ok : ∀ {l r : List Str}, eqSs l r = true → l = r
  | [], [], _ => rfl
  | x :: l, y :: r, h => by
    obtain ⟨h1, h2⟩ := a2 (show (strE x y && eqSs l r) = true from h)
    rw [strE_ok h1, eqSs_ok h2]
  | [], _ :: _, h => ff h
  | _ :: _, [], h => ff h
def scB (N ps : List Str) (sc : Scope) : Bool :=
  isFn sc.kind && !sc.isCoroutine && !sc.isGenerator && nodS N && eqSs (N.take ps.length) ps && (ps.all fun x => let o := lkS sc.names x; kL o || kC o) && sc.names.all fun y => !kF (some y.2)
theorem scB_ok {N ps : List Str} {sc : Scope} (h : scB N ps sc = true) : FnScope N ps sc := by
  unfold scB at h
  simp only [Bool.and_eq_true, List.all_eq_true] at h
  obtain ⟨⟨⟨⟨⟨⟨h1, h2⟩, h3⟩, h4⟩, h5⟩, h6⟩, h7⟩ := h
  refine ⟨isFn_ok h1, not_t h2, not_t h3, nodS_ok h4, eqSs_ok h5, fun x hx => ?_, fun y hy z => ?_⟩
  · have q := h6 x hx
    rw [Bool.or_eq_true, lkS_eq] at q
    rcases q with q | q
    · exact .inl (kL_ok q)
    · exact .inr (kC_ok q)
  · have q := h7 y hy
    rw [z] at q
    exact ff q
def defB (t : Tb) (N : List Str) (n p lv : Nat) (gd lm : Bool) (ir : ISs) (st : Stmt) : Bool := match parN (defArgs st) with
  | some ps => Nat.beq ps.length n && nodS ps && Nat.beq N.length (n + p) && scB N ps (defScope st) && chkSs t ⟨N, defScope st, lv, gd, fun _ => true, lm⟩ ir (defBody st)
  | none => false
theorem def_ok {B : Bs} {t : Tb} (K : TbOk B t) {x qual : Str} {st : Stmt} {f : Addr} {fd : FuncData} (F : FunD B.K x qual (defArgs st) (defBody st) (defScope st) [] [] f fd) (hm : B.mg x = some (.ref f)) {N : List Str} {n p lv : Nat} {gd lm : Bool} {ir : ISs} {b : XS} (tr : Bool)
    (hd : denSs t ir = b) (hc : defB t N n p lv gd lm ir st = true) (hl : lm = true → LamF B x qual f) : FnC B gd (lv + 1) x (xDef n p tr b) := by
  unfold defB at hc
  cases e : parN (defArgs st) with
  | none => rw [e] at hc; exact ff hc
  | some ps =>
    rw [e] at hc
    simp only [Bool.and_eq_true] at hc
    obtain ⟨⟨⟨⟨h1, h2⟩, h3⟩, h4⟩, h5⟩ := hc
    obtain ⟨as, ea, el⟩ := parN_ok e
    have h1 : ps.length = n := Nat.eq_of_beq_eq_true h1
    have lp : ps.length = as.length := by rw [el, List.length_map]
    refine fn_def F hm (scB_ok h4) h1 (Nat.eq_of_beq_eq_true h3) (fun kV doc pm an cdv ct us hu => ?_) hl fun X E C => ?_
    · rw [ea, el]
      exact bind_plain (by rw [hu, lp]) (by rw [← el]; exact nodS_ok h2)
    · rw [← hd]
      exact okSts K ir _ E X _ C h5
/-! ### a star parameter -/
def parS : Arguments → Option (List Str × Str)
  | ⟨[], as, some v, [], [], none, []⟩ => some (as.map (·.arg), v.arg)
  | _ => none
theorem parS_ok {a : Arguments} {l : List Str × Str} (h : parS a = some l) : ∃ as v, a = ⟨[], as, some v, [], [], none, []⟩ ∧ l = (as.map (·.arg), v.arg) := by
  obtain ⟨p, as, v, k, kd, kw, d⟩ := a
  cases p <;> cases v <;> cases k <;> cases kd <;> cases kw <;> cases d <;> first | exact ⟨as, _, rfl, (Option.some.inj h).symm⟩ | cases h
theorem bind_star {x qual : Str} {as : List Arg} {v : Arg} {body : List Stmt} {scope : Scope} {dV kV doc pm : Value} {an : Option Addr} {cdv ct : Value} {us rest : List Value} (h : us.length = as.length) (hn : (as.map (·.arg)).Nodup) (hd : dV = .none) :
    bindArgs (PySem.W.fnOf x qual ⟨[], as, some v, [], [], none, []⟩ body scope dV kV doc pm an cdv ct) ⟨us ++ rest, []⟩ = (newTuple rest >>= fun t => pure ((as.map (·.arg)).zip us ++ [(v.arg, t)])) := by
  subst hd
  have hl : us.length = (as.map (·.arg)).length := by rw [h, List.length_map]
  have l1 := lk_zip hn hl
  have l2 := fm_zip hn hl
  have l4 : (as.map (·.arg)).zip (us ++ rest) = (as.map (·.arg)).zip us := by
    have := List.zip_append (l₁ := as.map (·.arg)) (r₁ := []) (l₂ := us) (r₂ := rest) hl.symm
    simpa using this
  have e0 : (PySem.W.fnOf x qual ⟨[], as, some v, [], [], none, []⟩ body scope .none kV doc pm an cdv ct).params = ⟨[], as, some v, [], [], none, []⟩ := rfl
  have e1 : (PySem.W.fnOf x qual ⟨[], as, some v, [], [], none, []⟩ body scope .none kV doc pm an cdv ct).defaults = .none := rfl
  have e2 : seqItems? .none = pure none := rfl
  have l3 : ((as.map (·.arg)).take as.length).filter (fun n => (((as.map (·.arg)).zip us).lookup n).isNone) = [] := by
    rw [List.filter_eq_nil_iff]
    intro a ha
    rw [l1 a (List.mem_of_mem_take ha)]
    exact Bool.false_ne_true
  unfold bindArgs
  rw [e0, e1, e2]
  have l5 : ((as.map (·.arg)).take us.length).filter (fun n => (((as.map (·.arg)).zip us).lookup n).isNone) = [] := by rw [h]; exact l3
  rw [List.filterMap_map] at l2
  simp [l4, l5, ← h]
  exact congrArg (fun z => (fun a => z ++ [(v.arg, a)]) <$> newTuple rest) l2
def defSB (t : Tb) (N : List Str) (n p lv : Nat) (ir : ISs) (st : Stmt) : Bool := match parS (defArgs st) with
  | some (ps, v) => Nat.beq ps.length n && nodS ps && Nat.beq N.length (n + 1 + p) && scB N (ps ++ [v]) (defScope st) && chkSs t ⟨N, defScope st, lv, false, fun _ => true, false⟩ ir (defBody st)
  | none => false
theorem defS_ok {B : Bs} {t : Tb} (K : TbOk B t) {x qual : Str} {st : Stmt} {f : Addr} {fd : FuncData} (F : FunD B.K x qual (defArgs st) (defBody st) (defScope st) [] [] f fd) (hm : B.mg x = some (.ref f)) {N : List Str} {n p lv : Nat} {ir : ISs} {b : XS} (tr : Bool)
    (hd : denSs t ir = b) (hc : defSB t N n p lv ir st = true) : FnC B false (lv + 1) x (xDefS n p tr b) := by
  unfold defSB at hc
  cases e : parS (defArgs st) with
  | none => rw [e] at hc; exact ff hc
  | some pv =>
    obtain ⟨ps, v⟩ := pv
    rw [e] at hc
    simp only [Bool.and_eq_true] at hc
    obtain ⟨⟨⟨⟨h1, h2⟩, h3⟩, h4⟩, h5⟩ := hc
    obtain ⟨as, a, ea, el⟩ := parS_ok e
    cases el
    have h1 : (as.map (·.arg)).length = n := Nat.eq_of_beq_eq_true h1
    have lp : (as.map (·.arg)).length = as.length := by rw [List.length_map]
    refine fn_defS F hm (scB_ok h4) h1 (Nat.eq_of_beq_eq_true h3) (fun kV doc pm an cdv ct us rest hu => ?_) fun X E C => ?_
    · rw [ea]
      exact bind_star (by rw [hu, lp]) (nodS_ok h2) rfl
    · rw [← hd]
      exact okSts K ir _ E X _ C h5
end Ev
end
end

/-! part EvAB -/
section
set_option Elab.async false
set_option linter.all false
set_option maxRecDepth 100000
set_option maxHeartbeats 4000000
/-! EvAB: letters, the bag: promises of defs from runs in a small state. -/
noncomputable section
namespace Ev
open PySem PySem.Spec PyProof.Rows L2

mutual
theorem rd_of0 {B : Bs} {m : Md} {nl no : Nat} {W W' : Addr → Prop} {H : Hp} (w : ∀ a, W' a → W a) : ∀ {d : D} {v : V}, RD0 B.K W H d v → RD B m nl no W' H d v
  | .unb, _, h => h.elim
  | .non, _, h => h
  | .bl _, _, h => h
  | .int _, _, h => h
  | .str _, _, h => h
  | .ty _, _, h => h
  | .tup l, _, ⟨a, xs, e, q, r⟩ => ⟨a, xs, e, q, rds_of0 w r⟩
  | .fl l, _, ⟨a, xs, e, q, n, r⟩ => ⟨a, xs, e, q, fun z => n (w a z), rds_of0 w r⟩
  | .fd ks vs, _, ⟨a, e, n, h⟩ => ⟨a, e, fun z => n (w a z), by
      rcases h with h | ⟨ws, q, l, r⟩
      · exact .inl h
      · exact .inr ⟨ws, q, l, rds_of0 w r⟩⟩
  | .ref _, _, h => h.elim
  | .glob _, _, h => h.elim
  | .sym _, _, h => h.elim
  | .rep _, _, h => h.elim
  | .tm _, _, h => h.elim
  | .xo _ _, _, h => h.elim
theorem rds_of0 {B : Bs} {m : Md} {nl no : Nat} {W W' : Addr → Prop} {H : Hp} (w : ∀ a, W' a → W a) : ∀ {ds : List D} {vs : List V}, RD0s B.K W H ds vs → RDs B m nl no W' H ds vs
  | [], _, h => h
  | _ :: _, _, ⟨y, r, e, h, t⟩ => ⟨y, r, e, rd_of0 w h, rds_of0 w t⟩
end
def isBL (d : D) (b : Bool) : Bool := match d with
  | .bl a => Bool.rec (Bool.rec true false b) b a
  | _ => false
theorem isBL_ok {d : D} {b : Bool} (h : isBL d b = true) : d = .bl b := by
  cases d <;> first | exact ff h | skip
  rename_i a
  cases a <;> cases b <;> first | rfl | exact ff h
/-! ### a def of a letter -/
def sym1 (us : List D) : Option Nat := match us with
  | [.sym n] => some n
  | _ => none
theorem sym1_ok {us : List D} {n : Nat} (h : sym1 us = some n) : us = [.sym n] := by
  unfold sym1 at h
  split at h
  · cases h
    rfl
  · cases h
def lkN {α : Type} : List (Nat × α) → Nat → Option α
  | [], _ => none
  | (m, b) :: r, n => Bool.rec (lkN r n) (some b) (Nat.beq m n)
theorem lkN_mem {α : Type} : ∀ {l : List (Nat × α)} {n : Nat} {b : α}, lkN l n = some b → (n, b) ∈ l
  | [], _, _, h => by cases h
  | (m, c) :: r, n, b, h => by
    unfold lkN at h
    cases e : Nat.beq m n with
    | true =>
      rw [e] at h
      cases h
      rw [Nat.eq_of_beq_eq_true e]
      exact List.mem_cons_self
    | false =>
      rw [e] at h
      exact List.mem_cons_of_mem _ (lkN_mem h)
/-- what a def says of a letter: True, False, one of both; None; an error of class c -/
inductive LR where
  | b (o : Option Bool) | n | x (c : Nat)
/-- a table: what the def says of each letter -/
def xLet (l : List (Nat × LR)) (xf : XF) : XF := fun us s k kx => match sym1 us with
  | none => xf us s k kx
  | some n => match lkN l n with
    | some (.b (some b)) => k (.bl b) s
    | some (.b none) => grd (k (.bl true) s) (k (.bl false) s)
    | some .n => k .non s
    | some (.x c) => kx c .unb s
    | none => xf us s k kx
def isB (d : D) : Bool := match d with
  | .bl _ => true
  | _ => false
theorem isB_ok {d : D} (h : isB d = true) : ∃ b, d = .bl b := by
  cases d <;> first | exact ff h | exact ⟨_, rfl⟩
def isNonD (d : D) : Bool := match d with
  | .non => true
  | _ => false
theorem isNonD_ok {d : D} (h : isNonD d = true) : d = .non := by
  cases d <;> first | exact ff h | rfl
def isOB (d : D) (o : LR) : Bool := match o with
  | .b (some b) => isBL d b
  | .b none => isB d
  | .n => isNonD d
  | .x _ => false
def isOX (c : Nat) (o : LR) : Bool := match o with
  | .x i => Nat.beq c i
  | _ => false
/-- the runs that such a table leans on -/
def letB (kd : Nat → List D) (l : List (Nat × LR)) (xf : XF) : Bool := l.all fun p => (kd p.1).all fun d => xf [d] (.mk 0 0 []) (fun r _ => isOB r p.2) (fun c _ _ => isOX c p.2)
section
variable {B : Bs} {m : Md} {H : Hp}
theorem ar_empty (t : LamX.Tabs B.T H) : AR B m (.mk 0 0 []) H :=
  ⟨List.Pairwise.nil, fun i o h => (by cases h), fun i j o o' h => (by cases h), fun i o h => (by cases h), t, fun n h => absurd h (Nat.not_lt_zero n)⟩
theorem fn_let {gd : Bool} {lv : Nat} {x : Str} {xf : XF} {l : List (Nat × LR)} (F : FnC B gd lv x xf) (h : letB B.kd l xf = true) : FnC B gd lv x (xLet l xf) := by
  obtain ⟨f, hm, hk, hr⟩ := F.ok
  refine ⟨f, hm, hk, fun A outer s H us vs Q E hR hg e0 r hs => hr A outer s H us vs Q E hR hg e0 r ?_⟩
  obtain ⟨m, st, ds, k, kx, ar, rd, hx, hkd, hkx⟩ := hs
  cases e : sym1 ds with
  | none =>
    have hx' : (match sym1 ds with
      | none => xf ds st k kx
      | some n => match lkN l n with
        | some (.b (some b)) => k (.bl b) st
        | some (.b none) => grd (k (.bl true) st) (k (.bl false) st)
        | some .n => k .non st
        | some (.x c) => kx c .unb st
        | none => xf ds st k kx) = true := hx
    rw [e] at hx'
    exact ⟨m, st, ds, k, kx, ar, rd, hx', hkd, hkx⟩
  | some n =>
    have ed := sym1_ok e
    subst ed
    have hx' : (match lkN l n with
        | some (.b (some b)) => k (.bl b) st
        | some (.b none) => grd (k (.bl true) st) (k (.bl false) st)
        | some .n => k .non st
        | some (.x c) => kx c .unb st
        | none => xf [.sym n] st k kx) = true := hx
    cases e2 : lkN l n with
    | none =>
      rw [e2] at hx'
      exact ⟨m, st, [.sym n], k, kx, ar, rd, hx', hkd, hkx⟩
    | some o =>
      rw [e2] at hx'
      obtain ⟨v, t, ev, ⟨hn, r0⟩, et⟩ := rd
      have et' : t = [] := et
      subst et' ev
      have hin := ar.lets n hn
      unfold letB at h
      rw [List.all_eq_true] at h
      have h1 := h (n, o) (lkN_mem e2)
      rw [List.all_eq_true] at h1
      have h2 := h1 _ hin
      refine ⟨m, .mk 0 0 [], [m.ν n], _, _, ar_empty ar.tabs, ⟨v, [], rfl, rd_of0 (fun a ⟨i, o, q, _⟩ => by cases q) r0, rfl⟩, h2, fun d m' s' H' v' p a' r' q => ?_, fun c p m' s' H' cls dd p' a' xr q => ?_⟩
      · obtain ⟨P, A'⟩ := post_ext ar (H1 := H') (fun b o e n => p.keep b o e (fun ⟨i, o, q, _⟩ => by cases q) n) a'.tabs
        cases o with
        | b o =>
          cases o with
          | some b =>
            have ed := isBL_ok q
            subst ed
            exact hkd (.bl b) m st H' v' P A' r' hx'
          | none =>
            obtain ⟨b, ed⟩ := isB_ok q
            subst ed
            obtain ⟨q1, q2⟩ := grd_ok (show grd (k (.bl true) st) (k (.bl false) st) = true from hx')
            refine hkd (.bl b) m st H' v' P A' r' ?_
            cases b with
            | true => exact q1
            | false => exact q2
        | n =>
          have ed := isNonD_ok q
          subst ed
          exact hkd .non m st H' v' P A' r' hx'
        | x c => exact ff q
      · obtain ⟨P, A'⟩ := post_ext ar (H1 := H') (fun b o e n => p'.keep b o e (fun ⟨i, o, q, _⟩ => by cases q) n) a'.tabs
        cases o with
        | b o => exact ff q
        | n => exact ff q
        | x i =>
          have ei := Nat.eq_of_beq_eq_true q
          subst ei
          exact hkx c .unb m st H' cls dd P A' ⟨xr.1, .inl rfl⟩ hx'
/-! ### a def of the bag -/
def bag0 (s : S) : Bool := match osGet (sOs s) 0 with
  | some .bag => true
  | _ => false
theorem bag0_ok {s : S} (h : bag0 s = true) : osGet s.os 0 = some .bag := by
  unfold bag0 at h
  obtain ⟨nl, no, os⟩ := s
  have h' : (match osGet os 0 with | some .bag => true | _ => false) = true := h
  split at h'
  · assumption
  · cases h'
/-- the bag alone -/
def sBag : S := .mk 0 1 [(0, .bag)]
/-- what is known behind a run from the bag alone: the state is as it was, other than the bag's items; objects of the end's state but the bag are new -/
structure BagEnd (B : Bs) (m : Md) (s : S) (H : Hp) (m' : Md) (s' : S) (H' : Hp) : Prop where
  ar : AR B m s H'
  post : Post m s H m s H'
  new : ∀ i o, 0 < i → osGet s'.os i = some o → NT H (m'.ρ i)
  ar' : AR B m' s' H'
theorem bag_run {B : Bs} {m : Md} {s : S} {H : Hp} {xf : XF} {b : Nat} {Q : VK} {E : XK} {t : D → S → Bool} (ar : AR B m s H) (hb : osGet s.os b = some .bag) (h : xf [.ref 0] sBag (fun d s1 => bag0 s1 && t d s1) (fun _ _ _ => false) = true)
    (hq : ∀ d m' s' H' v, BagEnd B m s H m' s' H' → RDw B m' s' H' d v → t d s' = true → Q v H') : SpF B xf [.ref (m.ρ b)] H Q E := by
  have w0 : ∀ a, Wr ⟨fun _ => m.ρ b, m.ν⟩ sBag a → a = m.ρ b := fun a ⟨i, o, q, w, e⟩ => e.symm
  have l0 : ∀ a, Al ⟨fun _ => m.ρ b, m.ν⟩ sBag a → a = m.ρ b := fun a ⟨i, o, q, e⟩ => e.symm
  have get0 : ∀ i o, osGet sBag.os i = some o → i = 0 ∧ o = .bag := fun i o q => by
    have q' : osGet [((0 : Nat), O.bag)] i = some o := q
    rw [osGet_cons] at q'
    split at q'
    · rename_i e
      exact ⟨e.symm, (Option.some.inj q').symm⟩
    · cases q'
  have ar0 : AR B ⟨fun _ => m.ρ b, m.ν⟩ sBag H := by
    refine ⟨List.pairwise_singleton .., fun i o q => ?_, fun i j o o' q1 q2 _ => ?_, fun i o q => ?_, ar.tabs, fun n q => absurd q (Nat.not_lt_zero n)⟩
    · rw [(get0 i o q).1]; exact Nat.zero_lt_one
    · rw [(get0 i o q1).1, (get0 j o' q2).1]
    · rw [(get0 i o q).2]
      exact ar.obj b .bag hb
  refine ⟨_, sBag, [.ref 0], _, _, ar0, ⟨_, [], rfl, ⟨Nat.zero_lt_one, rfl⟩, rfl⟩, h, fun d m' s' H' v p a' r q => ?_, fun c p m' s' H' cls dd _ _ _ q => ff q⟩
  obtain ⟨q1, q2⟩ := a2 q
  have hb' := bag0_ok q1
  have e0 : m'.ρ 0 = m.ρ b := p.more.rho 0 Nat.zero_lt_one
  have wb : Wr m s (m.ρ b) := ⟨b, .bag, hb, rfl, rfl⟩
  have P : Post m s H m s H' := ⟨.refl, fun c o e n t => p.keep c o e (fun z => n (by rw [w0 c z]; exact wb)) t, fun _ z => .inl z, fun _ z => .inl z, fun _ _ z _ => z⟩
  refine hq d m' s' H' v ⟨⟨ar.desc, ar.num, ar.inj, fun i o hi => ?_, a'.tabs, ar.lets⟩, P, fun i o hi ho => ?_, a'⟩ r q2
  · by_cases e : i = b
    · subst e
      rw [hb] at hi
      cases hi
      have z := a'.obj 0 .bag hb'
      rw [e0] at z
      exact z
    · refine P.or_ ar (fun u hu => ?_) (ar.obj i o hi)
      obtain ⟨u0, h0, t0⟩ := (ar.is_obj hi).nt
      refine p.keep _ _ hu (fun z => e (ar.inj i b o .bag hi hb (w0 _ z))) (fun ps z => ?_)
      rw [h0] at hu
      cases hu
      exact t0 ps z
  · rcases p.alsub (m'.ρ i) ⟨i, o, ho, rfl⟩ with z | z
    · have e1 := l0 _ z
      rw [← e0] at e1
      have e2 := a'.inj i 0 o .bag ho hb' e1
      omega
    · exact z
def ref1 (us : List D) : Option Nat := match us with
  | [.ref n] => some n
  | _ => none
theorem ref1_ok {us : List D} {n : Nat} (h : ref1 us = some n) : us = [.ref n] := by
  unfold ref1 at h
  split at h
  · cases h
    rfl
  · cases h
def isBag (o : Option O) : Bool := match o with
  | some .bag => true
  | _ => false
theorem isBag_ok {o : Option O} (h : isBag o = true) : o = some .bag := by
  unfold isBag at h
  split at h
  · rfl
  · cases h
/-- a def of the bag that says true -/
def xTru : XF := fun us s k _ => match ref1 us with
  | some b => grd (isBag (osGet (sOs s) b)) (k (.bl true) s)
  | none => false
theorem fn_tru {gd : Bool} {lv : Nat} {x : Str} {xf : XF} (F : FnC B gd lv x xf) (h : xf [.ref 0] sBag (fun d s1 => bag0 s1 && isBL d true) (fun _ _ _ => false) = true) : FnC B gd lv x xTru := by
  obtain ⟨f, hm, hk, hr⟩ := F.ok
  refine ⟨f, hm, hk, fun A outer s H us vs Q E hR hg e0 r hs => hr A outer s H us vs Q E hR hg e0 r ?_⟩
  obtain ⟨m, st, ds, k, kx, ar, rd, hx, hkd, hkx⟩ := hs
  have hx' : (match ref1 ds with
    | some b => grd (isBag (osGet (sOs st) b)) (k (.bl true) st)
    | none => false) = true := hx
  cases e : ref1 ds with
  | none => rw [e] at hx'; exact ff hx'
  | some b =>
    rw [e] at hx'
    obtain ⟨c1, h2⟩ := grd_ok hx'
    have hb := isBag_ok c1
    rw [sOs_eq] at hb
    have ed := ref1_ok e
    subst ed
    obtain ⟨v, t, ev, ⟨_, r0⟩, et⟩ := rd
    have et' : t = [] := et
    subst et' ev r0
    refine bag_run ar hb h fun d m' s' H' v z r' q => ?_
    have ed := isBL_ok q
    subst ed
    have ev : v = .bl true := r'
    subst ev
    exact hkd (.bl true) m st H' _ z.post z.ar rfl h2
/-! ### a def of the bag that draws from a list -/
mutual
/-- d at s is the closed c; lists and the empty dict made since -/
def frzB (s : S) : D → D → Bool
  | .fl l, .ref n => Nat.blt 0 n && (match osGet (sOs s) n with
    | some (.lst l') => frzL s l l'
    | _ => false)
  | .fd [] [], .ref n => Nat.blt 0 n && (match osGet (sOs s) n with
    | some (.dT []) => true
    | _ => false)
  | .tup l, .tup l' => frzL s l l'
  | .non, .non => true
  | .bl a, .bl b => isBL (.bl a) b
  | .int i, .int j => iEq i j
  | .str x, .str y => strE x y
  | _, _ => false
def frzL (s : S) : List D → List D → Bool
  | [], [] => true
  | c :: r, d :: l => frzB s c d && frzL s r l
  | _, _ => false
end
mutual
theorem frz_ok {B : Bs} {m : Md} {s : S} {H : Hp} {W : Addr → Prop} (ar : AR B m s H) (w : ∀ i o, 0 < i → osGet s.os i = some o → ¬ W (m.ρ i)) : ∀ (c d : D) (v : V), frzB s c d = true → RDw B m s H d v → RD0 B.K W H c v
  | .fl l, .ref n, v, h, r => by
    obtain ⟨h1, h2⟩ := a2 (show (Nat.blt 0 n && (match osGet (sOs s) n with | some (.lst l') => frzL s l l' | _ => false)) = true from h)
    rw [Nat.blt_eq] at h1
    rw [sOs_eq] at h2
    split at h2
    · rename_i l' e
      obtain ⟨_, ev⟩ := r
      obtain ⟨xs, hx, rx⟩ := ar.obj n _ e
      exact ⟨_, xs, ev, hx, w n _ h1 e, frzL_ok ar w l l' xs h2 rx⟩
    · exact ff h2
  | .fd [] [], .ref n, v, h, r => by
    obtain ⟨h1, h2⟩ := a2 (show (Nat.blt 0 n && (match osGet (sOs s) n with | some (.dT []) => true | _ => false)) = true from h)
    rw [Nat.blt_eq] at h1
    rw [sOs_eq] at h2
    split at h2
    · rename_i e
      obtain ⟨_, ev⟩ := r
      rcases ar.obj n _ e with ⟨_, hx⟩ | ⟨_, _, z, _⟩
      · exact ⟨_, ev, w n _ h1 e, .inl ⟨rfl, rfl, hx⟩⟩
      · exact absurd rfl z
    · exact ff h2
  | .tup l, .tup l', v, h, ⟨a, xs, e, q, r⟩ => ⟨a, xs, e, q, frzL_ok ar w l l' xs h r⟩
  | .non, .non, v, _, r => r
  | .bl a, .bl b, v, h, r => by
    have e := isBL_ok (show isBL (.bl a) b = true from h)
    cases e
    exact r
  | .int i, .int j, v, h, r => by
    have h' : iEq i j = true := h
    rw [iEq_eq, decide_eq_true_eq] at h'
    subst h'
    exact r
  | .str x, .str y, v, h, r => by
    have e := strE_ok (show strE x y = true from h)
    subst e
    exact r
theorem frzL_ok {B : Bs} {m : Md} {s : S} {H : Hp} {W : Addr → Prop} (ar : AR B m s H) (w : ∀ i o, 0 < i → osGet s.os i = some o → ¬ W (m.ρ i)) : ∀ (c d : List D) (v : List V), frzL s c d = true → RDws B m s H d v → RD0s B.K W H c v
  | [], [], v, _, r => r
  | c :: cs, d :: ds, v, h, ⟨x, t, e, r1, r2⟩ => by
    obtain ⟨h1, h2⟩ := a2 (show (frzB s c d && frzL s cs ds) = true from h)
    exact ⟨x, t, e, frz_ok ar w c d x h1 r1, frzL_ok ar w cs ds t h2 r2⟩
end
def memN (l : List Nat) (n : Nat) : Bool := l.any (Nat.beq n)
/-- the next letter -/
def xPick (is : List Nat) : XF := fun us s k _ => match ref1 us with
  | some b => grd (isBag (osGet (sOs s) b)) (S.rec (motive := fun _ => Bool) (fun nl no os => frN nl fun nl => grd (memN is nl) (k (.sym nl) (.mk (Nat.succ nl) no os))) s)
  | none => false
def pickB (kd : Nat → List D) (is : List Nat) (xf : XF) : Bool := is.all fun i => xf [.ref 0] sBag (fun d s1 => bag0 s1 && (kd i).any fun c => frzB s1 c d) (fun _ _ _ => false)
theorem fn_pick {gd : Bool} {lv : Nat} {x : Str} {xf : XF} {is : List Nat} (F : FnC B gd lv x xf) (h : pickB B.kd is xf = true) : FnC B gd lv x (xPick is) := by
  obtain ⟨f, hm, hk, hr⟩ := F.ok
  refine ⟨f, hm, hk, fun A outer s H us vs Q E hR hg e0 r hs => hr A outer s H us vs Q E hR hg e0 r ?_⟩
  obtain ⟨m, ⟨nl, no, os⟩, ds, k, kx, ar, rd, hx, hkd, hkx⟩ := hs
  have hx' : (match ref1 ds with
    | some b => grd (isBag (osGet os b)) (frN nl fun nl => grd (memN is nl) (k (.sym nl) (.mk (Nat.succ nl) no os)))
    | none => false) = true := hx
  cases e : ref1 ds with
  | none => rw [e] at hx'; exact ff hx'
  | some b =>
    rw [e] at hx'
    obtain ⟨c1, h2⟩ := grd_ok hx'
    have hb := isBag_ok c1
    rw [frN_eq] at h2
    obtain ⟨c2, h3⟩ := grd_ok h2
    have hin := any_mem c2
    have ed := ref1_ok e
    subst ed
    obtain ⟨v, t, ev, ⟨_, r0⟩, et⟩ := rd
    have et' : t = [] := et
    subst et' ev r0
    unfold pickB at h
    rw [List.all_eq_true] at h
    refine bag_run (t := fun d s1 => (B.kd nl).any fun c => frzB s1 c d) ar hb (h nl hin) fun d m' s' H' v z r' q => ?_
    rw [List.any_eq_true] at q
    obtain ⟨c, hc, q⟩ := q
    have new : ∀ i o, 0 < i → osGet s'.os i = some o → ¬ Al m (.mk nl no os) (m'.ρ i) := fun i o hi ho ⟨j, oj, q1, q2⟩ => by
      obtain ⟨u0, h0, t0⟩ := (ar.is_obj q1).nt
      obtain ⟨ps, ep⟩ := z.new i o hi ho u0 (by rw [← q2]; exact h0)
      exact t0 ps ep
    have R := frz_ok (W := Al m (.mk nl no os)) z.ar' new c d v q r'
    let m2 : Md := ⟨m.ρ, fun n => if n = nl then c else m.ν n⟩
    have mo : More m m2 nl (nl + 1) no no := ⟨Nat.le_refl _, Nat.le_succ _, fun _ _ => rfl, fun i hi => if_neg (Nat.ne_of_lt hi)⟩
    have P1 : Post m (.mk nl no os) H' m2 (.mk (nl + 1) no os) H' := ⟨mo, fun _ _ h _ _ => h, fun _ z => .inl z, fun _ z => .inl z, fun _ _ z _ => z⟩
    have A1 : AR B m2 (.mk (nl + 1) no os) H' := by
      refine ⟨z.ar.desc, z.ar.num, z.ar.inj, fun i o hi => P1.or_ z.ar (fun u hu => hu) (z.ar.obj i o hi), z.ar.tabs, fun n hn => ?_⟩
      show (if n = nl then c else m.ν n) ∈ B.kd n
      by_cases en : n = nl
      · rw [if_pos en, en]; exact hc
      · rw [if_neg en]; exact z.ar.lets n (by have : n < nl + 1 := hn; show n < nl; omega)
    refine hkd (.sym nl) m2 _ H' v (z.post.trans P1) A1 ⟨Nat.lt_succ_self nl, ?_⟩ h3
    show RD0 B.K (Al m2 (.mk (nl + 1) no os)) H' (if nl = nl then c else m.ν nl) v
    rw [if_pos rfl]
    exact R
end
end Ev
end
end

/-! part EvAC -/
section
set_option Elab.async false
set_option linter.all false
set_option maxRecDepth 100000
set_option maxHeartbeats 4000000
/-! EvAC: defs walked by hand: the law's draw, the law's bag. -/
noncomputable section
namespace Ev
open PySem PySem.Spec PyProof.Rows L2

/-- a def walked by hand -/
theorem fn_hand {B : Bs} {x qual : Str} {params : Arguments} {body : List Stmt} {scope : Scope} {f : Addr} {fd : FuncData} {N ps : List Str} {k : Nat} {gd : Bool} {xf : XF} {t : TS} (F : FunD B.K x qual params body scope [] [] f fd) (hm : B.mg x = some (.ref f)) (S : FnScope N ps scope)
    (hb : ∀ (kV doc pm : Value) (an : Option Addr) (cdv ct : Value) (us : List Value), us.length = ps.length → bindArgs (PySem.W.fnOf x qual params body scope .none kV doc pm an cdv ct) ⟨us, []⟩ = pure (ps.zip us))
    (hl : ∀ vs H Q E, SpF B xf vs H Q E → vs.length = ps.length) (hbody : ∀ X E, Cok B ⟨N, scope, k, gd, fun _ => true, false⟩ E X → PSs X body t)
    (hp : ∀ vs H Q E, SpF B xf vs H Q E → t { nx := fun _ H' => Q .non H', rt := Q } (L2.start N vs) H) : FnC B gd (k + 1) x xf := by
  refine ⟨f, hm, F.kp, fun A outer s H us vs Q E hr hg e0 r h => ?_⟩
  have h2 := hl _ _ _ _ h
  have B1 := F.bindsA hb s us (by rw [← r.length, h2])
  obtain ⟨oc, od, dV, kV, doc, pm, an, cdv, ct, osl, rfl, lk, hcd, _, _⟩ := F.ex
  refine LamX.run_ofS (N := N) (ps := ps) (us := us) (vs := vs) lk hcd S hr e0 B1 r h2 fun hr' => ?_
  exact ⟨t, hbody _ E (cok_def S.nd hr' hg fun z => absurd z Bool.false_ne_true), hp _ _ _ _ h⟩
/-- an int comes out, the heap stays -/
def Iv (te : TE) (σ : L2.St) (H : Hp) (i : Int) : Prop := ∀ Q : VK, Q (.int i) H → te σ H Q
section
variable {σ : L2.St} {H : Hp} {ta tb : TE} {i j r : Int}
theorem iv_con : Iv (tC (.int i)) σ H i := fun Q q => q
theorem iv_var {n : Nat} (h : σ[n]? = some (some (.int i))) : Iv (tVar n) σ H i := fun Q q => ⟨_, h, q⟩
theorem iv_op {C : Int → Int → Prop} {g : Int → Int → V} (hC : C i j) (hg : g i j = .int r) (ha : Iv ta σ H i) (hb : Iv tb σ H j) : Iv (tOp (rI C g) ta tb) σ H r := fun Q q => ha _ (hb _ ⟨i, j, rfl, rfl, hC, by rw [hg]; exact q⟩)
theorem iv_op0 {g : Int → Int → V} (hg : g i j = .int r) (ha : Iv ta σ H i) (hb : Iv tb σ H j) : Iv (tOp (rI0 g) ta tb) σ H r := fun Q q => ha _ (hb _ ⟨i, j, rfl, rfl, by rw [hg]; exact q⟩)
theorem iv_ix {K : PySem.W.Frag} {n : Nat} {a : Addr} {xs : List V} (h : σ[n]? = some (some (.ref a))) (hH : H a = some (.lst xs)) (hx : atI xs j = some (.int i)) : Iv (tOp (rIx K) (tVar n) (tC (.int j))) σ H i := fun Q q => ⟨_, h, .inl ⟨a, xs, j, .int i, rfl, rfl, sq_lst hH, hx, q⟩⟩
def rInt : List V → Hp → VK → Prop := fun xs H Q => (∃ i, xs = [.int i] ∧ Q (.int i) H) ∨ ∃ k, xs = [.bl k] ∧ Q (.int (if k then 1 else 0)) H
theorem iv_int (ha : Iv ta σ H i) : Iv (tCB rInt (tCons ta tNil)) σ H i := fun Q q => ha _ (.inl ⟨i, rfl, q⟩)
end
/-! ### the bag's items change -/
theorem bag_set {B : Bs} {m : Md} {s : S} {H : Hp} {b : Nat} {x y z : Int} (ar : AR B m s H) (hb : osGet s.os b = some .bag) :
    Post m s H m s (upd H (m.ρ b) (.lst [.int x, .int y, .int z])) ∧ AR B m s (upd H (m.ρ b) (.lst [.int x, .int y, .int z])) := by
  obtain ⟨x0, y0, z0, h0⟩ := ar.obj b _ hb
  have P : Post m s H m s (upd H (m.ρ b) (.lst [.int x, .int y, .int z])) := ⟨.refl, fun c o e n _ => by
    rw [upd_ne (fun q => n ⟨b, .bag, hb, rfl, q.symm⟩)]; exact e, fun _ h => .inl h, fun _ h => .inl h, fun _ _ h _ => h⟩
  refine ⟨P, ar.desc, ar.num, ar.inj, fun i o h => ?_, tabs_upd ar.tabs (.inl ⟨_, h0, rfl⟩), ar.lets⟩
  by_cases e : i = b
  · subst e
    rw [hb] at h
    cases h
    exact ⟨x, y, z, upd_same⟩
  · refine P.or_ ar (fun u hu => ?_) (ar.obj i o h)
    rw [upd_ne (fun q => e (ar.inj i b o _ h hb q))]
    exact hu
/-- the bag and a number -/
def refI (us : List D) : Option (Nat × Nat) := match us with
  | [.ref b, .int (.ofNat n)] => some (b, n)
  | _ => none
theorem refI_ok {us : List D} {b n : Nat} (h : refI us = some (b, n)) : us = [.ref b, .int (n : Int)] := by
  unfold refI at h
  split at h
  · cases h
    rfl
  · cases h
/-- any number below n -/
def xDraw : XF := fun us s k _ => match refI us with
  | some (b, n) => grd (isBag (osGet (sOs s) b)) (grd (Nat.blt 0 n && Nat.blt n 1152921504606846976) (allN (fun i => k (.int (.ofNat i)) s) n))
  | none => false
theorem draw_sp {B : Bs} {vs : List V} {H : Hp} {Q : VK} {E : XK} (h : SpF B xDraw vs H Q E) :
    ∃ (a : Addr) (n : Nat) (x y z : Int), vs = [.ref a, .int (n : Int)] ∧ H a = some (.lst [.int x, .int y, .int z]) ∧ 0 < n ∧ n < 1152921504606846976 ∧
      ∀ i x y z, i < n → Q (.int (i : Int)) (upd H a (.lst [.int x, .int y, .int z])) := by
  obtain ⟨m, st, ds, k, kx, ar, rd, hx, hkd, hkx⟩ := h
  have hx' : (match refI ds with
    | some (b, n) => grd (isBag (osGet (sOs st) b)) (grd (Nat.blt 0 n && Nat.blt n 1152921504606846976) (allN (fun i => k (.int (.ofNat i)) st) n))
    | none => false) = true := hx
  cases e : refI ds with
  | none => rw [e] at hx'; exact ff hx'
  | some bn =>
    obtain ⟨b, n⟩ := bn
    rw [e] at hx'
    obtain ⟨c1, h2⟩ := grd_ok hx'
    obtain ⟨c2, h3⟩ := grd_ok h2
    have hb := isBag_ok c1
    rw [sOs_eq] at hb
    have ed := refI_ok e
    subst ed
    obtain ⟨v, t, ev, ⟨_, r0⟩, v2, t2, et, r2, et2⟩ := rd
    have et' : t2 = [] := et2
    have r2' : v2 = .int (n : Int) := r2
    subst et' et r2' ev r0
    obtain ⟨x, y, z, hH⟩ := ar.obj b _ hb
    rw [Bool.and_eq_true, Nat.blt_eq, Nat.blt_eq] at c2
    refine ⟨m.ρ b, n, x, y, z, rfl, hH, c2.1, c2.2, fun i x y z hi => ?_⟩
    obtain ⟨P, A⟩ := bag_set (x := x) (y := y) (z := z) ar hb
    exact hkd (.int (i : Int)) m st _ _ P A rfl (allN_ok h3 hi)
/-! ### the draw's body -/
abbrev rMd : R2 := rI (fun _ j => j ≠ 0) fun i j => .int (i.fmod j)
abbrev rFd : R2 := rI (fun _ j => j ≠ 0 ∧ j.natAbs.log2 < 9000) fun i j => .int (i.fdiv j)
abbrev rAd : R2 := rI0 fun i j => .int (i + j)
abbrev rMu : R2 := rI CMul fun i j => .int (i * j)
abbrev bx (K : PySem.W.Frag) (j : Int) : TE := tOp (rIx K) (tVar 0) (tC (.int j))
abbrev tI (a : TE) : TE := tCB rInt (tCons a tNil)
def tDraw (K : PySem.W.Frag) (c1 m1 c2 m2 c3 c4 : Int) : TS :=
  tSeq (tIfS (tB (tGt (bx K 0) (tC (.int 0)))) (tSeq (tAsg (tOp rMd (tI (bx K 0)) (tVar 1)) (gName 2)) (tSeq (tAsg (tOp rFd (bx K 0) (tVar 1)) (gSub (tVar 0) (tC (.int 0)) rSetL)) (tRet (tVar 2)))) tNext)
  (tSeq (tAsg (tOp rAd (bx K 2) (tC (.int 1))) (gSub (tVar 0) (tC (.int 2)) rSetL))
  (tSeq (tAsg (tOp rMd (tI (tOp rAd (bx K 1) (tOp rMu (tC (.int c1)) (bx K 2)))) (tC (.int m1))) (gName 3))
  (tSeq (tAsg (tOp rAd (tOp rMu (tOp rMd (tI (tOp rAd (tOp rMu (tVar 3) (tVar 3)) (tOp rMu (tC (.int c2)) (bx K 2)))) (tC (.int m2))) (tC (.int c3))) (tVar 3)) (gName 4))
  (tRet (tOp rMd (tI (tOp rFd (tVar 4) (tC (.int c4)))) (tVar 1))))))
theorem iv_gt {ta tb : TE} {σ : L2.St} {H : Hp} {i j : Int} (ha : Iv ta σ H i) (hb : Iv tb σ H j) {Q : Bool → Hp → Prop} (q : Q (decide (j < i)) H) : tB (tGt ta tb) σ H Q := ha _ (hb _ ⟨i, j, rfl, rfl, _, rfl, q⟩)
theorem draw_pure {K : PySem.W.Frag} {c1 m1 c2 m2 c3 c4 : Int} (h1 : -(2 ^ 64) < c1 ∧ c1 < 2 ^ 64) (g1 : 0 < m1 ∧ m1 < 2 ^ 63) (h2 : -(2 ^ 64) < c2 ∧ c2 < 2 ^ 64) (g2 : m2 ≠ 0) (h3 : -(2 ^ 64) < c3 ∧ c3 < 2 ^ 64) (g4 : c4 ≠ 0 ∧ c4.natAbs.log2 < 9000)
    {a : Addr} {n : Nat} {x y z : Int} {H : Hp} {Q : VK} {p1 p2 p3 p4 p5 : Str} (hH : H a = some (.lst [.int x, .int y, .int z])) (hn : 0 < n) (hn2 : n < 1152921504606846976) (hQ : ∀ i x y z, i < n → Q (.int (Nat.cast i : Int)) (upd H a (.lst [.int x, .int y, .int z]))) :
    tDraw K c1 m1 c2 m2 c3 c4 { nx := fun _ H' => Q .non H', rt := Q } (L2.start [p1, p2, p3, p4, p5] [.ref a, .int (n : Int)]) H := by
  have n0 : (n : Int) ≠ 0 := by omega
  have n9 : (n : Int).natAbs.log2 < 9000 := by
    rw [Int.natAbs_natCast]
    exact Nat.lt_of_le_of_lt (Nat.log2_le_self n |> fun _ => Nat.le_of_lt_succ (Nat.log2_lt (by omega) |>.mpr (Nat.lt_of_lt_of_le hn2 (by decide : 1152921504606846976 ≤ 2 ^ 61)))) (by decide : 60 < 9000)
  have below : ∀ w : Int, ∃ i : Nat, i < n ∧ w.fmod n = (i : Int) := fun w => by
    have e1 := Int.fmod_nonneg_of_pos w (show (0 : Int) < n by omega)
    have e2 := Int.fmod_lt_of_pos w (show (0 : Int) < n by omega)
    exact ⟨(w.fmod n).toNat, by omega, by omega⟩
  have uu : ∀ {w1 w2 : HO}, upd (upd H a w1) a w2 = upd H a w2 := fun {w1 w2} => by
    funext c
    by_cases e : c = a
    · rw [e, upd_same, upd_same]
    · rw [upd_ne e, upd_ne e, upd_ne e]
  let σ0 : L2.St := [some (.ref a), some (.int (n : Int)), none, none, none]
  have X0 : ∀ {σ H1} {u v w : Int}, σ[0]? = some (some (V.ref a)) → H1 a = some (.lst [.int u, .int v, .int w]) → Iv (bx K 0) σ H1 u ∧ Iv (bx K 1) σ H1 v ∧ Iv (bx K 2) σ H1 w := fun hs hh => ⟨iv_ix hs hh rfl, iv_ix hs hh rfl, iv_ix hs hh rfl⟩
  obtain ⟨q0, q1, q2⟩ := X0 (σ := σ0) rfl hH
  refine iv_gt (σ := σ0) q0 iv_con ?_
  by_cases hx : 0 < x
  · rw [if_pos (by simpa using hx)]
    obtain ⟨i, hi, ei⟩ := below x
    have A1 : Iv (tOp rMd (tI (bx K 0)) (tVar 1)) σ0 H (i : Int) := iv_op n0 (by rw [ei]) (iv_int q0) (iv_var rfl)
    refine A1 _ ?_
    let σ1 : L2.St := [some (.ref a), some (.int (n : Int)), some (.int (i : Int)), none, none]
    have A2 : Iv (tOp rFd (bx K 0) (tVar 1)) σ1 H (x.fdiv n) := iv_op ⟨n0, n9⟩ rfl (X0 (σ := σ1) rfl hH).1 (iv_var rfl)
    refine A2 _ ?_
    refine ⟨.ref a, rfl, a, _, 0, 0, rfl, rfl, hH, rfl, ?_⟩
    exact ⟨.int (i : Int), rfl, hQ i _ y z hi⟩
  · rw [if_neg (by simpa using hx)]
    have A1 : Iv (tOp rAd (bx K 2) (tC (.int 1))) σ0 H (z + 1) := iv_op0 rfl q2 iv_con
    refine A1 _ ?_
    refine ⟨.ref a, rfl, a, _, 2, 2, rfl, rfl, hH, rfl, ?_⟩
    have hH' : upd H a (.lst [.int x, .int y, .int (z + 1)]) a = some (.lst [.int x, .int y, .int (z + 1)]) := upd_same
    obtain ⟨r0, r1, r2⟩ := X0 (σ := σ0) rfl hH'
    have A2 : Iv (tOp rMd (tI (tOp rAd (bx K 1) (tOp rMu (tC (.int c1)) (bx K 2)))) (tC (.int m1))) σ0 (upd H a (.lst [.int x, .int y, .int (z + 1)])) ((y + c1 * (z + 1)).fmod m1) :=
      iv_op (by omega) rfl (iv_int (iv_op0 rfl r1 (iv_op (Or.inl h1) rfl iv_con r2))) iv_con
    refine A2 _ ?_
    have b1 := Int.fmod_nonneg_of_pos (y + c1 * (z + 1)) g1.1
    have b2 := Int.fmod_lt_of_pos (y + c1 * (z + 1)) g1.1
    generalize (y + c1 * (z + 1)).fmod m1 = o at b1 b2 ⊢
    let σ1 : L2.St := [some (.ref a), some (.int (n : Int)), none, some (.int o), none]
    obtain ⟨s0, s1, s2⟩ := X0 (σ := σ1) rfl hH'
    have o1 : Iv (tVar 3) σ1 (upd H a (.lst [.int x, .int y, .int (z + 1)])) o := iv_var rfl
    have A3 : Iv (tOp rMd (tI (tOp rAd (tOp rMu (tVar 3) (tVar 3)) (tOp rMu (tC (.int c2)) (bx K 2)))) (tC (.int m2))) σ1 (upd H a (.lst [.int x, .int y, .int (z + 1)])) ((o * o + c2 * (z + 1)).fmod m2) :=
      iv_op g2 rfl (iv_int (iv_op0 rfl (iv_op (Or.inl ⟨by omega, by omega⟩) rfl o1 o1) (iv_op (Or.inl h2) rfl iv_con s2))) iv_con
    have A4 : Iv (tOp rAd (tOp rMu (tOp rMd (tI (tOp rAd (tOp rMu (tVar 3) (tVar 3)) (tOp rMu (tC (.int c2)) (bx K 2)))) (tC (.int m2))) (tC (.int c3))) (tVar 3)) σ1 (upd H a (.lst [.int x, .int y, .int (z + 1)])) ((o * o + c2 * (z + 1)).fmod m2 * c3 + o) :=
      iv_op0 rfl (iv_op (Or.inr h3) rfl A3 iv_con) o1
    refine A4 _ ?_
    obtain ⟨i, hi, ei⟩ := below (((o * o + c2 * (z + 1)).fmod m2 * c3 + o).fdiv c4)
    let σ2 : L2.St := [some (.ref a), some (.int (n : Int)), none, some (.int o), some (.int ((o * o + c2 * (z + 1)).fmod m2 * c3 + o))]
    have A5 : Iv (tOp rMd (tI (tOp rFd (tVar 4) (tC (.int c4)))) (tVar 1)) σ2 (upd H a (.lst [.int x, .int y, .int (z + 1)])) (i : Int) :=
      iv_op n0 (by rw [ei]) (iv_int (iv_op g4 rfl (iv_var rfl) iv_con)) (iv_var rfl)
    exact A5 _ (hQ i x y (z + 1) hi)
/-! ### a new bag -/
/-- the script and a small number: a new bag -/
def gloI (us : List D) : Option Nat := match us with
  | [.glob _, .int (.ofNat n)] => some n
  | _ => none
theorem gloI_ok {us : List D} {n : Nat} (h : gloI us = some n) : ∃ x, us = [.glob x, .int (n : Int)] := by
  unfold gloI at h
  split at h
  · cases h
    exact ⟨_, rfl⟩
  · cases h
def xBag : XF := fun us s k _ => match gloI us with
  | some n => grd (Nat.blt n 1000) (newO s .bag k)
  | none => false
theorem bag_sp {B : Bs} {vs : List V} {H : Hp} {Q : VK} {E : XK} (h : SpF B xBag vs H Q E) :
    ∃ (a : Addr) (ns : List Int) (n : Nat), vs = [.ref a, .int (n : Int)] ∧ SqL B.K H a (ns.map V.int) ∧ n < 1000 ∧ ∀ p x y z, H p = none → Q (.ref p) (upd H p (.lst [.int x, .int y, .int z])) := by
  obtain ⟨m, ⟨nl, no, os⟩, ds, k, kx, ar, rd, hx, hkd, hkx⟩ := h
  have hx' : (match gloI ds with
    | some n => grd (Nat.blt n 1000) (newO (.mk nl no os) .bag k)
    | none => false) = true := hx
  cases e : gloI ds with
  | none => rw [e] at hx'; exact ff hx'
  | some n =>
    rw [e] at hx'
    obtain ⟨c1, h2⟩ := grd_ok hx'
    rw [newO_eq] at h2
    rw [Nat.blt_eq] at c1
    obtain ⟨x, ed⟩ := gloI_ok e
    subst ed
    obtain ⟨v, t, ev, ⟨a, ns, ea, hS, _⟩, v2, t2, et, r2, et2⟩ := rd
    have et' : t2 = [] := et2
    have r2' : v2 = .int (n : Int) := r2
    subst et' et r2' ev ea
    refine ⟨a, ns, n, rfl, ?_, c1, fun p x y z hp => ?_⟩
    · rcases hS with ⟨q, _⟩ | ⟨o, q⟩ | q
      · exact .inl (.inl q)
      · exact .inl (.inr ⟨o, q⟩)
      · exact q H
    · obtain ⟨P, A, R⟩ := made ar hp (u := .lst [.int x, .int y, .int z]) (o := .bag) fun m' s' H' _ h => ⟨x, y, z, h⟩
      exact hkd _ _ _ _ _ P A R h2
def rAbs : List V → Hp → VK → Prop := fun xs H Q => ∃ i, xs = [.int i] ∧ Q (.int (if i < 0 then -i else i)) H
abbrev tAb (a : TE) : TE := tCB rAbs (tCons a tNil)
abbrev tMx (a b : TE) : TE := tCB rMax (tCons a (tCons b tNil))
abbrev rPw : R2 := rI CPow fun i j => .int (i ^ j.toNat)
abbrev rMw : R2 := rI CMulW fun i j => .int (i * j)
abbrev rSb : R2 := rI0 fun i j => .int (i - j)
section
variable {σ : L2.St} {H : Hp} {ta tb : TE} {i j r : Int}
theorem iv_abs (ha : Iv ta σ H i) : Iv (tAb ta) σ H (if i < 0 then -i else i) := fun Q q => ha _ ⟨i, rfl, q⟩
theorem iv_max (ha : Iv ta σ H i) (hb : Iv tb σ H j) : Iv (tMx ta tb) σ H (if j > i then j else i) := fun Q q => ha _ (hb _ ⟨i, j, rfl, q⟩)
theorem iv_ltb (ha : Iv ta σ H i) (hb : Iv tb σ H j) : Iv (tI (tLt ta tb)) σ H (if decide (i < j) then 1 else 0) := fun Q q => ha _ (hb _ ⟨i, j, rfl, rfl, .inr ⟨_, rfl, q⟩⟩)
theorem iv_lt {Q : Bool → Hp → Prop} (ha : Iv ta σ H i) (hb : Iv tb σ H j) (q : Q (decide (i < j)) H) : tB (tLt ta tb) σ H Q := ha _ (hb _ ⟨i, j, rfl, rfl, _, rfl, q⟩)
end
def tBag (K : PySem.W.Frag) (a1 a2 p1 p2 q1 q2 q3 q4 m c d e f : Int) : TS :=
  tSeq (tAsg (tIf (tB (tLt (tVar 1) (tLn K (tVar 0)))) (tI (tOp (rIx K) (tVar 0) (tVar 1))) (tOp rAd (tOp rMu (tC (.int a1)) (tVar 1)) (tC (.int a2)))) (gName 2))
  (tSeq (tAsg (tOp rMd (tMx (tC (.int 0)) (tOp rSb (tAb (tVar 2)) (tOp rPw (tC (.int p1)) (tC (.int p2))))) (tOp rMw (tOp rPw (tC (.int q1)) (tC (.int q2))) (tOp rPw (tC (.int q3)) (tC (.int q4))))) (gName 3))
  (tRet (tLst (tCons (tVar 3) (tCons (tOp rAd (tOp rAd (tOp rAd (tOp rMu (tOp rMd (tAb (tVar 2)) (tC (.int m))) (tC (.int c))) (tOp rMu (tC (.int d)) (tVar 1))) (tOp rMu (tC (.int e)) (tI (tLt (tVar 2) (tC (.int 0)))))) (tC (.int f))) (tCons (tC (.int 0)) tNil))))))
theorem bag_pure {K : PySem.W.Frag} {a1 a2 p1 p2 q1 q2 q3 q4 m c d e f : Int} (h1 : -(2 ^ 64) < a1 ∧ a1 < 2 ^ 64) (hp : CPow p1 p2) (hq1 : CPow q1 q2) (hq2 : CPow q3 q4) (hq : CMulW (q1 ^ q2.toNat) (q3 ^ q4.toNat)) (hq0 : q1 ^ q2.toNat * q3 ^ q4.toNat ≠ 0) (hm : m ≠ 0)
    (hc : -(2 ^ 64) < c ∧ c < 2 ^ 64) (hd : -(2 ^ 64) < d ∧ d < 2 ^ 64) (he : -(2 ^ 64) < e ∧ e < 2 ^ 64) {a : Addr} {ns : List Int} {n : Nat} {H : Hp} {Q : VK} {x1 x2 x3 x4 : Str} (hS : SqL K H a (ns.map V.int)) (hQ : ∀ p x y z, H p = none → Q (.ref p) (upd H p (.lst [.int x, .int y, .int z]))) :
    tBag K a1 a2 p1 p2 q1 q2 q3 q4 m c d e f { nx := fun _ H' => Q .non H', rt := Q } (L2.start [x1, x2, x3, x4] [.ref a, .int (n : Int)]) H := by
  let σ0 : L2.St := [some (.ref a), some (.int (n : Int)), none, none]
  have n0 : Iv (tVar 1) σ0 H (n : Int) := iv_var rfl
  have ln : Iv (tLn K (tVar 0)) σ0 H ((ns.map V.int).length : Nat) := fun Q q => ⟨.ref a, rfl, .ref a, (ns.map V.int).length, rfl, .inl ⟨_, hS, rfl⟩, q⟩
  have fin : ∀ w : Int, (tSeq (tAsg (tOp rMd (tMx (tC (.int 0)) (tOp rSb (tAb (tVar 2)) (tOp rPw (tC (.int p1)) (tC (.int p2))))) (tOp rMw (tOp rPw (tC (.int q1)) (tC (.int q2))) (tOp rPw (tC (.int q3)) (tC (.int q4))))) (gName 3))
      (tRet (tLst (tCons (tVar 3) (tCons (tOp rAd (tOp rAd (tOp rAd (tOp rMu (tOp rMd (tAb (tVar 2)) (tC (.int m))) (tC (.int c))) (tOp rMu (tC (.int d)) (tVar 1))) (tOp rMu (tC (.int e)) (tI (tLt (tVar 2) (tC (.int 0)))))) (tC (.int f))) (tCons (tC (.int 0)) tNil)))))) { nx := fun _ H' => Q .non H', rt := Q } [some (.ref a), some (.int (n : Int)), some (.int w), none] H := fun w => by
    let σ1 : L2.St := [some (.ref a), some (.int (n : Int)), some (.int w), none]
    have c1 : Iv (tVar 2) σ1 H w := iv_var rfl
    have pw : ∀ {u v : Int}, CPow u v → Iv (tOp rPw (tC (.int u)) (tC (.int v))) σ1 H (u ^ v.toNat) := fun h => iv_op h rfl iv_con iv_con
    have A := iv_op (C := fun _ j => j ≠ 0) (g := fun i j => V.int (i.fmod j)) hq0 rfl (iv_max (i := 0) iv_con (iv_op0 (g := fun i j => V.int (i - j)) rfl (iv_abs c1) (pw hp))) (iv_op (C := CMulW) (g := fun i j => V.int (i * j)) hq rfl (pw hq1) (pw hq2))
    refine A _ ?_
    generalize Int.fmod _ (q1 ^ q2.toNat * q3 ^ q4.toNat) = g
    let σ2 : L2.St := [some (.ref a), some (.int (n : Int)), some (.int w), some (.int g)]
    have g3 : Iv (tVar 3) σ2 H g := iv_var rfl
    have d1 : Iv (tVar 2) σ2 H w := iv_var rfl
    have d0 : Iv (tVar 1) σ2 H (n : Int) := iv_var rfl
    have B := iv_op0 (g := fun i j => V.int (i + j)) rfl (iv_op0 (g := fun i j => V.int (i + j)) rfl (iv_op0 (g := fun i j => V.int (i + j)) rfl (iv_op (C := CMul) (g := fun i j => V.int (i * j)) (Or.inr hc) rfl (iv_op (C := fun _ j => j ≠ 0) (g := fun i j => V.int (i.fmod j)) hm rfl (iv_abs d1) (iv_con (i := m))) iv_con) (iv_op (C := CMul) (g := fun i j => V.int (i * j)) (Or.inl hd) rfl iv_con d0)) (iv_op (C := CMul) (g := fun i j => V.int (i * j)) (Or.inl he) rfl iv_con (iv_ltb d1 (iv_con (i := 0))))) (iv_con (i := f))
    have T := fun (tb : TE) (y : Int) (hb : Iv tb σ2 H y) (K' : List V → Hp → Prop) (q : K' [.int g, .int y, .int 0] H) => (show tCons (tVar 3) (tCons tb (tCons (tC (.int 0)) tNil)) σ2 H K' from g3 _ (hb _ q))
    dsimp only [gName, tRet, List.set, tLst]
    refine T _ _ B _ ?_
    exact ⟨by show 3 ≤ sizeLine; rw [sizeLine_eq]; decide, fun p hp => hQ p _ _ 0 hp⟩
  refine iv_lt n0 ln ?_
  by_cases hlt : (n : Int) < ((ns.map V.int).length : Nat)
  · rw [if_pos (by simpa using hlt)]
    have hn : n < (ns.map V.int).length := by omega
    have hn' : n < ns.length := by simpa using hn
    have at1 : atI (ns.map V.int) (n : Int) = some (.int ns[n]) := by
      unfold atI
      rw [Evl.ixN_nat hn]
      simp [hn']
    have A : Iv (tI (tOp (rIx K) (tVar 0) (tVar 1))) σ0 H ns[n] := iv_int fun Q q => ⟨.ref a, rfl, .int (n : Int), rfl, .inl ⟨a, _, n, .int ns[n], rfl, rfl, hS, at1, q⟩⟩
    exact A _ (fin _)
  · rw [if_neg (by simpa using hlt)]
    have A : Iv (tOp rAd (tOp rMu (tC (.int a1)) (tVar 1)) (tC (.int a2))) σ0 H (a1 * n + a2) := iv_op0 rfl (iv_op (Or.inl h1) rfl iv_con n0) iv_con
    exact A _ (fin _)
end Ev
end
end

/-! part EvCG -/
section
set_option Elab.async false
set_option linter.all false
set_option maxRecDepth 100000
set_option maxHeartbeats 4000000
/-! EvCG: a draw below a large number, as a letter. -/
noncomputable section
namespace Ev
open PySem PySem.Spec PyProof.Rows L2

def kdInts (N : Nat) : List D := (List.range N).map fun (j : Nat) => D.int (Int.ofNat j)
theorem kdInts_mem {N j : Nat} (h : j < N) : D.int (j : Int) ∈ kdInts N := List.mem_map.mpr ⟨j, List.mem_range.mpr h, rfl⟩
theorem ofString_ok (x : String) : PyData.strOk (Str.ofString x) = true := by
  rw [Str.ofString_eq_toList]
  unfold PyData.strOk
  rw [← Array.all_toList]
  show ((x.toList.map Char.toNat).all fun c => decide (c < 0x110000)) = true
  rw [List.all_eq_true]
  intro c hc
  obtain ⟨d, _, e⟩ := List.mem_map.mp hc
  subst e
  rw [decide_eq_true_eq]
  have := d.valid
  rcases this with h | h
  · exact Nat.lt_trans h (by decide)
  · exact h.2
theorem kdInts_ok {N : Nat} (hN : N ≤ 10 ^ 12) {d : D} (h : d ∈ kdInts N) : (∃ p, toPy d = some p) ∧ ∀ p, toPy d = some p → PyData.strOk p.shown = true ∧ p.showable = true ∧ p.shown.length ≤ 1000000 ∧ p.depth ≤ 60 ∧ (∀ n, d = .int n → n.natAbs.log2 < 1920) ∧ (p.hasDict = true → d = .fd [] []) := by
  obtain ⟨j, hj, e⟩ := List.mem_map.mp h
  subst e
  have hj := List.mem_range.mp hj
  have hlog : ((j : Int).natAbs).log2 < 1920 := by
    rw [Int.natAbs_natCast]
    by_cases z : j = 0
    · rw [z]; decide
    · exact (Nat.log2_lt z).mpr (Nat.lt_of_lt_of_le (Nat.lt_of_lt_of_le hj hN) (Nat.le_trans (by decide : 10 ^ 12 ≤ 2 ^ 64) (Nat.pow_le_pow_right (n := 2) (by decide) (by decide : 64 ≤ 1920))))
  refine ⟨⟨_, rfl⟩, fun p hp => ?_⟩
  cases hp
  refine ⟨by rw [PyData.shown_int]; exact ofString_ok _, by simpa [PyData.showable] using hlog, Nat.le_trans (PyData.shown_int_le (show (Int.ofNat j).natAbs < 10 ^ 12 from Nat.lt_of_lt_of_le hj hN)) (by decide), by simp [PyData.depth], fun n z => by cases z; exact hlog, fun z => by simp [PyData.hasDict] at z⟩
/-- the draw: below N a letter, else a number -/
def xDrawJ (M N : Nat) : XF := fun us s k x => match refI us with
  | some (b, n) => Bool.rec (motive := fun _ => Bool) (xDraw us s k x) (grd (isBag (osGet (sOs s) b)) (grd (Nat.blt 0 N && Nat.blt N 1152921504606846976) (S.rec (motive := fun _ => Bool) (fun nl no os => grd (Nat.blt nl M) (k (.sym nl) (.mk (Nat.succ nl) no os))) s))) (Nat.beq n N)
  | none => false
def inR (N : Nat) (d : D) : Bool := match d with
  | .int (.ofNat j) => Nat.blt j N
  | _ => false
theorem allN_of {k : Nat → Bool} : ∀ n, (∀ i, i < n → k i = true) → allN k n = true
  | 0, _ => rfl
  | n + 1, h => by
    show grd (k n) (allN k n) = true
    rw [h n (Nat.lt_succ_self n), allN_of n fun i hi => h i (Nat.lt_succ_of_lt hi)]
    rfl
theorem sp_J {B : Bs} {M N : Nat} (hl : ∀ i, i < M → ∀ j, j < N → D.int (j : Int) ∈ B.kd i) {vs : List V} {H : Hp} {Q : VK} {E : XK} (h : SpF B (xDrawJ M N) vs H Q E) : SpF B xDraw vs H Q E := by
  classical
  obtain ⟨m, s, ds, k, kx, ar, rd, hx, hk, hkx⟩ := h
  have hx' : (match refI ds with
    | some (b, n) => Bool.rec (motive := fun _ => Bool) (xDraw ds s k kx) (grd (isBag (osGet (sOs s) b)) (grd (Nat.blt 0 N && Nat.blt N 1152921504606846976) (S.rec (motive := fun _ => Bool) (fun nl no os => grd (Nat.blt nl M) (k (.sym nl) (.mk (Nat.succ nl) no os))) s))) (Nat.beq n N)
    | none => false) = true := hx
  cases e : refI ds with
  | none => rw [e] at hx'; exact ff hx'
  | some bn =>
    obtain ⟨b, n⟩ := bn
    rw [e] at hx'
    cases c : Nat.beq n N with
    | false =>
      simp only [c] at hx'
      exact ⟨m, s, ds, k, kx, ar, rd, hx', hk, hkx⟩
    | true =>
      simp only [c] at hx'
      have en := Nat.eq_of_beq_eq_true c
      subst en
      obtain ⟨c1, h2⟩ := grd_ok hx'
      obtain ⟨c2, h3⟩ := grd_ok h2
      obtain ⟨nl, no, os⟩ := s
      obtain ⟨c3, h4⟩ := grd_ok (show grd (Nat.blt nl M) (k (.sym nl) (.mk (Nat.succ nl) no os)) = true from h3)
      rw [Nat.blt_eq] at c3
      refine ⟨m, .mk nl no os, ds, fun d t => inR n d && decide (t = .mk nl no os), kx, ar, rd, ?_, fun d m1 s1 H1 v p1 a1 r1 q => ?_, hkx⟩
      · show (match refI ds with
          | some (b, n') => grd (isBag (osGet (sOs (.mk nl no os)) b)) (grd (Nat.blt 0 n' && Nat.blt n' 1152921504606846976) (allN (fun j => inR n (.int (.ofNat j)) && decide ((S.mk nl no os) = .mk nl no os)) n'))
          | none => false) = true
        rw [e]
        show grd (isBag (osGet (sOs (.mk nl no os)) b)) (grd (Nat.blt 0 n && Nat.blt n 1152921504606846976) (allN (fun j => inR n (.int (.ofNat j)) && decide ((S.mk nl no os) = .mk nl no os)) n)) = true
        rw [c1, c2, allN_of n fun j hj => ?_]
        · rfl
        · rw [decide_eq_true rfl, Bool.and_true]
          exact (Nat.blt_eq.mpr hj : Nat.blt j n = true)
      · obtain ⟨q1, q2⟩ := a2 q
        have es := of_decide_eq_true q2
        subst es
        cases d <;> first | exact ff q1 | skip
        rename_i z
        obtain j | j := z
        · have hj : j < n := by rw [← Nat.blt_eq]; exact q1
          let m2 : Md := ⟨m1.ρ, fun t => if t = nl then .int (j : Int) else m1.ν t⟩
          have mo : More m1 m2 nl (nl + 1) no no := ⟨Nat.le_refl _, Nat.le_succ _, fun _ _ => rfl, fun t ht => if_neg (Nat.ne_of_lt ht)⟩
          have P1 : Post m1 (.mk nl no os) H1 m2 (.mk (nl + 1) no os) H1 := ⟨mo, fun _ _ h _ _ => h, fun _ z => .inl z, fun _ z => .inl z, fun _ _ z _ => z⟩
          have A1 : AR B m2 (.mk (nl + 1) no os) H1 := by
            refine ⟨a1.desc, a1.num, a1.inj, fun t o ht => P1.or_ a1 (fun u hu => hu) (a1.obj t o ht), a1.tabs, fun t ht => ?_⟩
            show (if t = nl then D.int (j : Int) else m1.ν t) ∈ B.kd t
            by_cases e : t = nl
            · rw [if_pos e, e]
              exact hl nl c3 j hj
            · rw [if_neg e]
              exact a1.lets t (Nat.lt_of_le_of_ne (Nat.le_of_lt_succ ht) e)
          refine hk (.sym nl) m2 _ H1 v (p1.trans P1) A1 ⟨Nat.lt_succ_self _, ?_⟩ h4
          show RD0 B.K _ H1 (if nl = nl then D.int (j : Int) else m1.ν nl) v
          rw [if_pos rfl]
          exact r1
        · exact ff q1
theorem fn_J {B : Bs} {gd : Bool} {l M N : Nat} {x : Str} (F : FnC B gd l x xDraw) (hl : ∀ i, i < M → ∀ j, j < N → D.int (j : Int) ∈ B.kd i) : FnC B gd l x (xDrawJ M N) := by
  obtain ⟨f, h1, h2, h3⟩ := F.ok
  exact ⟨f, h1, h2, fun A outer s H us vs Q E hr hg he hv hs => h3 A outer s H us vs Q E hr hg he hv (sp_J hl hs)⟩
end Ev
end
end

/-! part EvAO -/
section
set_option Elab.async false
set_option linter.all false
set_option maxRecDepth 100000
set_option maxHeartbeats 4000000
/-! EvAO: another draw, another bag. -/
noncomputable section
namespace Ev
open PySem PySem.Spec PyProof.Rows L2

def CPowW (i j : Int) : Prop := 0 ≤ j ∧ (Builtin.Int.intBits i : Int) * j ≤ 2 ^ 27
theorem op_powW {X : Cx} : OpR X (binaryOp .Pow) (rI CPowW fun i j => .int (i ^ j.toNat)) := opI fun _ _ _ _ _ _ _ hc q => pow_int hc.1 hc.2 q
abbrev rPW : R2 := rI CPowW fun i j => .int (i ^ j.toNat)
def tDraw2 (K : PySem.W.Frag) (c1 m1 m2 c2 m3 c4 : Int) : TS :=
  tSeq (tIfS (tB (tGt (bx K 0) (tC (.int 0)))) (tSeq (tAsg (tOp rMd (tI (bx K 0)) (tVar 1)) (gName 2)) (tSeq (tAsg (tOp rFd (bx K 0) (tVar 1)) (gSub (tVar 0) (tC (.int 0)) rSetL)) (tRet (tVar 2)))) tNext)
  (tSeq (tAsg (tOp rAd (bx K 2) (tC (.int 1))) (gSub (tVar 0) (tC (.int 2)) rSetL))
  (tSeq (tAsg (tOp rMd (tI (tOp rAd (bx K 1) (tOp rMu (tC (.int c1)) (bx K 2)))) (tC (.int m1))) (gName 3))
  (tSeq (tAsg (tOp rAd (tOp rMu (tOp rMd (tI (tOp rMu (tVar 3) (tVar 3))) (tC (.int m2))) (tVar 3)) (tOp rMu (tC (.int c2)) (bx K 2))) (gName 4))
  (tRet (tOp rMd (tI (tOp rFd (tOp rMd (tI (tVar 4)) (tC (.int m3))) (tC (.int c4)))) (tVar 1))))))
theorem draw2_pure {K : PySem.W.Frag} {c1 m1 m2 c2 m3 c4 : Int} (h1 : -(2 ^ 64) < c1 ∧ c1 < 2 ^ 64) (g1 : 0 < m1 ∧ m1 < 2 ^ 63) (h2 : -(2 ^ 64) < c2 ∧ c2 < 2 ^ 64) (g2 : m2 ≠ 0) (g3 : m3 ≠ 0) (g4 : c4 ≠ 0 ∧ c4.natAbs.log2 < 9000)
    {a : Addr} {n : Nat} {x y z : Int} {H : Hp} {Q : VK} {p1 p2 p3 p4 p5 : Str} (hH : H a = some (.lst [.int x, .int y, .int z])) (hn : 0 < n) (hn2 : n < 1152921504606846976) (hQ : ∀ i x y z, i < n → Q (.int (Nat.cast i : Int)) (upd H a (.lst [.int x, .int y, .int z]))) :
    tDraw2 K c1 m1 m2 c2 m3 c4 { nx := fun _ H' => Q .non H', rt := Q } (L2.start [p1, p2, p3, p4, p5] [.ref a, .int (n : Int)]) H := by
  have n0 : (n : Int) ≠ 0 := by omega
  have n9 : (n : Int).natAbs.log2 < 9000 := by
    rw [Int.natAbs_natCast]
    exact Nat.lt_of_le_of_lt (Nat.log2_le_self n |> fun _ => Nat.le_of_lt_succ (Nat.log2_lt (by omega) |>.mpr (Nat.lt_of_lt_of_le hn2 (by decide : 1152921504606846976 ≤ 2 ^ 61)))) (by decide : 60 < 9000)
  have below : ∀ w : Int, ∃ i : Nat, i < n ∧ w.fmod n = (i : Int) := fun w => by
    have e1 := Int.fmod_nonneg_of_pos w (show (0 : Int) < n by omega)
    have e2 := Int.fmod_lt_of_pos w (show (0 : Int) < n by omega)
    exact ⟨(w.fmod n).toNat, by omega, by omega⟩
  let σ0 : L2.St := [some (.ref a), some (.int (n : Int)), none, none, none]
  have X0 : ∀ {σ H1} {u v w : Int}, σ[0]? = some (some (V.ref a)) → H1 a = some (.lst [.int u, .int v, .int w]) → Iv (bx K 0) σ H1 u ∧ Iv (bx K 1) σ H1 v ∧ Iv (bx K 2) σ H1 w := fun hs hh => ⟨iv_ix hs hh rfl, iv_ix hs hh rfl, iv_ix hs hh rfl⟩
  obtain ⟨q0, q1, q2⟩ := X0 (σ := σ0) rfl hH
  refine iv_gt (σ := σ0) q0 iv_con ?_
  by_cases hx : 0 < x
  · rw [if_pos (by simpa using hx)]
    obtain ⟨i, hi, ei⟩ := below x
    have A1 : Iv (tOp rMd (tI (bx K 0)) (tVar 1)) σ0 H (i : Int) := iv_op n0 (by rw [ei]) (iv_int q0) (iv_var rfl)
    refine A1 _ ?_
    let σ1 : L2.St := [some (.ref a), some (.int (n : Int)), some (.int (i : Int)), none, none]
    have A2 : Iv (tOp rFd (bx K 0) (tVar 1)) σ1 H (x.fdiv n) := iv_op ⟨n0, n9⟩ rfl (X0 (σ := σ1) rfl hH).1 (iv_var rfl)
    refine A2 _ ?_
    refine ⟨.ref a, rfl, a, _, 0, 0, rfl, rfl, hH, rfl, ?_⟩
    exact ⟨.int (i : Int), rfl, hQ i _ y z hi⟩
  · rw [if_neg (by simpa using hx)]
    have A1 : Iv (tOp rAd (bx K 2) (tC (.int 1))) σ0 H (z + 1) := iv_op0 rfl q2 iv_con
    refine A1 _ ?_
    refine ⟨.ref a, rfl, a, _, 2, 2, rfl, rfl, hH, rfl, ?_⟩
    have hH' : upd H a (.lst [.int x, .int y, .int (z + 1)]) a = some (.lst [.int x, .int y, .int (z + 1)]) := upd_same
    obtain ⟨r0, r1, r2⟩ := X0 (σ := σ0) rfl hH'
    have A2 : Iv (tOp rMd (tI (tOp rAd (bx K 1) (tOp rMu (tC (.int c1)) (bx K 2)))) (tC (.int m1))) σ0 (upd H a (.lst [.int x, .int y, .int (z + 1)])) ((y + c1 * (z + 1)).fmod m1) :=
      iv_op (by omega) rfl (iv_int (iv_op0 rfl r1 (iv_op (Or.inl h1) rfl iv_con r2))) iv_con
    refine A2 _ ?_
    have b1 := Int.fmod_nonneg_of_pos (y + c1 * (z + 1)) g1.1
    have b2 := Int.fmod_lt_of_pos (y + c1 * (z + 1)) g1.1
    generalize (y + c1 * (z + 1)).fmod m1 = o at b1 b2 ⊢
    let σ1 : L2.St := [some (.ref a), some (.int (n : Int)), none, some (.int o), none]
    obtain ⟨s0, s1, s2⟩ := X0 (σ := σ1) rfl hH'
    have o1 : Iv (tVar 3) σ1 (upd H a (.lst [.int x, .int y, .int (z + 1)])) o := iv_var rfl
    have A3 : Iv (tOp rMd (tI (tOp rMu (tVar 3) (tVar 3))) (tC (.int m2))) σ1 (upd H a (.lst [.int x, .int y, .int (z + 1)])) ((o * o).fmod m2) :=
      iv_op g2 rfl (iv_int (iv_op (Or.inl ⟨by omega, by omega⟩) rfl o1 o1)) iv_con
    have A4 : Iv (tOp rAd (tOp rMu (tOp rMd (tI (tOp rMu (tVar 3) (tVar 3))) (tC (.int m2))) (tVar 3)) (tOp rMu (tC (.int c2)) (bx K 2))) σ1 (upd H a (.lst [.int x, .int y, .int (z + 1)])) ((o * o).fmod m2 * o + c2 * (z + 1)) :=
      iv_op0 rfl (iv_op (Or.inr ⟨by omega, by omega⟩) rfl A3 o1) (iv_op (Or.inl h2) rfl iv_con s2)
    refine A4 _ ?_
    generalize (o * o).fmod m2 * o + c2 * (z + 1) = t
    obtain ⟨i, hi, ei⟩ := below ((t.fmod m3).fdiv c4)
    let σ2 : L2.St := [some (.ref a), some (.int (n : Int)), none, some (.int o), some (.int t)]
    have A5 : Iv (tOp rMd (tI (tOp rFd (tOp rMd (tI (tVar 4)) (tC (.int m3))) (tC (.int c4)))) (tVar 1)) σ2 (upd H a (.lst [.int x, .int y, .int (z + 1)])) (i : Int) :=
      iv_op n0 (by rw [ei]) (iv_int (iv_op g4 rfl (iv_op g3 rfl (iv_int (iv_var rfl)) iv_con) iv_con)) (iv_var rfl)
    exact A5 _ (hQ i x y (z + 1) hi)
def tBag2 (K : PySem.W.Frag) (a1 a2 p1 p2 p3 q1 q2 m c d : Int) : TS :=
  tSeq (tAsg (tIf (tB (tLt (tVar 1) (tLn K (tVar 0)))) (tOp (rIx K) (tVar 0) (tVar 1)) (tOp rAd (tOp rMu (tC (.int a1)) (tVar 1)) (tC (.int a2)))) (gName 2))
  (tSeq (tAsg (tOp rMd (tI (tAb (tVar 2))) (tOp rPW (tOp rPw (tC (.int p1)) (tC (.int p2))) (tC (.int p3)))) (gName 3))
  (tRet (tLst (tCons (tMx (tC (.int 0)) (tOp rSb (tVar 3) (tOp rPw (tC (.int q1)) (tC (.int q2))))) (tCons (tOp rAd (tOp rAd (tOp rMu (tOp rMd (tI (tVar 3)) (tC (.int m))) (tC (.int c))) (tOp rMu (tC (.int d)) (tVar 1))) (tI (tLt (tVar 2) (tC (.int 0))))) (tCons (tC (.int 0)) tNil))))))
theorem bag2_pure {K : PySem.W.Frag} {a1 a2 p1 p2 p3 q1 q2 m c d : Int} (h1 : -(2 ^ 64) < a1 ∧ a1 < 2 ^ 64) (hp : CPow p1 p2) (hpp : CPowW (p1 ^ p2.toNat) p3) (hp0 : (p1 ^ p2.toNat) ^ p3.toNat ≠ 0) (hq : CPow q1 q2) (hm : m ≠ 0)
    (hc : -(2 ^ 64) < c ∧ c < 2 ^ 64) (hd : -(2 ^ 64) < d ∧ d < 2 ^ 64) {a : Addr} {ns : List Int} {n : Nat} {H : Hp} {Q : VK} {x1 x2 x3 x4 : Str} (hS : SqL K H a (ns.map V.int)) (hQ : ∀ p x y z, H p = none → Q (.ref p) (upd H p (.lst [.int x, .int y, .int z]))) :
    tBag2 K a1 a2 p1 p2 p3 q1 q2 m c d { nx := fun _ H' => Q .non H', rt := Q } (L2.start [x1, x2, x3, x4] [.ref a, .int (n : Int)]) H := by
  let σ0 : L2.St := [some (.ref a), some (.int (n : Int)), none, none]
  have n0 : Iv (tVar 1) σ0 H (n : Int) := iv_var rfl
  have ln : Iv (tLn K (tVar 0)) σ0 H ((ns.map V.int).length : Nat) := fun Q q => ⟨.ref a, rfl, .ref a, (ns.map V.int).length, rfl, .inl ⟨_, hS, rfl⟩, q⟩
  have fin : ∀ w : Int, (tSeq (tAsg (tOp rMd (tI (tAb (tVar 2))) (tOp rPW (tOp rPw (tC (.int p1)) (tC (.int p2))) (tC (.int p3)))) (gName 3))
      (tRet (tLst (tCons (tMx (tC (.int 0)) (tOp rSb (tVar 3) (tOp rPw (tC (.int q1)) (tC (.int q2))))) (tCons (tOp rAd (tOp rAd (tOp rMu (tOp rMd (tI (tVar 3)) (tC (.int m))) (tC (.int c))) (tOp rMu (tC (.int d)) (tVar 1))) (tI (tLt (tVar 2) (tC (.int 0))))) (tCons (tC (.int 0)) tNil)))))) { nx := fun _ H' => Q .non H', rt := Q } [some (.ref a), some (.int (n : Int)), some (.int w), none] H := fun w => by
    let σ1 : L2.St := [some (.ref a), some (.int (n : Int)), some (.int w), none]
    have c1 : Iv (tVar 2) σ1 H w := iv_var rfl
    have A := iv_op (C := fun _ j => j ≠ 0) (g := fun i j => V.int (i.fmod j)) hp0 rfl (iv_int (iv_abs c1)) (iv_op (C := CPowW) (g := fun i j => V.int (i ^ j.toNat)) hpp rfl (iv_op (C := CPow) (g := fun i j => V.int (i ^ j.toNat)) hp rfl (iv_con (σ := σ1) (H := H)) iv_con) iv_con)
    refine A _ ?_
    generalize Int.fmod _ ((p1 ^ p2.toNat) ^ p3.toNat) = g
    let σ2 : L2.St := [some (.ref a), some (.int (n : Int)), some (.int w), some (.int g)]
    have g3 : Iv (tVar 3) σ2 H g := iv_var rfl
    have d1 : Iv (tVar 2) σ2 H w := iv_var rfl
    have d0 : Iv (tVar 1) σ2 H (n : Int) := iv_var rfl
    have B1 := iv_max (i := 0) (iv_con (σ := σ2) (H := H)) (iv_op0 (g := fun i j => V.int (i - j)) rfl g3 (iv_op (C := CPow) (g := fun i j => V.int (i ^ j.toNat)) hq rfl (iv_con (σ := σ2) (H := H)) iv_con))
    have B2 := iv_op0 (g := fun i j => V.int (i + j)) rfl (iv_op0 (g := fun i j => V.int (i + j)) rfl (iv_op (C := CMul) (g := fun i j => V.int (i * j)) (Or.inr hc) rfl (iv_op (C := fun _ j => j ≠ 0) (g := fun i j => V.int (i.fmod j)) hm rfl (iv_int g3) (iv_con (i := m))) iv_con) (iv_op (C := CMul) (g := fun i j => V.int (i * j)) (Or.inl hd) rfl iv_con d0)) (iv_ltb d1 (iv_con (i := 0)))
    dsimp only [gName, tRet, List.set, tLst]
    have T := fun (ta tb : TE) (x y : Int) (ha : Iv ta σ2 H x) (hb : Iv tb σ2 H y) (K' : List V → Hp → Prop) (q : K' [.int x, .int y, .int 0] H) => (show tCons ta (tCons tb (tCons (tC (.int 0)) tNil)) σ2 H K' from ha _ (hb _ q))
    refine T _ _ _ _ B1 B2 _ ?_
    exact ⟨by show 3 ≤ sizeLine; rw [sizeLine_eq]; decide, fun p hp => hQ p _ _ 0 hp⟩
  refine iv_lt n0 ln ?_
  by_cases hlt : (n : Int) < ((ns.map V.int).length : Nat)
  · rw [if_pos (by simpa using hlt)]
    have hn : n < (ns.map V.int).length := by omega
    have hn' : n < ns.length := by simpa using hn
    have at1 : atI (ns.map V.int) (n : Int) = some (.int ns[n]) := by
      unfold atI
      rw [Evl.ixN_nat hn]
      simp [hn']
    have A : Iv (tOp (rIx K) (tVar 0) (tVar 1)) σ0 H ns[n] := fun Q q => ⟨.ref a, rfl, .int (n : Int), rfl, .inl ⟨a, _, n, .int ns[n], rfl, rfl, hS, at1, q⟩⟩
    exact A _ (fin _)
  · rw [if_neg (by simpa using hlt)]
    have A : Iv (tOp rAd (tOp rMu (tC (.int a1)) (tVar 1)) (tC (.int a2))) σ0 H (a1 * n + a2) := iv_op0 rfl (iv_op (Or.inl h1) rfl iv_con n0) iv_con
    exact A _ (fin _)
end Ev
end
end

/-! part EvAF -/
section
set_option Elab.async false
set_option linter.all false
set_option maxRecDepth 100000
set_option maxHeartbeats 4000000
/-! EvAF: classes of exceptions from what a head tells. -/
noncomputable section
namespace Ev
open PySem PySem.Spec PyProof.Rows L2

/-- the built-in classes that own ones stand over -/
structure EB where
  bm : List Value
  n : String
  nw : String
  ini : String
structure EBok (e : EB) : Prop where
  F : ExcBaseFacts e.n e.nw e.ini e.bm
  KF : PySem.W.KxsFacts e.n e.ini
  along : ∀ K, PySem.W.alongIn K "__init__" e.bm = some (some (.builtin e.ini))
  pass : ∀ self C, refuseLoop self "__setattr__" (.ref C :: e.bm) = pure ()
  obj : e.bm.contains (.type "object") = true
abbrev ebVal : EB := ⟨[.type "ValueError", .type "Exception", .type "BaseException", .type "object"], "ValueError", "ValueError.__new__", "ValueError.__init__"⟩
abbrev ebIdx : EB := ⟨[.type "IndexError", .type "LookupError", .type "Exception", .type "BaseException", .type "object"], "IndexError", "IndexError.__new__", "IndexError.__init__"⟩
abbrev ebOvf : EB := ⟨[.type "OverflowError", .type "ArithmeticError", .type "Exception", .type "BaseException", .type "object"], "OverflowError", "OverflowError.__new__", "OverflowError.__init__"⟩
abbrev ebAri : EB := ⟨[.type "ArithmeticError", .type "Exception", .type "BaseException", .type "object"], "ArithmeticError", "ArithmeticError.__new__", "ArithmeticError.__init__"⟩
theorem ebVal_ok : EBok ebVal := ⟨PySem.F.excBase_ValueError, PySem.W.kxs_ValueError, fun _ => by kernel_rfl, fun _ _ => by kernel_rfl, by decide +kernel⟩
theorem ebIdx_ok : EBok ebIdx := ⟨PySem.F.excBase_IndexError, PySem.W.kxs_IndexError, fun _ => by kernel_rfl, fun _ _ => by kernel_rfl, by decide +kernel⟩
theorem ebOvf_ok : EBok ebOvf := ⟨PySem.F.excBase_OverflowError, PySem.W.kxs_OverflowError, fun _ => by kernel_rfl, fun _ _ => by kernel_rfl, by decide +kernel⟩
theorem ebAri_ok : EBok ebAri := ⟨PySem.F.excBase_ArithmeticError, PySem.W.kxs_ArithmeticError, fun _ => by kernel_rfl, fun _ _ => by kernel_rfl, by decide +kernel⟩

abbrev ebTyp : EB := ⟨[.type "TypeError", .type "Exception", .type "BaseException", .type "object"], "TypeError", "TypeError.__new__", "TypeError.__init__"⟩
theorem ebTyp_ok : EBok ebTyp := ⟨PySem.F.excBase_TypeError, PySem.W.kxs_TypeError, fun _ => by kernel_rfl, fun _ _ => by kernel_rfl, by decide +kernel⟩
abbrev ebLok : EB := ⟨[.type "LookupError", .type "Exception", .type "BaseException", .type "object"], "LookupError", "LookupError.__new__", "LookupError.__init__"⟩
theorem ebLok_ok : EBok ebLok := ⟨PySem.F.excBase_LookupError, PySem.W.kxs_LookupError, fun _ => by kernel_rfl, fun _ _ => by kernel_rfl, by decide +kernel⟩
abbrev ebRun : EB := ⟨[.type "RuntimeError", .type "Exception", .type "BaseException", .type "object"], "RuntimeError", "RuntimeError.__new__", "RuntimeError.__init__"⟩
theorem ebRun_ok : EBok ebRun := ⟨PySem.F.excBase_RuntimeError, PySem.W.kxs_RuntimeError, fun _ => by kernel_rfl, fun _ _ => by kernel_rfl, by decide +kernel⟩
abbrev ebZer : EB := ⟨[.type "ZeroDivisionError", .type "ArithmeticError", .type "Exception", .type "BaseException", .type "object"], "ZeroDivisionError", "ZeroDivisionError.__new__", "ZeroDivisionError.__init__"⟩
theorem ebZer_ok : EBok ebZer := ⟨PySem.F.excBase_ZeroDivisionError, PySem.W.kxs_ZeroDivisionError, fun _ => by kernel_rfl, fun _ _ => by kernel_rfl, by decide +kernel⟩
abbrev ebExc : EB := ⟨[.type "Exception", .type "BaseException", .type "object"], "Exception", "Exception.__new__", "Exception.__init__"⟩
theorem ebExc_ok : EBok ebExc := ⟨PySem.F.excBase_Exception, PySem.W.kxs_Exception, fun _ => by kernel_rfl, fun _ _ => by kernel_rfl, by decide +kernel⟩
abbrev ebAss : EB := ⟨[.type "AssertionError", .type "Exception", .type "BaseException", .type "object"], "AssertionError", "AssertionError.__new__", "AssertionError.__init__"⟩
theorem ebAss_ok : EBok ebAss := ⟨PySem.F.excBase_AssertionError, PySem.W.kxs_AssertionError, fun _ => by kernel_rfl, fun _ _ => by kernel_rfl, by decide +kernel⟩

/-! ### plain ones -/
def plainB (K : PySem.W.Frag) (e : EB) (x : Str) : Bool := PySem.W.excIn K (He.ga K x) e.bm e.nw && PySem.W.keepIn K (.ref (He.ga K x)) && decide (PySem.W.subIn K (.ref (He.ga K x)) (.type "BaseException") = some true) && decide (PySem.W.typeIn K (.ref (He.ga K x)) = some (.type "type"))
theorem plainB_ok {B : Bs} {e : EB} {x : Str} (E : EBok e) (hm : B.mg x = some (.ref (He.ga B.K x))) (h : plainB B.K e x = true) (hd : strE x "__debug__" = false) : PlainC B x := by
  unfold plainB at h
  simp only [Bool.and_eq_true, decide_eq_true_eq] at h
  obtain ⟨⟨⟨h1, h2⟩, h3⟩, h4⟩ := h
  exact ⟨⟨_, e.bm, e.n, e.nw, e.ini, E.F, h1, hm, h2, h3, h4⟩, by rw [strE_eq] at hd; exact hd⟩

/-! ### ones with their own __init__ -/
theorem bind_plainX {fd : FuncData} {as : List Arg} {us : List Value} (e0 : fd.params = ⟨[], as, none, [], [], none, []⟩) (e1 : fd.defaults = .none) (h : us.length = as.length) (hn : (as.map (·.arg)).Nodup) : bindArgs fd ⟨us, []⟩ = pure ((as.map (·.arg)).zip us) := by
  have hl : us.length = (as.map (·.arg)).length := by rw [h, List.length_map]
  have l1 := lk_zip hn hl
  have l2 := fm_zip hn hl
  have e2 : seqItems? .none = pure none := rfl
  have l3 : ((as.map (·.arg)).take as.length).filter (fun n => (((as.map (·.arg)).zip us).lookup n).isNone) = [] := by
    rw [List.filter_eq_nil_iff]
    intro a ha
    rw [l1 a (List.mem_of_mem_take ha)]
    exact Bool.false_ne_true
  unfold bindArgs
  rw [e0, e1, e2]
  simp [l3, h]
  rw [List.filterMap_map] at l2
  exact congrArg pure l2
abbrev CW : Type := (Str × List Value × List Value × Addr × Str) × (List Str × List Value × Bool × Option Bool × Option Addr) × (Option Value × Option Value × Option Value × Option Value × Option Value) × String
/-- a class, as it stands -/
def clsW (K : PySem.W.Frag) (C : Addr) : Option CW := match K.lookup C with
  | some ⟨.type t, dd, .cls ⟨nm, bs, .ref C' :: bm, ns, q, true, sn, sub, ab, col, false⟩, ⟨sl⟩⟩ => (match sl with
    | [k0, k1, k2, k3, some (.builtin n), k5] => (match decide (t = "type") && Nat.beq C' C with
      | true => some ((nm, bs, bm, ns, q), (sn, sub, ab, col, dd), (k0, k1, k2, k3, k5), n)
      | false => none)
    | _ => none)
  | _ => none
theorem clsW_ok {K : PySem.W.Frag} {C : Addr} {nm q : Str} {bs bm sub : List Value} {N : Addr} {sn : List Str} {ab : Bool} {col : Option Bool} {dd : Option Addr} {k0 k1 k2 k3 k5 : Option Value} {n : String} (h : clsW K C = some ((nm, bs, bm, N, q), (sn, sub, ab, col, dd), (k0, k1, k2, k3, k5), n)) :
    K.lookup C = some (excClassObj nm q C N bs bm true sn sub ab col dd k0 k1 k2 k3 k5 n) := by
  unfold clsW at h
  split at h
  · rename_i t dd' nm' bs' C' bm' ns' q' sn' sub' ab' col' sl e
    split at h
    · rename_i k0' k1' k2' k3' n' k5'
      split at h
      · rename_i c
        simp only [Bool.and_eq_true, decide_eq_true_eq] at c
        obtain ⟨c1, c2⟩ := c
        have c2 := Nat.eq_of_beq_eq_true c2
        subst c1 c2
        cases h
        exact e
      · cases h
    · cases h
  · cases h
/-- an __init__, as it stands -/
structure IW where
  oc : Value
  od : Option Addr
  osl : Array (Option Value)
  qual : Str
  params : Arguments
  gv : Str
  sv : Str
  scope : Scope
  cc : Addr
  kV : Value
  doc : Value
  pm : Value
  an : Option Addr
  cda : Addr
  ct : Value
  p : Pos × Pos × Pos × Pos × Pos × Pos × Pos × Pos × Pos × Pos
def IW.fn (i : IW) (fld : Str) : FuncData := PySem.W.ksFn "__init__" i.qual i.params [.Expr (.Call (.Attribute (.Call (.Name "super" i.p.1) [] [] i.p.2.1) "__init__" i.p.2.2.1) [.Name i.gv i.p.2.2.2.1] [] i.p.2.2.2.2.1) i.p.2.2.2.2.2.1, .Assign [.Attribute (.Name i.sv i.p.2.2.2.2.2.2.1) fld i.p.2.2.2.2.2.2.2.1] (.Name i.gv i.p.2.2.2.2.2.2.2.2.1) i.p.2.2.2.2.2.2.2.2.2] i.scope .none i.kV i.doc i.pm i.an (.ref i.cda) i.ct i.cc
def iniW (K : PySem.W.Frag) (fld : Str) (f : Addr) : Option IW := match K.lookup f with
  | some ⟨oc, od, .func ⟨n1, qual, params, .stmts [.Expr (.Call (.Attribute (.Call (.Name s0 p0) [] [] p1) s1 p2) [.Name gv p3] [] p4) p5, .Assign [.Attribute (.Name sv p6) fl p7] (.Name gv2 p8) p9], scope, gl, [(cn, cc)], .none, kV, doc, pm, an, .ref cda, ct, bt⟩, osl⟩ =>
    (match strE n1 "__init__" && strE s0 "super" && strE s1 "__init__" && strE gv2 gv && strE fl fld && strE cn "__class__" && Nat.beq gl mainGlobals && Nat.beq bt builtinsNs with
    | true => some ⟨oc, od, osl, qual, params, gv, sv, scope, cc, kV, doc, pm, an, cda, ct, (p0, p1, p2, p3, p4, p5, p6, p7, p8, p9)⟩
    | false => none)
  | _ => none
theorem iniW_ok {K : PySem.W.Frag} {fld : Str} {f : Addr} {i : IW} (h : iniW K fld f = some i) : K.lookup f = some ⟨i.oc, i.od, .func (i.fn fld), i.osl⟩ := by
  unfold iniW at h
  split at h
  · rename_i e
    split at h
    · rename_i c
      simp only [Bool.and_eq_true] at c
      obtain ⟨⟨⟨⟨⟨⟨⟨c1, c2⟩, c3⟩, c4⟩, c5⟩, c6⟩, c7⟩, c8⟩ := c
      have c1 := strE_ok c1
      have c2 := strE_ok c2
      have c3 := strE_ok c3
      have c4 := strE_ok c4
      have c5 := strE_ok c5
      have c6 := strE_ok c6
      have c7 := Nat.eq_of_beq_eq_true c7
      have c8 := Nat.eq_of_beq_eq_true c8
      subst c1 c2 c3 c4 c5 c6 c7 c8
      cases h
      exact e
    · cases h
  · cases h
def cellW (K : PySem.W.Frag) (c : Addr) : Option Addr := match K.lookup c with
  | some ⟨_, _, .cell (some (.ref C)), _⟩ => some C
  | _ => none
theorem cellW_ok {K : PySem.W.Frag} {c C : Addr} (h : cellW K c = some C) : ∃ cl cld csl, K.lookup c = some ⟨cl, cld, .cell (some (.ref C)), csl⟩ := by
  unfold cellW at h
  split at h
  · rename_i e
    cases h
    exact ⟨_, _, _, e⟩
  · cases h
def fileW (K : PySem.W.Frag) (c : Addr) : Option Str := match K.lookup c with
  | some ⟨_, _, .fields vs, _⟩ => (match (vs[2]? : Option Value) with
    | some (.str f _) => some f
    | _ => none)
  | _ => none
theorem fileW_ok {K : PySem.W.Frag} {c : Addr} {f : Str} (h : fileW K c = some f) : ∃ ccl cdd ccs vs tf, K.lookup c = some ⟨ccl, cdd, .fields vs, ccs⟩ ∧ vs[2]? = some (.str f tf) := by
  unfold fileW at h
  split at h
  · rename_i e
    split at h
    · rename_i e2
      cases h
      exact ⟨_, _, _, _, _, e, e2⟩
    · cases h
  · cases h
def lkIs (o : Option NameKind) (k : NameKind) : Bool := decide (o = some k)
/-- the tail behind own classes -/
def dropR : List Value → List Value
  | .ref _ :: r => dropR r
  | l => l
theorem dropR_has (X : String) : ∀ l : List Value, l.contains (.type X) = (dropR l).contains (.type X)
  | [] => rfl
  | v :: r => by
    cases v with
    | ref a =>
      have e : (Value.type X == Value.ref a) = false := by simp
      rw [List.contains_cons, e, Bool.false_or, dropR_has X r]
      rfl
    | _ => rfl
theorem dropR_pass {self : Value} : ∀ (l : List Value) (C : Addr), refuseLoop self "__setattr__" (.ref C :: dropR l) = pure () → refuseLoop self "__setattr__" (.ref C :: l) = pure ()
  | [], C, h => h
  | v :: r, C, h => by
    cases v with
    | ref a =>
      have h2 : refuseLoop self "__setattr__" (.ref C :: dropR r) = pure () := h
      rw [refuseLoop_ref] at h2 ⊢
      exact dropR_pass r a (by rw [refuseLoop_ref]; exact h2)
    | _ => exact h
def keepB (K : PySem.W.Frag) (file : Str) (e : EB) (x fld : Str) : Bool :=
  let C := He.ga K x
  let f := He.ma K C "__init__"
  match clsW K C, iniW K fld f with
  | some ((_, _, bm, _, _), _, _, n), some i => decide (dropR bm = e.bm ∧ PySem.W.alongIn K "__init__" bm = some (some (.builtin e.ini))) && decide (n = e.nw) && PySem.W.keepIn K (.ref C) && He.eqO (PySem.W.findIn K (.ref C) "__setattr__") (some (some (.builtin "object.__setattr__"))) &&
      decide (PySem.W.subIn K (.ref C) (.type "BaseException") = some true) && decide (PySem.W.typeIn K (.ref C) = some (.type "type")) && He.eqO (PySem.W.findIn K (.ref C) "__init__") (some (some (.ref f))) && decide (PySem.W.typeIn K (.ref f) = some (.type "function")) &&
      PySem.W.codeIn K (.ref i.cda) i.qual && (match parN i.params with
        | some [a, b] => strE a i.sv && strE b i.gv && !strE a b
        | _ => false) && (match fileW K i.cda with
        | some fi => strE file fi
        | none => false) && (match cellW K i.cc with
        | some C' => Nat.beq C' C
        | none => false) && He.eqO (PySem.W.findIn K (.ref C) fld) (some none) && He.eqO (PySem.W.nsIn K cStatics "thirdparty.any") (some none) && decide (PySem.W.subIn K (.ref C) (.type e.n) = some true) && decide (PySem.W.mroIn K C (.ref C) = some true) &&
      decide (i.scope.kind = .function) && !i.scope.isCoroutine && !i.scope.isGenerator && lkIs (lkS i.scope.names "super") .globalImplicit && lkIs (lkS i.scope.names "__class__") .free && lkIs (lkS i.scope.names i.sv) .local && lkIs (lkS i.scope.names i.gv) .local &&
      (i.scope.names.all fun y => !kC (some y.2)) && !strE i.sv "__debug__" && !strE i.gv "__debug__" && (i.p.2.2.1.endLine == i.p.2.2.2.2.1.line)
  | _, _ => false
theorem lkIs_ok {l : List (Str × NameKind)} {x : Str} {k : NameKind} (h : lkIs (lkS l x) k = true) : l.lookup x = some k := by
  rw [← lkS_eq]
  exact of_decide_eq_true h
theorem strE_no {x y : Str} (h : (!strE x y) = true) : (x == y) = false := by
  rw [← strE_eq]
  exact not_t h
theorem keepB_ok {B : Bs} {e : EB} {x fld file : Str} (E : EBok e) (hm : B.mg x = some (.ref (He.ga B.K x))) (hs : B.mg ("super" : Str) = none) (hf : B.P.main.file = file) (ht : (B.P.main.scope.names.lookup ("super" : Str)).isSome = false) (hd : strE x "__debug__" = false) (h : keepB B.K file e x fld = true) : Nonempty (KeepC B x fld) := by
  unfold keepB at h
  dsimp only at h
  cases e1 : clsW B.K (He.ga B.K x) with
  | none => rw [e1] at h; exact ff h
  | some cw =>
  cases e2 : iniW B.K fld (He.ma B.K (He.ga B.K x) "__init__") with
  | none => rw [e1, e2] at h; exact ff h
  | some i =>
  · obtain ⟨⟨nm, bs, bm, N, q⟩, ⟨sn, sub, ab, col, dd⟩, ⟨k0, k1, k2, k3, k5⟩, n⟩ := cw
    rw [e1, e2] at h
    simp only [Bool.and_eq_true, decide_eq_true_eq] at h
    obtain ⟨⟨⟨⟨⟨⟨⟨⟨⟨⟨⟨⟨⟨⟨⟨⟨⟨⟨⟨⟨⟨⟨⟨⟨⟨⟨h1, h2⟩, h3⟩, h4⟩, h5⟩, h6⟩, h7⟩, h8⟩, h9⟩, h10⟩, h11⟩, h12⟩, h13⟩, h14⟩, h15⟩, h16⟩, h17⟩, h18⟩, h19⟩, h20⟩, h21⟩, h22⟩, h23⟩, h24⟩, h25⟩, h26⟩, h27⟩ := h
    have k := clsW_ok e1
    have hI := iniW_ok e2
    subst h2
    obtain ⟨h1, h1a⟩ := h1
    cases hp : parN i.params with
    | none => rw [hp] at h10; exact ff h10
    | some l =>
    rw [hp] at h10
    split at h10
    · rename_i a b eab
      cases eab
      simp only [Bool.and_eq_true] at h10
      obtain ⟨⟨ha, hb⟩, hab⟩ := h10
      have ha := strE_ok ha
      have hb := strE_ok hb
      obtain ⟨as, ep, el⟩ := parN_ok hp
      cases hfw : fileW B.K i.cda with
      | none => rw [hfw] at h11; exact ff h11
      | some fi =>
      rw [hfw] at h11
      have h11 : file = fi := strE_ok h11
      cases hcw : cellW B.K i.cc with
      | none => rw [hcw] at h12; exact ff h12
      | some C' =>
      rw [hcw] at h12
      have h12 : C' = He.ga B.K x := Nat.eq_of_beq_eq_true h12
      subst h12
      obtain ⟨ccl, cdd, ccs, vs, tf, c1, c2⟩ := fileW_ok hfw
      obtain ⟨cl, cld, csl, c3⟩ := cellW_ok hcw
      have nab : a ≠ b := fun z => by
        rw [z] at hab
        have := strE_no hab
        simp at this
      match as, el, ep with
      | [x1, x2], el, ep =>
        obtain ⟨z1, z2⟩ : a = x1.arg ∧ b = x2.arg := by
          have q : [a, b] = [x1.arg, x2.arg] := el
          injection q with q1 q2
          injection q2 with q2 q3
          exact ⟨q1, q2⟩
        refine ⟨{ C := He.ga B.K x, N := N, fI := He.ma B.K (He.ga B.K x) "__init__", cc := i.cc, cda := i.cda, nm := nm, q := q, qual := i.qual, sv := i.sv, gv := i.gv, bs := bs, bm := bm, bmB := e.bm, hT := fun X => by rw [← h1]; exact dropR_has X bm, sub := sub, sn := sn, ab := ab, col := col, dd := dd, an := i.an, od := i.od, cdd := cdd, cld := cld, k0 := k0, k1 := k1, k2 := k2, k3 := k3, k5 := k5, Bn := e.n, newId := e.nw, initId := e.ini, params := i.params, scope := i.scope, dV := .none, kV := i.kV, doc := i.doc, pm := i.pm, ct := i.ct, oc := i.oc, ccl := ccl, cl := cl, osl := i.osl, ccs := ccs, csl := csl, vs := vs, file := fi, tf := tf, p0 := i.p.1, p1 := i.p.2.1, p2 := i.p.2.2.1, p3 := i.p.2.2.2.1, p4 := i.p.2.2.2.2.1, p5 := i.p.2.2.2.2.2.1, p6 := i.p.2.2.2.2.2.2.1, p7 := i.p.2.2.2.2.2.2.2.1, p8 := i.p.2.2.2.2.2.2.2.2.1, p9 := i.p.2.2.2.2.2.2.2.2.2, ar := x1, F := E.F, KF := E.KF, hC := k, mg := hm, dbg := by rw [strE_eq] at hd; exact hd, kp := h3, sa := He.eqO_ok h4, exC := h5, tyC := h6, lk := hI, iC := He.eqO_ok h7, tI := h8, hcd := h9, bind := fun u v => ?_, head := by rw [ep]; rfl, arn := by rw [← z1, ha], code := c1, hvs := c2, hfile := ?_, cell := c3, hf := He.eqO_ok h13, op := He.eqO_ok h14, along := h1a, subB := h15, mroC := h16, mgs := hs, top := ht, pass := fun self => dropR_pass bm _ (by rw [h1]; exact E.pass self _), obj := by rw [dropR_has, h1]; exact E.obj, kind := h17, co := not_t h18, gen := not_t h19, nsu := lkIs_ok h20, ncl := lkIs_ok h21, nsv := lkIs_ok h22, ngv := lkIs_ok h23, nce := fun y hy z => ?_, sg := ?_, dsv := strE_no h25, dgv := strE_no h26, line := h27 }⟩
        · have q := bind_plainX (fd := i.fn fld) (as := [x1, x2]) (us := [u, v]) ep rfl rfl (by
            show [x1.arg, x2.arg].Nodup
            rw [← z1, ← z2]
            simpa using nab)
          have e3 : ([x1, x2].map (·.arg)).zip [u, v] = [(i.sv, u), (i.gv, v)] := by
            show [(x1.arg, u), (x2.arg, v)] = _
            rw [← z1, ← z2, ha, hb]
          rw [e3] at q
          exact q
        · rw [← h11, hf]
          simp
        · have q := List.all_eq_true.mp h24 y hy
          rw [z] at q
          exact ff q
        · have q := strE_no hab
          rw [ha, hb] at q
          exact q
      | [], el, _ => cases el
      | [_], el, _ => cases el
      | _ :: _ :: _ :: _, el, _ => cases el
    · exact ff h10
end Ev
end
end

/-! part EvAG -/
section
set_option Elab.async false
set_option linter.all false
set_option maxRecDepth 100000
set_option maxHeartbeats 4000000
/-! EvAG: the end of a law: the call from the caller, where no guard stands. -/
noncomputable section
namespace Ev
open PySem PySem.Spec PyProof.Rows L2

abbrev tabO : Obj := { cls := .none, data := .fields #[] }
abbrev lisO (vs : List Value) : Obj := { cls := .type "list", data := .seq vs.toArray }
/-- what a def does when the claim's caller calls it -/
def Goes (P : Program) (w : World) (K : PySem.W.Frag) (mg : Str → Option Value) (base : Heap) (f : Addr) (sp : Sp) : Prop := ∀ (s : Shared) (H : Hp) (us : List Value) (vs : List V) (Q : VK) (E : XK), Env0 P w K mg base callerA [] s H → Vals vs us → sp vs H Q E →
  codeAny (model P w) callerA (.call (.ref f) ⟨us, []⟩) (CR (L2.CX P w) [] P w H s Q E) s
/-- the start: the tables, the script where K does not hold it -/
def H0 (K : PySem.W.Frag) (a : Addr) (tb : List Addr) (o : Obj) (xs : List V) : Hp := fun b => if b ∈ tb then some (.tbl #[]) else if b = a ∧ K.lookup a = none then some (.frz o (.lst xs)) else none
section
variable {K : PySem.W.Frag} {a b : Addr} {tb : List Addr} {o : Obj} {xs : List V}
theorem H0_tab (h : b ∈ tb) : H0 K a tb o xs b = some (.tbl #[]) := if_pos h
theorem H0_not (h : b ∉ tb) (n : ¬ (b = a ∧ K.lookup a = none)) : H0 K a tb o xs b = none := by
  unfold H0
  rw [if_neg h, if_neg n]
theorem H0_scr (h : a ∉ tb) (n : K.lookup a = none) : H0 K a tb o xs a = some (.frz o (.lst xs)) := by
  unfold H0
  rw [if_neg h, if_pos ⟨rfl, n⟩]
theorem H0_cases (b : Addr) : (b ∈ tb ∧ H0 K a tb o xs b = some (.tbl #[])) ∨ (b = a ∧ b ∉ tb ∧ K.lookup a = none ∧ H0 K a tb o xs b = some (.frz o (.lst xs))) ∨ (b ∉ tb ∧ H0 K a tb o xs b = none) := by
  by_cases h : b ∈ tb
  · exact .inl ⟨h, H0_tab h⟩
  · by_cases n : b = a ∧ K.lookup a = none
    · obtain ⟨rfl, n⟩ := n
      exact .inr (.inl ⟨rfl, h, n, H0_scr h n⟩)
    · exact .inr (.inr ⟨h, H0_not h n⟩)
end
theorem law_endG {P : Program} {w : World} {K : PySem.W.Frag} {mg mb : Str → Option Value} {fa a : Addr} {cs : List (Addr × Addr)} {s : Shared} {vs : List Value} {ns : List Int}
    (KX : K.In s.heap) (hns : s.heap.Ns mainGlobals mg) (hb : s.heap.Ns builtinsNs mb) (hbb : ∀ x : Str, x ≠ "__name__" → mb x = bootBuiltins x) (hlim : s.heap.NoLimit) (hg : s.gens = #[])
    (hT : ∀ p ∈ cs, s.heap.get? p.2 = some tabO) (nT : ∀ p ∈ cs, K.lookup p.2 = none) (C : ∀ p ∈ cs, PySem.W.CodeHd s.heap p.1 p.2)
    (hbm : ∃ (bm : Addr) (ob : Obj), mg "__builtins__" = some (.ref bm) ∧ bm ≠ builtinsNs ∧ s.heap.get? bm = some ob ∧ ob.cls = .type "module" ∧ ob.dict = some builtinsNs ∧ ob.data = .plain)
    (ha : s.heap.get? a = some (lisO vs)) (hi : IntsAre vs ns) (hl : ns.length ≤ sizeLine)
    (F : ∀ base : Heap, K.In base → base.Ns mainGlobals mg → (∀ p ∈ cs, LamX.TabB base mg p.1 p.2) → ∃ sp, Goes P w K mg base fa sp ∧ ∀ H : Hp, (∀ p ∈ cs, H p.2 = some (.tbl #[])) → SqL K H a (ns.map V.int) → sp [.ref a] H (fun v _ => v = .bl true) fun _ _ _ => False) :
    codeAny (model P w) callerA (.call (.ref fa) ⟨[.ref a], []⟩) (fun r s' => r = .ok (.ret (.bool true)) ∧ OldK s.heap s'.heap ∧ s'.os = s.os ∧ AllBare s'.gens) s := by
  have rv := vals_ints hi
  have lv := hi.length
  have tbO : ∀ b ∈ cs.map (·.2), s.heap.get? b = some tabO := fun b hm => by
    obtain ⟨p, hp, rfl⟩ := List.mem_map.mp hm
    exact hT p hp
  have inT : ∀ {p}, p ∈ cs → p.2 ∈ cs.map (·.2) := fun hp => List.mem_map_of_mem hp
  have notT : ∀ {b : Addr} {o : Obj}, s.heap.get? b = some o → o.data ≠ .fields #[] → b ∉ cs.map (·.2) := fun {b o} e d hm => by
    rw [tbO b hm] at e
    cases e
    exact d rfl
  have aT : a ∉ cs.map (·.2) := notT ha (fun z => by cases z)
  generalize hH : H0 K a (cs.map (·.2)) (lisO vs) (ns.map V.int) = H
  have cas := fun b => H0_cases (K := K) (a := a) (tb := cs.map (·.2)) (o := lisO vs) (xs := ns.map V.int) b
  rw [hH] at cas
  -- an object that is neither a list nor an empty table is not followed
  have off : ∀ {b : Addr} {o : Obj}, s.heap.get? b = some o → (∀ l n, o.data ≠ .seq l n) → o.data ≠ .fields #[] → (hidT s.heap H).get? b = some o := fun {b o} e d1 d2 => by
    refine hidT_get e ?_
    rcases cas b with ⟨h, _⟩ | ⟨rfl, _⟩ | ⟨_, h⟩
    · exact absurd h (notT e d2)
    · rw [ha] at e
      cases e
      exact absurd rfl (d1 _ _)
    · exact h
  have nsO : ∀ {b : Addr} {m : Str → Option Value}, s.heap.Ns b m → (hidT s.heap H).Ns b m := fun {b m} ⟨o, es, ep, e, d, r⟩ => ⟨o, es, ep, off e (fun l n z => by rw [d] at z; cases z) (fun z => by rw [d] at z; cases z), d, r⟩
  have kIn : K.In (hidT s.heap H) := fun b o e => by
    refine hidT_get (KX b o e) ?_
    rcases cas b with ⟨h, _⟩ | ⟨rfl, _, h, _⟩ | ⟨_, h⟩
    · obtain ⟨p, hp, rfl⟩ := List.mem_map.mp h
      rw [nT p hp] at e
      cases e
    · rw [h] at e
      cases e
    · exact h
  have hok : HOk P w H s.heap := fun b u e => by
    rcases cas b with ⟨h, q⟩ | ⟨rfl, _, _, q⟩ | ⟨_, q⟩
    · rw [q] at e
      cases e
      exact tbO b h
    · rw [q] at e
      cases e
      exact ⟨ha, by rw [List.length_map]; exact hl, vs, _, rv, ha⟩
    · rw [q] at e
      cases e
  have tab : ∀ p ∈ cs, LamX.TabB (hidT s.heap H) mg p.1 p.2 := fun p hp => by
    refine ⟨?_, ?_, fun z => ?_⟩
    · obtain ⟨o, us, file, tf, flags, tg, inF, text, tt, e1, r1, r2, r3, r4⟩ := C p hp
      exact ⟨o, us, file, tf, flags, tg, inF, text, tt, off e1 (fun l n z => by rw [r2] at z; cases z) (fun z => by
        rw [r2] at z
        cases z
        simp at r3), r1, r2, r3, r4⟩
    · obtain ⟨bm, ob, b1, b2, b3, b4, b5, b6⟩ := hbm
      refine ⟨bm, ob, b1, b2, fun q => ?_, fun q => ?_, off b3 (fun l n z => by rw [b6] at z; cases z) (fun z => by rw [b6] at z; cases z), b4, b5, b6⟩
      · obtain ⟨o, es, ep, e, d, _⟩ := hns
        rw [q, e] at b3
        cases b3
        rw [d] at b6
        cases b6
      · rw [q, hT p hp] at b3
        cases b3
        cases b6
    · obtain ⟨o, es, ep, e, d, _⟩ := hns
      rw [z, hT p hp] at e
      cases e
      cases d
  have sq : SqL K H a (ns.map V.int) := by
    cases q : K.lookup a with
    | none => exact .inl (.inr ⟨lisO vs, by rw [← hH]; exact H0_scr aT q⟩)
    | some o =>
      have e := KX a o q
      rw [ha] at e
      cases e
      exact .inr ⟨_, vs.toArray, _, q, rfl, rfl, rfl, by rw [List.size_toArray, lv]; exact hl, by simpa using rv⟩
  have nsg := nsO hns
  have md : L2.Mod K mg (hidT s.heap H) := ⟨kIn, nsg, ⟨mb, nsO hb, hbb⟩, by
    obtain ⟨mc, h1, h2⟩ := hlim
    exact ⟨mc, nsO h1, h2⟩⟩
  have tH : ∀ p ∈ cs, H p.2 = some (.tbl #[]) := fun p hp => by
    rw [← hH]
    exact H0_tab (inT hp)
  have e0 : Env0 P w K mg (hidT s.heap H) callerA [] s H := ⟨rfl, md, fun _ _ e => of_hidT e, Nat.le_of_eq (hidT_size _ _), trivial, fun b z => (by cases z), hok, .of_eq hg⟩
  obtain ⟨sp, G, hsp⟩ := F _ kIn nsg tab
  refine codeAny_mono (G s H _ [.ref a] _ _ e0 (.cons rfl .nil) (hsp H tH sq)) fun r s' h => ?_
  rcases r with e | (_ | _ | _ | u)
  · obtain ⟨_, _, _, _, _, _, _, _, _, _, _, _, z⟩ := h
    exact z.elim
  · exact h.elim
  · exact h.elim
  · exact h.elim
  · obtain ⟨v, H', os, bare, un, hok', r', q⟩ := h
    have q : v = .bl true := q
    subst q
    have r' : u = .bool true := r'
    subst r'
    have stay : ∀ b o, b ∉ cs.map (·.2) → s.heap.get? b = some o → s'.heap.get? b = some o := fun b o nb e => by
      rcases cas b with ⟨h, _⟩ | ⟨rfl, _, _, q⟩ | ⟨_, q⟩
      · exact absurd h nb
      · rw [ha] at e
        cases e
        exact (hok' b _ (un.frzs b _ _ q)).1
      · exact un.keep b o e q (by intro z; cases z) (by simp)
    have grow : ∀ p ∈ cs, ∃ more : Array Value, s'.heap.get? p.2 = some { cls := .none, data := .fields more } := fun p hp => by
      obtain ⟨more, z⟩ := un.tbls p.2 #[] (tH p hp)
      exact ⟨_, hok' p.2 _ z⟩
    refine ⟨rfl, ⟨fun b o e => ?_, fun b o e => ?_⟩, os, bare⟩
    · by_cases hm : b ∈ cs.map (·.2)
      · obtain ⟨p, hp, rfl⟩ := List.mem_map.mp hm
        obtain ⟨more, z⟩ := grow p hp
        rw [hT p hp] at e
        cases e
        exact .inr (.inl ⟨((C p hp).tab (hT p hp)).isCodeTable, rfl, #[], more, rfl, by rw [Array.empty_append]; exact z⟩)
      · exact .inl (stay b o hm e)
    · by_cases hm : b ∈ cs.map (·.2)
      · obtain ⟨p, hp, rfl⟩ := List.mem_map.mp hm
        obtain ⟨more, z⟩ := grow p hp
        exact ⟨_, z⟩
      · exact ⟨o, stay b o hm e⟩
/-- the law's end: K, the tables, the promise over every base -/
theorem walk_G {l : PySem.W.OpenLaw} {n : Nat} {q : Program} {loose : List Str} {XP : (Str → Option Value) → Heap → Prop} {YP : World → Heap → Prop} {d : DefRec} (hn : l.most = some n) (hn2 : n ≤ sizeLine) (hdf : d.params.defaults = [])
    (F : ∀ (w : World) (mg : Str → Option Value) (fa : Addr) (h : Heap), YP w h → h.Ns mainGlobals mg → mg d.name = some (.ref fa) → ∃ (K : PySem.W.Frag) (cs : List (Addr × Addr)), K.In h ∧ (∀ p ∈ cs, h.get? p.2 = some tabO) ∧ (∀ p ∈ cs, K.lookup p.2 = none) ∧ (∀ p ∈ cs, PySem.W.CodeHd h p.1 p.2) ∧
      ∀ base : Heap, K.In base → base.Ns mainGlobals mg → (∀ p ∈ cs, LamX.TabB base mg p.1 p.2) → ∃ sp, Goes l.prog w K mg base fa sp ∧ ∀ (H : Hp) (a : Addr) (ns : List Int), ns.length ≤ n → (∀ z ∈ ns, Builtin.Int.intBits z ≤ 1048576) → (∀ p ∈ cs, H p.2 = some (.tbl #[])) → SqL K H a (ns.map V.int) → sp [.ref a] H (fun v _ => v = .bl true) fun _ _ _ => False) :
    PySem.W.WalkO q loose XP YP l.row.toRowW d [] (fun f vs => PySem.call f vs) := by
  refine Att.attach_callB hn hdf fun w s₀ s₁ mg mb fa o pm cd doc a vs ns G Y ho hd hcd hmg hobj hints hlen hbits hg => ?_
  obtain ⟨K, cs, KX, h1, h2, h3, h4⟩ := F w mg fa _ Y G.T.g hmg
  refine law_endG KX G.T.g G.T.b G.T.builtins G.T.nolimit hg h1 h2 h3 G.T.bmain hobj hints (Nat.le_trans hlen hn2) fun base b1 b2 b3 => ?_
  obtain ⟨sp, g, hs⟩ := h4 base b1 b2 b3
  exact ⟨sp, g, fun H c1 c2 => hs H a ns hlen hbits c1 c2⟩
end Ev
end
end

/-! part EvAH -/
section
set_option Elab.async false
set_option linter.all false
set_option maxRecDepth 100000
set_option maxHeartbeats 4000000
/-! EvAH: what a law's head tells. -/
noncomputable section
namespace Ev
open PySem PySem.Spec PyProof.Rows L2

/-- a law: its top, its defs (name, place), those with lambdas, its classes of errors with their fields, constants, built-ins, letters, what more is asked of the heap -/
structure Lw where
  top : Nat → Stmt
  dl : List (Str × Nat)
  tf : List Str
  cl : List Str
  fl : List Str
  gt : List (Str × D)
  bl : List Str
  kl : List (List D)
  el : List (Nat × Bool)
  file : Str
  kt : List (Str × List (Str × Int)) := []
  /-- no handlers: classes may lie under one another -/
  nx : Bool := false
  /-- the modules' own dict is looked at -/
  sys : Bool := false
  /-- classes asked of in isinstance: which of cl lie under them -/
  ix : List (Str × List Bool) := []
  /-- letters that are numbers below a bound -/
  ki : List Nat := []
/-! ### the classes of errors -/
def ebN (n : Nat) : EB := match n with
  | 0 => ebVal
  | 1 => ebIdx
  | 2 => ebOvf
  | 3 => ebAri
  | 4 => ebTyp
  | 5 => ebLok
  | 6 => ebRun
  | 7 => ebZer
  | 8 => ebExc
  | _ => ebAss
theorem ebN_ok (n : Nat) : EBok (ebN n) := by
  unfold ebN
  split <;> first | exact ebVal_ok | exact ebIdx_ok | exact ebOvf_ok | exact ebAri_ok | exact ebTyp_ok | exact ebLok_ok | exact ebRun_ok | exact ebZer_ok | exact ebExc_ok | exact ebAss_ok
def xfsB (K : PySem.W.Frag) (x f : Str) : Bool := xfB K (He.ga K x) && He.eqO (PySem.W.findIn K (.ref (He.ga K x)) f) (some none)
def exOne (K : PySem.W.Frag) (file x f : Str) (e : Nat × Bool) : Bool := match e.2 with
  | true => keepB K file (ebN e.1) x f && xfsB K x f
  | false => plainB K (ebN e.1) x
def exmB (K : PySem.W.Frag) (cl : List Str) : Bool := (List.range cl.length).all fun i => (List.range cl.length).all fun j => decide (PySem.W.exmOne K (.ref (He.ga K (cl.getD i ""))) (.ref (He.ga K (cl.getD j ""))) = some (Nat.beq i j))
def Lw.ex (L : Lw) (K : PySem.W.Frag) : Bool := ((List.range L.cl.length).all fun i => exOne K L.file (L.cl.getD i "") (L.fl.getD i "") (L.el.getD i (0, false))) && (L.nx || exmB K L.cl)
/-! ### what is looked at -/
def refsY (o : Obj) : List Addr := match o.data with
  | .dict es _ => es.toList.flatMap fun e => He.refV e.val
  | .func fd => He.refV fd.code ++ (He.refV fd.defaults ++ fd.closure.map (·.2))
  | .cls cd => cd.ns :: cd.mro.flatMap He.refV
  | .seq its _ => its.toList.flatMap He.refV
  | _ => []
def stepY (g : Addr → Option Obj) (as : List Addr) : List Addr := as.flatMap fun a => match g a with
  | some o => refsY o
  | none => []
def namesY (g : Addr → Option Obj) (xs : List Str) : List Addr := xs.filterMap fun x => match PySem.W.nsIn (He.frG g [mainGlobals]) mainGlobals x with
  | some (some (.ref a)) => some a
  | _ => none
def asY (g : Addr → Option Obj) (fs cs : List Str) : List Addr :=
  let f1 := namesY g fs
  let c1 := namesY g cs
  let c2 := stepY g c1
  let c3 := stepY g c2
  let c4 := stepY g c3
  mainGlobals :: cStatics :: (f1 ++ (stepY g f1 ++ (c1 ++ (c2 ++ (c3 ++ (c4 ++ stepY g c4))))))
def Lw.KG (L : Lw) (g : Addr → Option Obj) : PySem.W.Frag := He.frT g (Bool.rec (motive := fun _ => List Addr → List Addr) (fun l => l) (fun l => sysModules :: l) L.sys <| asY g (L.dl.map (·.1)) (L.cl ++ (L.gt.map (·.1) ++ L.kt.map (·.1))))
def Lw.mkD (L : Lw) (p : Str × Nat) : He.DefD := ⟨(p.1, none), p.1, p.1, defArgs (L.top p.2), defBody (L.top p.2), defScope (L.top p.2), [], []⟩
def Lw.fn (L : Lw) : List He.DefD := L.dl.map L.mkD
mutual
/-- a constant of the top -/
def conV (K : PySem.W.Frag) : D → Value → Bool
  | .non, .none => true
  | .bl a, .bool b => isBL (.bl a) b
  | .int i, .int j _ => iEq i j
  | .str x, .str y _ => strE x y
  | .tup l, .ref a => (match K.lookup a with
    | some ⟨.type c, _, .seq ⟨its⟩ _, _⟩ => decide (c = "tuple") && Nat.ble its.length sizeLine && conVs K l its
    | _ => false)
  | _, _ => false
def conVs (K : PySem.W.Frag) : List D → List Value → Bool
  | [], [] => true
  | d :: l, u :: r => conV K d u && conVs K l r
  | _, _ => false
end
mutual
theorem conV_ok {B : Bs} : ∀ {d : D} {u : Value}, conV B.K d u = true → ∃ v, RelV v u ∧ ∀ m s H, RDw B m s H d v
  | .non, .none, _ => ⟨.non, rfl, fun _ _ _ => rfl⟩
  | .bl a, .bool b, h => by
    have e := isBL_ok (show isBL (.bl a) b = true from h)
    cases e
    exact ⟨.bl a, rfl, fun _ _ _ => rfl⟩
  | .int i, .int j t, h => by
    have h' : iEq i j = true := h
    rw [iEq_eq, decide_eq_true_eq] at h'
    subst h'
    exact ⟨.int i, ⟨t, rfl⟩, fun _ _ _ => rfl⟩
  | .str x, .str y t, h => by
    have e := strE_ok (show strE x y = true from h)
    subst e
    exact ⟨.str x, ⟨t, rfl⟩, fun _ _ _ => rfl⟩
  | .tup l, .ref a, h => by
    have h' : (match B.K.lookup a with
      | some ⟨.type c, _, .seq ⟨its⟩ _, _⟩ => decide (c = "tuple") && Nat.ble its.length sizeLine && conVs B.K l its
      | _ => false) = true := h
    split at h'
    · rename_i c od its n sl e
      simp only [Bool.and_eq_true, decide_eq_true_eq] at h'
      obtain ⟨⟨h1, h2⟩, h3⟩ := h'
      subst h1
      obtain ⟨xs, r, q⟩ := conVs_ok h3
      exact ⟨.ref a, rfl, fun m s H => ⟨a, xs, rfl, .inr ⟨_, ⟨its⟩, n, e, rfl, rfl, by simpa using Nat.le_of_ble_eq_true h2, r⟩, q m s H⟩⟩
    · exact ff h'
theorem conVs_ok {B : Bs} : ∀ {d : List D} {u : List Value}, conVs B.K d u = true → ∃ xs, Vals xs u ∧ ∀ m s H, RDws B m s H d xs
  | [], [], _ => ⟨[], .nil, fun _ _ _ => rfl⟩
  | d :: l, u :: r, h => by
    obtain ⟨h1, h2⟩ := a2 (show (conV B.K d u && conVs B.K l r) = true from h)
    obtain ⟨v, r1, q1⟩ := conV_ok h1
    obtain ⟨xs, r2, q2⟩ := conVs_ok h2
    exact ⟨v :: xs, .cons r1 r2, fun m s H => ⟨v, xs, rfl, q1 m s H, q2 m s H⟩⟩
end
def conB (K : PySem.W.Frag) (x : Str) (d : D) : Bool := match PySem.W.nsIn K mainGlobals x with
  | some (some u) => conV K d u
  | _ => false
def kdtB (K : PySem.W.Frag) (x : Str) (l : List (Str × Int)) : Bool := He.eqO (PySem.W.nsIn K mainGlobals x) (some (some (.ref (He.ga K x)))) && l.all fun q => match PySem.W.nsIn K (He.ga K x) q.1 with
  | some (some u) => He.relB (.int q.2) u
  | _ => false
def Lw.ts (L : Lw) : List He.Tab := L.kt.map fun p => ((fun K => He.ga K p.1), p.2.map (·.1))
def Lw.fa (L : Lw) : List He.Fa := L.dl.map (fun p => .glo p.1) ++ (L.cl.map .glo ++ L.bl.map .free)
def Lw.tD (L : Lw) : List He.Defn := L.tf.map fun x => (x, none)
def nodA : List Addr → Bool
  | [] => true
  | a :: r => !(r.any (Nat.beq a)) && nodA r
/-- a class in isinstance -/
def ixV (K : PySem.W.Frag) (cl : List Str) (y : Str) : Value := match cl.any fun x => strE x y with
  | true => .ref (He.ga K y)
  | false => .type y.toString
def ixOne (K : PySem.W.Frag) (cl bl : List Str) (p : Str × List Bool) : Bool := (match cl.any fun x => strE x p.1 with
  | true => true
  | false => (bl.any fun x => strE x p.1) && (match bootBuiltins p.1 with
    | some (.type t) => decide (t = p.1.toString)
    | _ => false)) && !strE p.1 "__debug__" && !strE p.1 "__name__" && (List.range p.2.length).all fun i => isxB K (He.ga K (cl.getD i "")) && decide (PySem.W.kitOne K (.ref (He.ga K (cl.getD i ""))) (ixV K cl p.1) = p.2[i]?)
def Lw.ixB (L : Lw) (K : PySem.W.Frag) : Bool := (!L.sys || (K.lookup sysModules).isSome) && (L.ix.all fun p => Nat.ble p.2.length L.cl.length && ixOne K L.cl L.bl p)
def Lw.exD (L : Lw) (K : PySem.W.Frag) : Bool := L.ixB K && L.ex K && (L.gt.all fun p => conB K p.1 p.2) && (L.kt.all fun p => kdtB K p.1 p.2) && nodA (L.tD.map fun p => (He.cT K p).2)
def Lw.obs (L : Lw) (g : Addr → Option Obj) : He.AlX := (He.obsT L.fa L.fn L.ts (L.KG g), L.exD (L.KG g) && He.tabsB g L.tD (L.KG g))
theorem Lw.says_of (L : Lw) {w : World} {h : Heap} (e : L.obs h.get? = He.valX L.fn L.ts w) : He.SaysX L.fa L.fn L.ts L.tD L.exD w h (L.KG h.get?) := by
  have e1 : He.obsT L.fa L.fn L.ts (L.KG h.get?) = He.valT L.fn L.ts w := congrArg (fun z : He.AlX => z.1) e
  have e2 : (L.exD (L.KG h.get?) && He.tabsB h.get? L.tD (L.KG h.get?)) = true := congrArg (fun z : He.AlX => z.2) e
  obtain ⟨h1, h2⟩ := a2 e2
  have key : ∀ p ∈ L.tD, PySem.W.codeHdIn (L.KG h.get?) (He.cT (L.KG h.get?) p).1 (He.cT (L.KG h.get?) p).2 = true ∧ ∃ o, h.get? (He.cT (L.KG h.get?) p).2 = some o ∧ He.emptyTab o = true := fun p hp => by
    obtain ⟨h3, h4⟩ := a2 (List.all_eq_true.mp h2 p hp)
    refine ⟨h3, ?_⟩
    split at h4
    · rename_i o q
      exact ⟨o, q, h4⟩
    · exact ff h4
  refine ⟨e1, h1, fun p hp => (key p hp).1, fun p hp => ?_, fun p hp => ?_⟩
  · obtain ⟨_, o, q, z⟩ := key p hp
    exact He.frT_none q z
  · obtain ⟨_, o, q, z⟩ := key p hp
    rw [q, He.emptyTab_eq z]
def Lw.hook (L : Lw) : PySem.W.Hook where
  α := He.AlX
  obs := fun s => L.obs s.heap.get?
  val := fun w => He.valX L.fn L.ts w
  says := fun w h => ∃ K : PySem.W.Frag, K.In h ∧ He.SaysX L.fa L.fn L.ts L.tD L.exD w h K
  of := fun _ _ e => ⟨_, He.frT_in, L.says_of e⟩
  keeps := fun _ _ _ ⟨K, hK, c⟩ k => ⟨K, PySem.W.Frag.In.keeps hK k, ⟨c.t, c.more, c.hd, c.out, fun p hp => k _ _ (c.empty p hp)⟩⟩
def Lw.ob (L : Lw) (s : PySem.W.SharedT) : He.AlX := L.obs (HandSHeadRun.getT s)
theorem Lw.ob_eq (L : Lw) (s : PySem.W.SharedT) : L.ob s = L.hook.obs s.abs := by
  have e : HandSHeadRun.getT s = s.abs.heap.get? := funext (HandSHeadRun.getT_eq s)
  unfold Lw.ob
  rw [e]
  rfl
/-! ### the letters -/
def isEmD : D → Bool
  | .fd [] [] => true
  | _ => false
theorem isEmD_ok {d : D} (h : isEmD d = true) : d = .fd [] [] := by
  unfold isEmD at h
  split at h
  · rfl
  · exact ff h
def kdB (d : D) : Bool := match toPy d with
  | some p => PyData.strOk p.shown && p.showable && Nat.ble p.shown.length 1000000 && Nat.ble p.depth 60 && (match d with
    | .int n => Nat.blt n.natAbs.log2 1920
    | _ => true) && (!p.hasDict || isEmD d)
  | none => false
theorem kdB_ok {d : D} (h : kdB d = true) : (∃ p, toPy d = some p) ∧ ∀ p, toPy d = some p → PyData.strOk p.shown = true ∧ p.showable = true ∧ p.shown.length ≤ 1000000 ∧ p.depth ≤ 60 ∧ (∀ n, d = .int n → n.natAbs.log2 < 1920) ∧ (p.hasDict = true → d = .fd [] []) := by
  unfold kdB at h
  cases e : toPy d with
  | none => rw [e] at h; exact ff h
  | some p =>
    rw [e] at h
    simp only [Bool.and_eq_true] at h
    obtain ⟨⟨⟨⟨⟨h1, h2⟩, h3⟩, h4⟩, h5⟩, h6⟩ := h
    refine ⟨⟨p, rfl⟩, fun p' e' => ?_⟩
    cases e'
    refine ⟨h1, h2, Nat.le_of_ble_eq_true h3, Nat.le_of_ble_eq_true h4, fun n z => ?_, fun z => ?_⟩
    · subst z
      rw [← Nat.blt_eq]
      exact h5
    · rw [z] at h6
      exact isEmD_ok h6
/-- long tuples: item by item -/
def kd1 (d : D) : Bool := match toPy d with
  | some p => PyData.strOk p.shown && p.showable && Nat.ble p.shown.length 1000 && Nat.ble p.depth 59 && !p.hasDict
  | none => false
def kdT (d : D) : Bool := match d with
  | .tup l => l.all kd1 && Nat.ble l.length 200 && Nat.ble 9 l.length
  | _ => false
def kdC (d : D) : Bool := kdT d || kdB d
theorem join_ok : ∀ ts : List Str, (∀ t ∈ ts, PyData.strOk t = true ∧ t.length ≤ 1000) → PyData.strOk (Str.join ", " ts) = true ∧ (Str.join ", " ts).length ≤ 1002 * ts.length
  | [], _ => ⟨by decide +kernel, by decide +kernel⟩
  | [t], h => ⟨(h t (by simp)).1, by have := (h t (by simp)).2; show t.length ≤ _; simp only [List.length_singleton]; omega⟩
  | t :: u :: r, h => by
    obtain ⟨h1, h2⟩ := h t (by simp)
    obtain ⟨h3, h4⟩ := join_ok (u :: r) fun x hx => h x (List.mem_cons_of_mem _ hx)
    have e : Str.join ", " (t :: u :: r) = t ++ ", " ++ Str.join ", " (u :: r) := rfl
    rw [e]
    refine ⟨strOk_app (strOk_app h1 (by decide +kernel)) h3, ?_⟩
    rw [strLen_append, strLen_append]
    have e2 : ((", " : String) : Str).length = 2 := rfl
    rw [e2]
    simp only [List.length_cons] at h4 ⊢
    omega
theorem kd1s_ok : ∀ (l : List D), l.all kd1 = true → ∃ ps, toPys l = some ps ∧ (∀ t ∈ PyData.shownAll ps, PyData.strOk t = true ∧ t.length ≤ 1000) ∧ PyData.showableAll ps = true ∧ PyData.depthAll ps ≤ 59 ∧ PyData.hasDictAll ps = false ∧ ps.length = l.length
  | [], _ => ⟨[], rfl, fun t ht => by simp [PyData.shownAll] at ht, by simp only [PyData.showableAll], by simp only [PyData.depthAll]; omega, by simp only [PyData.hasDictAll], rfl⟩
  | d :: l, h => by
    rw [List.all_cons, Bool.and_eq_true] at h
    obtain ⟨ps, e, h1, h2, h3, h4, h5⟩ := kd1s_ok l h.2
    have hd := h.1
    unfold kd1 at hd
    cases q : toPy d with
    | none => rw [q] at hd; exact ff hd
    | some p =>
      rw [q] at hd
      simp only [Bool.and_eq_true] at hd
      obtain ⟨⟨⟨⟨g1, g2⟩, g3⟩, g4⟩, g5⟩ := hd
      have g3 := Nat.le_of_ble_eq_true g3
      have g4 := Nat.le_of_ble_eq_true g4
      refine ⟨p :: ps, by simp only [toPys, q, e], fun t ht => ?_, ?_, ?_, ?_, by simp only [List.length_cons, h5]⟩
      · simp only [PyData.shownAll] at ht
        rcases List.mem_cons.mp ht with z | z
        · rw [z]; exact ⟨g1, g3⟩
        · exact h1 t z
      · simp only [PyData.showableAll, g2, h2, Bool.and_self]
      · simp only [PyData.depthAll]
        omega
      · simp only [PyData.hasDictAll, h4, Bool.or_false]
        exact not_t g5
theorem kdC_ok {d : D} (h : kdC d = true) : (∃ p, toPy d = some p) ∧ ∀ p, toPy d = some p → PyData.strOk p.shown = true ∧ p.showable = true ∧ p.shown.length ≤ 1000000 ∧ p.depth ≤ 60 ∧ (∀ n, d = .int n → n.natAbs.log2 < 1920) ∧ (p.hasDict = true → d = .fd [] []) := by
  unfold kdC at h
  rw [Bool.or_eq_true] at h
  rcases h with h | h
  · cases d <;> first | exact ff h | skip
    rename_i l
    have h' : (l.all kd1 && Nat.ble l.length 200 && Nat.ble 9 l.length) = true := h
    simp only [Bool.and_eq_true] at h'
    obtain ⟨⟨h1, h2⟩, _⟩ := h'
    have h2 := Nat.le_of_ble_eq_true h2
    obtain ⟨ps, e, k1, k2, k3, k4, k5⟩ := kd1s_ok l h1
    have et : toPy (.tup l) = some (.tuple ps) := by simp only [toPy, e, Option.map_some]
    refine ⟨⟨_, et⟩, fun p hp => ?_⟩
    rw [et] at hp
    cases hp
    obtain ⟨j1, j2⟩ := join_ok _ k1
    rw [PyData.shownAll_length] at j2
    have last : PyData.strOk ((if ps.length == 1 then ",)" else ")" : String) : Str) = true ∧ ((if ps.length == 1 then ",)" else ")" : String) : Str).length ≤ 2 := by
      cases ps.length == 1 <;> exact ⟨by decide +kernel, by decide +kernel⟩
    rw [PyData.shown_tuple]
    refine ⟨strOk_app (strOk_app (by decide +kernel) j1) last.1, (by simp only [PyData.showable, k2]), ?_, (by simp only [PyData.depth]; omega), fun n z => (by cases z), fun z => ?_⟩
    · rw [strLen_append, strLen_append]
      have e2 : (("(" : String) : Str).length = 1 := rfl
      rw [e2]
      have := last.2
      omega
    · simp only [PyData.hasDict, k4] at z
      cases z
  · exact kdB_ok h
def kdlB (l : List (List D)) : Bool := l.all fun r => r.all kdC
def kdAt (l : List (List D)) (i : Nat) : List D := l.getD i []
theorem kdl_ok {l : List (List D)} (h : kdlB l = true) : ∀ i, ∀ d ∈ kdAt l i, kdC d = true := fun i d hd => by
  unfold kdAt at hd
  rw [List.getD_eq_getElem?_getD] at hd
  cases e : l[i]? with
  | none => rw [e] at hd; cases hd
  | some r =>
    rw [e] at hd
    exact List.all_eq_true.mp (List.all_eq_true.mp h r (List.mem_of_getElem? e)) d hd
/-! ### the base -/
def lamQ (x : Str) : Str := x ++ ".<locals>." ++ "<lambda>"
def kdI (L : Lw) (i : Nat) : List D := if i < L.kl.length then kdAt L.kl i else kdInts (Nat.min (L.ki.getD (i - L.kl.length) 0) (10 ^ 12))
def kdF (L : Lw) : Nat → List D := match L.ki with
  | [] => kdAt L.kl
  | _ => kdI L
theorem kdF_or (L : Lw) : kdF L = kdAt L.kl ∨ kdF L = kdI L := by
  obtain ⟨a, b, c, d, e, f, g, h, i, j, k, l, m, n, ki⟩ := L
  cases ki with
  | nil => exact .inl rfl
  | cons _ _ => exact .inr rfl
theorem kd_ok {L : Lw} (hk : kdlB L.kl = true) (i : Nat) (d : D) (hd : d ∈ kdF L i) : (∃ p, toPy d = some p) ∧ ∀ p, toPy d = some p → PyData.strOk p.shown = true ∧ p.showable = true ∧ p.shown.length ≤ 1000000 ∧ p.depth ≤ 60 ∧ (∀ n, d = .int n → n.natAbs.log2 < 1920) ∧ (p.hasDict = true → d = .fd [] []) := by
  rcases kdF_or L with e | e <;> rw [e] at hd
  · exact kdC_ok (kdl_ok hk i d hd)
  · unfold kdI at hd
    split at hd
    · exact kdC_ok (kdl_ok hk i d hd)
    · exact kdInts_ok (Nat.min_le_right _ _) hd
def Lw.B (L : Lw) (hk : kdlB L.kl = true) (P : Program) (w : World) (K : PySem.W.Frag) (mg : Str → Option Value) (base : Heap) : Bs where
  P := P
  w := w
  base := base
  cls := fun i => L.cl.getD i ""
  fld := fun i => L.fl.getD i ""
  K := K
  mg := mg
  T := L.tf.map fun x => ((He.cT K (x, none)).2, lamQ x)
  kd := kdF L
  kdr := fun i d hd => kd_ok hk i d hd
/-- a def, as it stands -/
structure DF (B : Bs) (x : Str) (st : Stmt) : Prop where
  fd : ∃ fd, FunD B.K x x (defArgs st) (defBody st) (defScope st) [] [] (He.ga B.K x) fd
  mg : B.mg x = some (.ref (He.ga B.K x))
/-- a constant, as it stands -/
def GlF (B : Bs) (p : Str × D) : Prop := ∃ u v, B.mg p.1 = some u ∧ RelV v u ∧ ∀ m s H, AR B m s H → RDw B m s H p.2 v
structure LF (L : Lw) (B : Bs) : Prop where
  df : ∀ p ∈ L.dl, DF B p.1 (L.top p.2)
  lam : ∀ x ∈ L.tf, LamF B x x (He.ga B.K x)
  cm : ∀ x ∈ L.cl, B.mg x = some (.ref (He.ga B.K x))
  gt : ∀ p ∈ L.gt, GlF B p
  kt : ∀ p ∈ L.kt, strE p.1 "__debug__" = false → KdF B p.1 p.2
  bl : ∀ x ∈ L.bl, B.mg x = none
  ex : L.ex B.K = true
  ixb : L.ixB B.K = true
theorem nodA_ok {α : Type} {f : α → Addr} : ∀ {l : List α}, nodA (l.map f) = true → ∀ x ∈ l, ∀ y ∈ l, f x = f y → x = y
  | [], _, x, hx, _, _, _ => by cases hx
  | a :: r, h, x, hx, y, hy, e => by
    obtain ⟨h1, h2⟩ := a2 (show (!((r.map f).any (Nat.beq (f a))) && nodA (r.map f)) = true from h)
    have no : ∀ z ∈ r, f z ≠ f a := fun z hz q => by
      have n := not_t h1
      rw [List.any_eq_false] at n
      refine n (f z) (List.mem_map_of_mem hz) ?_
      rw [q]
      exact Nat.beq_refl _
    rcases List.mem_cons.mp hx with q | q <;> rcases List.mem_cons.mp hy with q2 | q2
    · rw [q, q2]
    · rw [q] at e
      exact absurd e.symm (no y q2)
    · rw [q2] at e
      exact absurd e (no x q)
    · exact nodA_ok h2 x q y q2 e
theorem Lw.facts (L : Lw) (hk : kdlB L.kl = true) (htd : L.tf.all (fun x => L.dl.any fun p => strE p.1 x) = true) {P : Program} {w : World} {K : PySem.W.Frag} {mg : Str → Option Value} {h base : Heap} (X : K.In h) (G : h.Ns mainGlobals mg) (c : He.SaysX L.fa L.fn L.ts L.tD L.exD w h K)
    (tb : ∀ p ∈ L.tD.map (He.cT K), LamX.TabB base mg p.1 p.2) : LF L (L.B hk P w K mg base) := by
  have D := c.t.d
  obtain ⟨ex1, nd⟩ := a2 c.more
  obtain ⟨ex2, exk⟩ := a2 ex1
  obtain ⟨ex0, exg⟩ := a2 ex2
  obtain ⟨exi, ex⟩ := a2 ex0
  have fa1 : ∀ p ∈ L.dl, mg p.1 = some (.ref (He.ga K p.1)) := fun p hp => He.glo_ok X G (D.facts (f := .glo p.1) (List.mem_append_left _ (List.mem_map_of_mem hp)))
  have df : ∀ p ∈ L.dl, ∃ fd, FunD K p.1 p.1 (defArgs (L.top p.2)) (defBody (L.top p.2)) (defScope (L.top p.2)) [] [] (He.ga K p.1) fd := fun p hp => D.defs (d := L.mkD p) (List.mem_map_of_mem hp)
  refine ⟨fun p hp => ⟨df p hp, fa1 p hp⟩, fun x hx => ?_, fun x hx => He.glo_ok X G (D.facts (f := .glo x) (List.mem_append_right _ (List.mem_append_left _ (List.mem_map_of_mem hx)))), fun p hp => ?_, fun p hp hdb => ?_, fun x hx => He.free_ok X G (D.facts (f := .free x) (List.mem_append_right _ (List.mem_append_right _ (List.mem_map_of_mem hx)))), ex, exi⟩
  · have hx' := List.all_eq_true.mp htd x hx
    rw [List.any_eq_true] at hx'
    obtain ⟨p, hp, e⟩ := hx'
    have e := strE_ok e
    subst e
    obtain ⟨fd, F⟩ := df p hp
    intro oc od params body scope dV kV doc pm an cdv ct osl lk
    obtain ⟨oc', od', dV', kV', doc', pm', an', cdv', ct', osl', e1, e2, e3, _⟩ := F.ex
    have e4 := e2.symm.trans lk
    cases e1
    injection e4 with e4
    injection e4 with _ _ e4 _
    injection e4 with e4
    have ecd : cdv' = cdv := congrArg FuncData.code e4
    subst ecd
    obtain ⟨cd, rfl⟩ := He.codeIn_ref e3
    have ec : He.codeOf K (p.1, none) = cd := He.codeOf_eq lk rfl
    have hm : ((p.1, none) : He.Defn) ∈ L.tD := List.mem_map_of_mem hx
    have tb' := tb _ (List.mem_map_of_mem hm)
    refine ⟨cd, (He.cT K (p.1, none)).2, rfl, ?_, List.mem_map_of_mem (f := fun x => ((He.cT K (x, none)).2, lamQ x)) hx, fun q hq eq => ?_⟩
    · rw [← ec]
      exact tb'
    · obtain ⟨y, hy, rfl⟩ := List.mem_map.mp hq
      have nd' : nodA (L.tf.map fun x => (He.cT K (x, none)).2) = true := by
        have z : L.tD.map (fun p => (He.cT K p).2) = L.tf.map fun x => (He.cT K (x, none)).2 := by
          unfold Lw.tD
          rw [List.map_map]
          rfl
        rw [← z]
        exact nd
      have ey : y = p.1 := nodA_ok nd' y hy p.1 hx eq
      subst ey
      rfl
  · have q := List.all_eq_true.mp exg p hp
    unfold conB at q
    split at q
    · rename_i u e
      obtain ⟨v, r, rd⟩ := conV_ok (B := L.B hk P w K mg base) q
      exact ⟨u, v, PySem.W.mg_of X G e, r, fun m s H _ => rd m s H⟩
    · exact ff q
  · obtain ⟨q1, q2⟩ := a2 (List.all_eq_true.mp exk p hp)
    refine ⟨⟨_, PySem.W.mg_of X G (He.eqO_ok q1), fun z i hz => ?_⟩, by rw [strE_eq] at hdb; exact hdb⟩
    obtain ⟨j, hj, ej⟩ := List.mem_iff_getElem.mp hp
    have e0 : L.ts[j]? = some ((fun K => He.ga K p.1), p.2.map (·.1)) := by
      unfold Lw.ts
      rw [List.getElem?_map, List.getElem?_eq_getElem hj, ej]
      rfl
    obtain ⟨es, n, kd⟩ := c.t.tab j e0
    have mem : (z, i) ∈ p.2 := PySem.mem_of_lookup hz
    have q3 := List.all_eq_true.mp q2 (z, i) mem
    have q3 : (match PySem.W.nsIn K (He.ga K p.1) z with
      | some (some u) => He.relB (.int i) u
      | _ => false) = true := q3
    split at q3
    · rename_i u e
      exact ⟨es, n, u, kd.at_, kd.lit, e, He.relB_ok q3⟩
    · exact ff q3
/-- a def of the law by its term -/
theorem LF.def_ {L : Lw} {B : Bs} (F : LF L B) {t : Tb} (K : TbOk B t) {x : Str} {i : Nat} (hm : (x, i) ∈ L.dl) {N : List Str} {n p lv : Nat} {gd lm : Bool} {ir : ISs} {b : XS} (tr : Bool) (hd : denSs t ir = b) (hc : defB t N n p lv gd lm ir (L.top i) = true) (hl : lm = true → x ∈ L.tf) : FnC B gd (lv + 1) x (xDef n p tr b) := by
  obtain ⟨⟨fd, f⟩, mg⟩ := F.df _ hm
  exact def_ok K f mg tr hd hc fun z => F.lam x (hl z)
theorem LF.defS {L : Lw} {B : Bs} (F : LF L B) {t : Tb} (K : TbOk B t) {x : Str} {i : Nat} (hm : (x, i) ∈ L.dl) {N : List Str} {n p lv : Nat} {ir : ISs} {b : XS} (tr : Bool) (hd : denSs t ir = b) (hc : defSB t N n p lv ir (L.top i) = true) : FnC B false (lv + 1) x (xDefS n p tr b) := by
  obtain ⟨⟨fd, f⟩, mg⟩ := F.df _ hm
  exact defS_ok K f mg tr hd hc
end Ev
end
end

/-! part EvAJ -/
section
set_option Elab.async false
set_option linter.all false
set_option maxRecDepth 100000
set_option maxHeartbeats 4000000
/-! EvAJ: what a def gives of constants, known from a run of its own. -/
noncomputable section
namespace Ev
open PySem PySem.Spec PyProof.Rows L2

mutual
/-- the same closed data: no letters, no lists -/
def eqD : D → D → Bool
  | .non, .non => true
  | .bl a, .bl b => isBL (.bl a) b
  | .int i, .int j => iEq i j
  | .str x, .str y => strE x y
  | .tup l, .tup r => eqDs l r
  | _, _ => false
def eqDs : List D → List D → Bool
  | [], [] => true
  | a :: l, b :: r => match eqD a b with
    | true => eqDs l r
    | false => false
  | _, _ => false
end
mutual
theorem eqD_ok {B : Bs} {m m' : Md} {nl no nl' no' : Nat} {W W' : Addr → Prop} {H : Hp} : ∀ {a b : D} {v : V}, eqD a b = true → RD B m nl no W H a v → RD B m' nl' no' W' H b v
  | .non, .non, _, _, r => r
  | .bl a, .bl b, _, h, r => by
    have e := isBL_ok (show isBL (.bl a) b = true from h)
    cases e
    exact r
  | .int i, .int j, _, h, r => by
    have h' : iEq i j = true := h
    rw [iEq_eq, decide_eq_true_eq] at h'
    subst h'
    exact r
  | .str x, .str y, _, h, r => by
    have e := strE_ok (show strE x y = true from h)
    subst e
    exact r
  | .tup l, .tup l', _, h, ⟨a, xs, e, q, r⟩ => ⟨a, xs, e, q, eqDs_ok (show eqDs l l' = true from h) r⟩
theorem eqDs_ok {B : Bs} {m m' : Md} {nl no nl' no' : Nat} {W W' : Addr → Prop} {H : Hp} : ∀ {a b : List D} {v : List V}, eqDs a b = true → RDs B m nl no W H a v → RDs B m' nl' no' W' H b v
  | [], [], _, _, r => r
  | a :: l, b :: r, v, h, ⟨x, t, e, r1, r2⟩ => by
    have h' : (match eqD a b with
      | true => eqDs l r
      | false => false) = true := h
    cases q : eqD a b with
    | false => rw [q] at h'; exact ff h'
    | true =>
      rw [q] at h'
      exact ⟨x, t, e, eqD_ok q r1, eqDs_ok h' r2⟩
end
/-- one call known -/
def xTab (us0 : List D) (r0 : D) (xf : XF) : XF := fun us s k kx => Bool.rec (motive := fun _ => Bool) (xf us s k kx) (k r0 s) (eqDs us us0)
theorem fn_tab {B : Bs} {gd : Bool} {lv : Nat} {x : Str} {xf : XF} {us0 : List D} {r0 : D} (F : FnC B gd lv x xf) (h : xf us0 (.mk 0 0 []) (fun r _ => eqD r r0) (fun _ _ _ => false) = true) : FnC B gd lv x (xTab us0 r0 xf) := by
  obtain ⟨f, hm, hk, hr⟩ := F.ok
  refine ⟨f, hm, hk, fun A outer s H us vs Q E hR hg e0 r hs => hr A outer s H us vs Q E hR hg e0 r ?_⟩
  obtain ⟨m, st, ds, k, kx, ar, rd, hx, hkd, hkx⟩ := hs
  have hx' : Bool.rec (motive := fun _ => Bool) (xf ds st k kx) (k r0 st) (eqDs ds us0) = true := hx
  cases e : eqDs ds us0 with
  | false =>
    rw [e] at hx'
    exact ⟨m, st, ds, k, kx, ar, rd, hx', hkd, hkx⟩
  | true =>
    rw [e] at hx'
    refine ⟨m, .mk 0 0 [], us0, _, _, ar_empty ar.tabs, eqDs_ok e rd, h, fun d m' s' H' v' p a' r' q => ?_, fun c p m' s' H' cls dd _ _ _ q => ff q⟩
    obtain ⟨P, A'⟩ := post_ext ar (H1 := H') (fun b o e n => p.keep b o e (fun ⟨i, o, q, _⟩ => by cases q) n) a'.tabs
    exact hkd r0 m st H' _ P A' (eqD_ok q r') hx'
end Ev
end
end

/-! part EvBE -/
section
set_option Elab.async false
set_option linter.all false
set_option maxRecDepth 100000
set_option maxHeartbeats 4000000
/-! EvBE: a def of a letter and of further data; many turns of a def told in a table. -/
noncomputable section
namespace Ev
open PySem PySem.Spec PyProof.Rows L2

/-- a letter ahead, then what stands -/
def symR (us : List D) : Option (Nat × List D) := match us with
  | .sym n :: r => some (n, r)
  | _ => none
theorem symR_ok {us : List D} {n : Nat} {r : List D} (h : symR us = some (n, r)) : us = .sym n :: r := by
  unfold symR at h
  split at h
  · cases h
    rfl
  · cases h
def lkR : List (Nat × List D × LR) → Nat → List D → Option (List D × LR)
  | [], _, _ => none
  | (m, us, o) :: r, n, ds => Bool.rec (lkR r n ds) (some (us, o)) (Nat.beq m n && eqDs ds us)
theorem lkR_mem : ∀ {l : List (Nat × List D × LR)} {n : Nat} {ds us : List D} {o : LR}, lkR l n ds = some (us, o) → (n, us, o) ∈ l ∧ eqDs ds us = true
  | [], _, _, _, _, h => by cases h
  | (m, vs, q) :: r, n, ds, us, o, h => by
    unfold lkR at h
    cases e : (Nat.beq m n && eqDs ds vs) with
    | true =>
      rw [e] at h
      cases h
      obtain ⟨e1, e2⟩ := a2 e
      rw [Nat.eq_of_beq_eq_true e1]
      exact ⟨List.mem_cons_self, e2⟩
    | false =>
      rw [e] at h
      obtain ⟨h1, h2⟩ := lkR_mem h
      exact ⟨List.mem_cons_of_mem _ h1, h2⟩
/-- a table: what the def says of each letter with such further data -/
def xLetR (l : List (Nat × List D × LR)) (xf : XF) : XF := fun us s k kx => match symR us with
  | none => xf us s k kx
  | some (n, r) => match lkR l n r with
    | some (_, .b (some b)) => k (.bl b) s
    | some (_, .b none) => grd (k (.bl true) s) (k (.bl false) s)
    | some (_, .n) => k .non s
    | some (_, .x c) => kx c .unb s
    | none => xf us s k kx
def letRB (kd : Nat → List D) (l : List (Nat × List D × LR)) (xf : XF) : Bool := l.all fun p => (kd p.1).all fun d => xf (d :: p.2.1) (.mk 0 0 []) (fun r _ => isOB r p.2.2) (fun c _ _ => isOX c p.2.2)
theorem fn_letR {B : Bs} {gd : Bool} {lv : Nat} {x : Str} {xf : XF} {l : List (Nat × List D × LR)} (F : FnC B gd lv x xf) (h : letRB B.kd l xf = true) : FnC B gd lv x (xLetR l xf) := by
  obtain ⟨f, hm, hk, hr⟩ := F.ok
  refine ⟨f, hm, hk, fun A outer s H us vs Q E hR hg e0 r hs => hr A outer s H us vs Q E hR hg e0 r ?_⟩
  obtain ⟨m, st, ds, k, kx, ar, rd, hx, hkd, hkx⟩ := hs
  cases e : symR ds with
  | none =>
    have hx' : (match symR ds with
      | none => xf ds st k kx
      | some (n, r) => match lkR l n r with
        | some (_, .b (some b)) => k (.bl b) st
        | some (_, .b none) => grd (k (.bl true) st) (k (.bl false) st)
        | some (_, .n) => k .non st
        | some (_, .x c) => kx c .unb st
        | none => xf ds st k kx) = true := hx
    rw [e] at hx'
    exact ⟨m, st, ds, k, kx, ar, rd, hx', hkd, hkx⟩
  | some nr =>
    obtain ⟨n, rr⟩ := nr
    have ed := symR_ok e
    subst ed
    have hx' : (match lkR l n rr with
        | some (_, .b (some b)) => k (.bl b) st
        | some (_, .b none) => grd (k (.bl true) st) (k (.bl false) st)
        | some (_, .n) => k .non st
        | some (_, .x c) => kx c .unb st
        | none => xf (.sym n :: rr) st k kx) = true := hx
    cases e2 : lkR l n rr with
    | none =>
      rw [e2] at hx'
      exact ⟨m, st, .sym n :: rr, k, kx, ar, rd, hx', hkd, hkx⟩
    | some uo =>
      obtain ⟨us0, o⟩ := uo
      rw [e2] at hx'
      obtain ⟨mem, eqr⟩ := lkR_mem e2
      obtain ⟨v, t, ev, ⟨hn, r0⟩, rt⟩ := rd
      subst ev
      have hin := ar.lets n hn
      unfold letRB at h
      rw [List.all_eq_true] at h
      have h1 := h (n, us0, o) mem
      rw [List.all_eq_true] at h1
      have h2 := h1 _ hin
      refine ⟨m, .mk 0 0 [], m.ν n :: us0, _, _, ar_empty ar.tabs, ⟨v, t, rfl, rd_of0 (fun a ⟨i, o, q, _⟩ => by cases q) r0, eqDs_ok eqr rt⟩, h2, fun d m' s' H' v' p a' r' q => ?_, fun c p m' s' H' cls dd p' a' xr q => ?_⟩
      · obtain ⟨P, A'⟩ := post_ext ar (H1 := H') (fun b o e n => p.keep b o e (fun ⟨i, o, q, _⟩ => by cases q) n) a'.tabs
        cases o with
        | b o =>
          cases o with
          | some b =>
            have ed := isBL_ok q
            subst ed
            exact hkd (.bl b) m st H' v' P A' r' hx'
          | none =>
            obtain ⟨b, ed⟩ := isB_ok q
            subst ed
            obtain ⟨q1, q2⟩ := grd_ok (show grd (k (.bl true) st) (k (.bl false) st) = true from hx')
            refine hkd (.bl b) m st H' v' P A' r' ?_
            cases b with
            | true => exact q1
            | false => exact q2
        | n =>
          have ed := isNonD_ok q
          subst ed
          exact hkd .non m st H' v' P A' r' hx'
        | x c => exact ff q
      · obtain ⟨P, A'⟩ := post_ext ar (H1 := H') (fun b o e n => p'.keep b o e (fun ⟨i, o, q, _⟩ => by cases q) n) a'.tabs
        cases o with
        | b o => exact ff q
        | n => exact ff q
        | x i =>
          have ei := Nat.eq_of_beq_eq_true q
          subst ei
          exact hkx c .unb m st H' cls dd P A' ⟨xr.1, .inl rfl⟩ hx'
end Ev
end
end

/-! part EvAI -/
section
set_option Elab.async false
set_option linter.all false
set_option maxRecDepth 100000
set_option maxHeartbeats 4000000
/-! EvAI: the def that calls what it got, by tests; the table's start; the end. -/
noncomputable section
namespace Ev
open PySem PySem.Spec PyProof.Rows L2

def isNm : HK → Bool
  | .t _ => false
  | .s _ => false
  | _ => true
theorem isNm_no {h : HK} (z : isNm h = false) : (∃ w, h = .t w) ∨ ∃ w, h = .s w := by
  cases h <;> first | exact .inl ⟨_, rfl⟩ | exact .inr ⟨_, rfl⟩ | exact ff z.symm
def heB (e f : Str) (h : HK) (ex : Expr) : Bool := match h, ex with
  | .t w, .Tuple [.Constant (.str y) _ _] _ _ => strE w y
  | .s w, .Constant (.str y) _ _ => strE w y
  | .tp w, .Tuple [.Constant (.str y) _ _, .Attribute (.Name e2 _) f2 _] _ _ => strE w y && strE e e2 && strE f f2
  | .p, .Attribute (.Name e2 _) f2 _ => strE e e2 && strE f f2
  | .r w, .Tuple [.Constant (.str y) _ _, .Call (.Name g _) [.Attribute (.Name e2 _) f2 _] [] _] _ _ => strE w y && strE e e2 && strE f f2 && strE g "repr"
  | .sr w, .BinOp (.Constant (.str y) _ _) .Add (.Call (.Name g _) [.Attribute (.Name e2 _) f2 _] [] _) _ => strE w y && strE e e2 && strE f f2 && strE g "repr"
  | _, _ => false
theorem heB_ok {e f : Str} {h : HK} {ex : Expr} (q : heB e f h ex = true) : HE e f h ex := by
  unfold heB at q
  split at q
  · rw [strE_ok q]
    exact .t
  · rw [strE_ok q]
    exact .s
  · simp only [Bool.and_eq_true] at q
    obtain ⟨⟨q1, q2⟩, q3⟩ := q
    rw [strE_ok q1, strE_ok q2, strE_ok q3]
    exact .tp
  · simp only [Bool.and_eq_true] at q
    obtain ⟨q2, q3⟩ := q
    rw [strE_ok q2, strE_ok q3]
    exact .p
  · simp only [Bool.and_eq_true] at q
    obtain ⟨⟨⟨q1, q2⟩, q3⟩, q4⟩ := q
    rw [strE_ok q1, strE_ok q2, strE_ok q3, strE_ok q4]
    exact .r
  · simp only [Bool.and_eq_true] at q
    obtain ⟨⟨⟨q1, q2⟩, q3⟩, q4⟩ := q
    rw [strE_ok q1, strE_ok q2, strE_ok q3, strE_ok q4]
    exact .sr
  · exact ff q
def ixS : List Str → Str → Nat
  | [], _ => 0
  | y :: r, x => Bool.rec (Nat.succ (ixS r x)) 0 (strE y x)
def oneB (cl fl : List Str) (sg : Scope) (N : List Str) (q : Nat × HK) : ExceptHandler → Bool
  | .ExceptHandler (some (.Name x _)) o [.Return (some ex) _] _ => Nat.blt q.1 cl.length && strE (cl.getD q.1 "") x && kG (lkS sg.names x) && !strE x "__debug__" && (match o with
      | none => heB "" "" q.2 ex && !isNm q.2
      | some e => isNm q.2 && heB e (fl.getD q.1 "") q.2 ex && (match N[ixS N e]? with
        | some y => strE y e
        | none => false) && kL (lkS sg.names e) && !strE e "__debug__" && !strE e "__classdict__" && (!isR q.2 || kG (lkS sg.names "repr")))
  | _ => false
def clB (cl fl : List Str) (sg : Scope) (N : List Str) : List ExceptHandler → List (Nat × HK) → Bool
  | [], [] => true
  | e :: hs, q :: cs => oneB cl fl sg N q e && clB cl fl sg N hs cs
  | _, _ => false
theorem xfsB_ok {K : PySem.W.Frag} {x f : Str} (h : xfsB K x f = true) : XfC K (He.ga K x) ∧ PySem.W.findIn K (.ref (He.ga K x)) f = some none := by
  obtain ⟨h1, h2⟩ := a2 h
  exact ⟨xfB_ok h1, He.eqO_ok h2⟩
theorem getD_mem {l : List Str} {j : Nat} (h : j < l.length) : l.getD j "" ∈ l := by
  rw [List.getD_eq_getElem?_getD, List.getElem?_eq_getElem h]
  exact List.getElem_mem h
theorem clB_ok {L : Lw} {B : Bs} (F : LF L B) (hc : ∀ i, B.cls i = L.cl.getD i "") (hf : ∀ i, B.fld i = L.fl.getD i "") {sg : Scope} {N : List Str} :
    ∀ {hs : List ExceptHandler} {cs : List (Nat × HK)}, clB L.cl L.fl sg N hs cs = true → (∀ q ∈ cs, isR q.2 = true → B.mg ("repr" : Str) = none) → (∀ q ∈ cs, isNm q.2 = true → xfsB B.K (L.cl.getD q.1 "") (L.fl.getD q.1 "") = true) → HsOk B sg N hs cs
  | [], [], _, _, _ => .nil
  | [], _ :: _, h, _, _ => ff h
  | _ :: _, [], h, _, _ => ff h
  | e :: hs, (j, k) :: cs, h, hr, hx => by
    obtain ⟨h1, h6⟩ := a2 (show (oneB L.cl L.fl sg N (j, k) e && clB L.cl L.fl sg N hs cs) = true from h)
    have tl := clB_ok F hc hf h6 (fun q hq => hr q (List.mem_cons_of_mem _ hq)) fun q hq => hx q (List.mem_cons_of_mem _ hq)
    unfold oneB at h1
    split at h1
    · simp only [Bool.and_eq_true] at h1
      obtain ⟨⟨⟨⟨h1, h2⟩, h3⟩, h4⟩, h5⟩ := h1
      rw [Nat.blt_eq] at h1
      have ex := strE_ok h2
      have mg := F.cm _ (getD_mem h1)
      split at h5
      · obtain ⟨q1, q2⟩ := a2 h5
        exact .plain (by rw [hc, ex]) (by rw [← ex]; exact mg) (by rw [← lkS_eq]; exact kG_ok h3) (strE_no h4) (heB_ok q1) (isNm_no (not_t q2)) tl
      · rename_i e
        simp only [Bool.and_eq_true] at h5
        obtain ⟨⟨⟨⟨⟨⟨q1, q2⟩, q3⟩, q4⟩, q5⟩, q6⟩, q7⟩ := h5
        obtain ⟨x1, x2⟩ := xfsB_ok (hx _ List.mem_cons_self q1)
        refine .named (i := ixS N e) (by rw [hc, ex]) (by rw [← ex]; exact mg) (by rw [← lkS_eq]; exact kG_ok h3) (strE_no h4) ?_ (by rw [← lkS_eq]; exact kL_ok q4) (strE_no q5) (strE_no q6) x1 (by rw [hf]; exact x2) (fun z => ?_) (by rw [hf]; exact heB_ok q2) tl
        · split at q3
          · rename_i y ey
            rw [ey, strE_ok q3]
          · exact ff q3
        · have z : isR k = true := z
          have q7 : (!isR k || kG (lkS sg.names "repr")) = true := q7
          rw [z] at q7
          exact ⟨by rw [← lkS_eq]; exact kG_ok q7, hr _ List.mem_cons_self z⟩
    · exact ff h1
def metW : List Stmt → Option (Str × List ExceptHandler × Expr)
  | [.Try [.Expr (.Call (.Name a _) [] [] _) _] hs [] [] _, .Return (some fe) _] => some (a, hs, fe)
  | _ => none
theorem metW_ok {l : List Stmt} {a : Str} {hs : List ExceptHandler} {fe : Expr} (h : metW l = some (a, hs, fe)) : ∃ p1 p2 p3 p4 p5, l = [.Try [.Expr (.Call (.Name a p1) [] [] p2) p3] hs [] [] p4, .Return (some fe) p5] := by
  unfold metW at h
  split at h
  · cases h
    exact ⟨_, _, _, _, _, rfl⟩
  · cases h
def metB (cl fl bl : List Str) (st : Stmt) (N : List Str) (cs : List (Nat × HK)) (f : HK) : Bool := match metW (defBody st), parN (defArgs st) with
  | some (a, hs, fe), some [p] => strE a p && scB N [a] (defScope st) && (match N with
      | y :: _ => strE y a
      | [] => false) && kL (lkS (defScope st).names a) && !strE a "__debug__" && !strE a "__classdict__" && clB cl fl (defScope st) N hs cs && !hs.isEmpty && heB "" "" f fe && !isNm f && (!(cs.any fun q => isR q.2) || bl.any fun y => strE y "repr")
  | _, _ => false
theorem exm_of {L : Lw} {B : Bs} (F : LF L B) (hnx : L.nx = false) (hc : ∀ i, B.cls i = L.cl.getD i "") : Exm B L.cl.length := fun i j hi hj C C' h1 h2 => by
  obtain ⟨_, h⟩ := a2 (show (_ && (L.nx || exmB B.K L.cl)) = true from F.ex)
  rw [hnx, Bool.false_or] at h
  have h3 := List.all_eq_true.mp h i (List.mem_range.mpr hi)
  have h4 := of_decide_eq_true (List.all_eq_true.mp h3 j (List.mem_range.mpr hj))
  rw [hc] at h1 h2
  have e1 := (F.cm _ (getD_mem hi)).symm.trans h1
  have e2 := (F.cm _ (getD_mem hj)).symm.trans h2
  cases e1
  cases e2
  exact h4
theorem ex_at {L : Lw} {B : Bs} (F : LF L B) {i : Nat} (hi : i < L.cl.length) : exOne B.K L.file (L.cl.getD i "") (L.fl.getD i "") (L.el.getD i (0, false)) = true := by
  obtain ⟨h, _⟩ := a2 (show (_ && (L.nx || exmB B.K L.cl)) = true from F.ex)
  exact List.all_eq_true.mp h i (List.mem_range.mpr hi)
theorem met_of {L : Lw} {B : Bs} (F : LF L B) (hnx : L.nx = false) (hc : ∀ i, B.cls i = L.cl.getD i "") (hf : ∀ i, B.fld i = L.fl.getD i "") {x : Str} {i : Nat} (hm : (x, i) ∈ L.dl) {N : List Str} {cs : List (Nat × HK)} {f : HK} (h : metB L.cl L.fl L.bl (L.top i) N cs f = true)
    (hn : (cs.all fun q => Nat.blt q.1 L.cl.length && (!isNm q.2 || (L.el.getD q.1 (0, false)).2)) = true) (hd : strE x "__debug__" = false) : MetOk B x L.cl.length cs f := by
  obtain ⟨⟨fd, D⟩, mg⟩ := F.df _ hm
  unfold metB at h
  split at h
  · rename_i a hs fe p e1 e2
    simp only [Bool.and_eq_true] at h
    obtain ⟨⟨⟨⟨⟨⟨⟨⟨⟨⟨h1, h2⟩, h3⟩, h4⟩, h5⟩, h6⟩, h7⟩, h8⟩, h9⟩, h10⟩, h11⟩ := h
    have ea := strE_ok h1
    subst ea
    obtain ⟨as, ep, el⟩ := parN_ok e2
    obtain ⟨p1, p2, p3, p4, p5, eb⟩ := metW_ok e1
    have hb : (L.bl.any fun y => strE y "repr") = true → B.mg ("repr" : Str) = none := fun z => by
      rw [List.any_eq_true] at z
      obtain ⟨y, hy, e⟩ := z
      rw [← strE_ok e]
      exact F.bl y hy
    have hrp : ∀ q ∈ cs, isR q.2 = true → B.mg ("repr" : Str) = none := fun q hq z => by
      have y : (cs.any fun q => isR q.2) = true := List.any_eq_true.mpr ⟨q, hq, z⟩
      rw [y] at h11
      exact hb h11
    have hn' := fun q hq => a2 (List.all_eq_true.mp hn q hq)
    have xs : ∀ q ∈ cs, isNm q.2 = true → xfsB B.K (L.cl.getD q.1 "") (L.fl.getD q.1 "") = true := fun q hq z => by
      obtain ⟨n1, n2⟩ := hn' q hq
      rw [Nat.blt_eq] at n1
      rw [z] at n2
      have n2 : (L.el.getD q.1 (0, false)).2 = true := n2
      have k := ex_at F n1
      unfold exOne at k
      rw [n2] at k
      exact (a2 k).2
    have eN : N[0]? = some a := by
      cases N with
      | nil => exact ff h3
      | cons y r => rw [strE_ok h3]; rfl
    have hk : HsOk B (defScope (L.top i)) N hs cs := clB_ok F hc hf h7 hrp xs
    refine ⟨⟨_, fd, defArgs (L.top i), defScope (L.top i), a, N, hs, fe, p1, p2, p3, p4, p5, mg, by rw [← eb]; exact D, fun kV doc pm an cdv ct us hu => ?_, scB_ok h2, eN, .inl (by rw [← lkS_eq]; exact kL_ok h4), strE_no h5, strE_no h6, hk, fun z => ?_, heB_ok h9, isNm_no (not_t h10)⟩, fun q hq => ?_, exm_of F hnx hc, by rw [strE_eq] at hd; exact hd⟩
    · rw [ep, el]
      have la : as.length = 1 := by
        have z := congrArg List.length el
        rw [List.length_map] at z
        exact z.symm
      refine bind_plain (by rw [hu, la]; rfl) ?_
      rw [← el]
      simp
    · rw [z] at h8
      exact ff h8
    · have := (hn' q hq).1
      rw [Nat.blt_eq] at this
      exact this
  · exact ff h
/-! ### classes in isinstance, fields -/
theorem ix_ok {L : Lw} {B : Bs} (F : LF L B) (hc : ∀ i, B.cls i = L.cl.getD i "") {y : Str} {l : List Bool} (hm : (y, l) ∈ L.ix) : IsxF B y l ∧ ∀ i, i < l.length → ∀ C, B.mg (B.cls i) = some (.ref C) → IsxC B.K C := by
  have h0 := F.ixb
  unfold Lw.ixB at h0
  obtain ⟨_, h1⟩ := a2 h0
  obtain ⟨h2, h3⟩ := a2 (List.all_eq_true.mp h1 (y, l) hm)
  have h2 := Nat.le_of_ble_eq_true h2
  unfold ixOne at h3
  simp only [Bool.and_eq_true] at h3
  obtain ⟨⟨⟨k1, k2⟩, k3⟩, k4⟩ := h3
  have hC : ∀ i, i < l.length → ∀ C, B.mg (B.cls i) = some (.ref C) → C = He.ga B.K (L.cl.getD i "") := fun i hi C q => by
    have q2 := F.cm _ (getD_mem (Nat.lt_of_lt_of_le hi h2))
    rw [hc, q2] at q
    cases q
    rfl
  have at_ : ∀ i, i < l.length → isxB B.K (He.ga B.K (L.cl.getD i "")) = true ∧ PySem.W.kitOne B.K (.ref (He.ga B.K (L.cl.getD i ""))) (ixV B.K L.cl y) = l[i]? := fun i hi => by
    obtain ⟨q1, q2⟩ := a2 (List.all_eq_true.mp k4 i (List.mem_range.mpr hi))
    exact ⟨q1, of_decide_eq_true q2⟩
  refine ⟨⟨?_⟩, fun i hi C q => by rw [hC i hi C q]; exact isxB_ok (at_ i hi).1⟩
  have is : ∀ i b C, l[i]? = some b → B.mg (B.cls i) = some (.ref C) → IsxC B.K C ∧ PySem.W.kitOne B.K (.ref C) (ixV B.K L.cl y) = some b := fun i b C e q => by
    have hi := (List.getElem?_eq_some_iff.mp e).1
    rw [hC i hi C q]
    exact ⟨isxB_ok (at_ i hi).1, by rw [(at_ i hi).2, e]⟩
  have hdb : (y == ("__debug__" : Str)) = false := strE_no k2
  have hnm : y ≠ "__name__" := fun z => by
    rw [z] at k3
    exact absurd k3 (by decide +kernel)
  cases c : L.cl.any fun x => strE x y with
  | true =>
    have hy : y ∈ L.cl := by
      rw [List.any_eq_true] at c
      obtain ⟨x, hx, e⟩ := c
      rw [← strE_ok e]
      exact hx
    have e : ixV B.K L.cl y = .ref (He.ga B.K y) := by
      unfold ixV
      rw [c]
    exact ⟨.ref (He.ga B.K y), _, fun u h => by rw [e]; exact h, .inl ⟨_, F.cm y hy, e, rfl⟩, hdb, is⟩
  | false =>
    rw [c] at k1
    obtain ⟨k5, k6⟩ := a2 k1
    have hy : y ∈ L.bl := by
      rw [List.any_eq_true] at k5
      obtain ⟨x, hx, e⟩ := k5
      rw [← strE_ok e]
      exact hx
    have e : ixV B.K L.cl y = .type y.toString := by
      unfold ixV
      rw [c]
    split at k6
    · rename_i t hb
      have et : t = y.toString := of_decide_eq_true k6
      rw [← et] at e
      exact ⟨.ty t, _, fun u h => by rw [e]; exact h, .inr ⟨t, F.bl y hy, hb, e, rfl, hnm⟩, hdb, is⟩
    · exact ff k6
def flB (L : Lw) : Bool := (match L.ix with
  | p :: _ => Nat.ble L.cl.length p.2.length
  | [] => false) && Nat.beq L.fl.length L.cl.length && (List.range L.cl.length).all fun i => (strE (L.fl.getD i "") "" || (L.el.getD i (0, false)).2)
theorem fl_ok {L : Lw} {B : Bs} (F : LF L B) (hc : ∀ i, B.cls i = L.cl.getD i "") (hf : ∀ i, B.fld i = L.fl.getD i "") (h : flB L = true) : FldF B L.fl := by
  unfold flB at h
  obtain ⟨h1, h3⟩ := a2 h
  obtain ⟨h1, h2⟩ := a2 h1
  refine ⟨hf, fun i C q ne => ?_⟩
  have hi : i < L.cl.length := by
    rw [← Nat.eq_of_beq_eq_true h2]
    by_cases z : i < L.fl.length
    · exact z
    · exact absurd (by rw [List.getD_eq_getElem?_getD, List.getElem?_eq_none (by omega)]; rfl) ne
  have q2 := F.cm _ (getD_mem hi)
  have q1 := q
  rw [hc, q2] at q
  cases q
  have k := ex_at F hi
  have k2 := List.all_eq_true.mp h3 i (List.mem_range.mpr hi)
  rw [Bool.or_eq_true] at k2
  rcases k2 with k2 | k2
  · exact absurd (strE_ok k2) ne
  · unfold exOne at k
    rw [k2] at k
    obtain ⟨_, k3⟩ := a2 k
    unfold xfsB at k3
    obtain ⟨_, k4⟩ := a2 k3
    refine ⟨?_, He.eqO_ok k4⟩
    split at h1
    · rename_i p r e
      exact (ix_ok F hc (y := p.1) (l := p.2) (by rw [e]; exact List.mem_cons_self)).2 i (Nat.lt_of_lt_of_le hi (Nat.le_of_ble_eq_true h1)) _ q1
    · exact ff h1
theorem sys_ok {L : Lw} {B : Bs} (F : LF L B) (h : L.sys = true) : ∃ o, B.K.lookup sysModules = some o := by
  have h0 := F.ixb
  unfold Lw.ixB at h0
  obtain ⟨h1, _⟩ := a2 h0
  rw [h] at h1
  exact Option.isSome_iff_exists.mp (by simpa using h1)
/-! ### the table's start -/
def tb0B (L : Lw) (t : Tb) : Bool := (t.gt.all fun p => !strE p.1 "__debug__") && (t.kt.all fun p => !strE p.1 "__debug__") && Nat.beq t.ec.length L.cl.length && eqSs (t.ec.map (·.1)) L.cl && (L.cl.all fun x => !strE x "__debug__") && Nat.beq L.el.length L.cl.length && (List.range L.cl.length).all fun i => match t.ec[i]? with
  | some p => p.2 == (L.el.getD i (0, false)).2
  | none => false
theorem tb0_ok {L : Lw} {B : Bs} (F : LF L B) (hc : ∀ i, B.cls i = L.cl.getD i "") (hf : ∀ i, B.fld i = L.fl.getD i "") (hs : B.mg ("super" : Str) = none ∨ (∀ i, (L.el.getD i (0, false)).2 = false)) (hfile : B.P.main.file = L.file) (htop : (B.P.main.scope.names.lookup ("super" : Str)).isSome = false)
    {t : Tb} (hg : t.gt = L.gt) (hkt : t.kt = L.kt) (hkl : ∀ i c, c ∈ t.kl.getD i [] → c ∈ B.kd i) (hb : t.bl = L.bl) (hix : t.ix = L.ix) (hsys : t.sys = L.sys) (hfl : t.fl = [] ∨ (t.fl = L.fl ∧ flB L = true)) (hm : t.mn ≠ "" → MetOk B t.mn t.mz t.mc t.mf) (h : tb0B L t = true) : TbOk B { t with ft := [] } := by
  unfold tb0B at h
  simp only [Bool.and_eq_true] at h
  obtain ⟨⟨⟨⟨⟨⟨h1, h7⟩, h2⟩, h3⟩, h4⟩, h5⟩, h6⟩ := h
  have e2 := Nat.eq_of_beq_eq_true h2
  have e3 := eqSs_ok h3
  have at_ : ∀ (i : Nat) x k, t.ec[i]? = some (x, k) → i < L.cl.length ∧ L.cl.getD i "" = x ∧ (L.el.getD i (0, false)).2 = k := fun i x k e => by
    have hi : i < L.cl.length := by
      rw [← e2]
      exact (List.getElem?_eq_some_iff.mp e).1
    refine ⟨hi, ?_, ?_⟩
    · rw [← e3, List.getD_eq_getElem?_getD, List.getElem?_map, e]
      rfl
    · have q := List.all_eq_true.mp h6 i (List.mem_range.mpr hi)
      rw [e] at q
      exact (beq_iff_eq.mp q).symm
  have db : ∀ i, i < L.cl.length → strE (L.cl.getD i "") "__debug__" = false := fun i hi => not_t (List.all_eq_true.mp h4 _ (getD_mem hi))
  refine ⟨fun f x l g e => (by simp at e), fun i x d e => ?_, fun x hx => F.bl x (by rw [← hb]; exact hx), hm, fun i x e => ?_, fun i x e => ?_, fun j x l e => ?_, hkl, fun j y l e => (ix_ok F hc (List.mem_of_getElem? (by rw [← hix]; exact e))).1, fun h => ?_, fun h => sys_ok F (by rw [← hsys]; exact h)⟩
  · have e' : t.gt[i]? = some (x, d) := e
    have mem := List.mem_of_getElem? e'
    have q2 := List.all_eq_true.mp h1 _ mem
    obtain ⟨u, v, b1, b2, b3⟩ := F.gt (x, d) (by rw [← hg]; exact mem)
    exact ⟨u, v, b1, b2, strE_no q2, b3⟩
  · obtain ⟨hi, e1, ek⟩ := at_ i x false e
    have k := ex_at F hi
    unfold exOne at k
    rw [ek] at k
    refine ⟨?_, by rw [hc]; exact e1⟩
    rw [← e1]
    exact plainB_ok (ebN_ok _) (F.cm _ (getD_mem hi)) k (db i hi)
  · obtain ⟨hi, e1, ek⟩ := at_ i x true e
    have k := ex_at F hi
    unfold exOne at k
    rw [ek] at k
    refine ⟨?_, by rw [hc]; exact e1⟩
    rw [← e1, hf]
    refine keepB_ok (ebN_ok _) (F.cm _ (getD_mem hi)) ?_ hfile htop (db i hi) (a2 k).1
    rcases hs with z | z
    · exact z
    · rw [z i] at ek
      cases ek
  · have e' : t.kt[j]? = some (x, l) := e
    have mem := List.mem_of_getElem? e'
    exact F.kt (x, l) (by rw [← hkt]; exact mem) (not_t (List.all_eq_true.mp h7 _ mem))
  · have h' : t.fl.isEmpty = false := h
    rcases hfl with z | ⟨z, z2⟩
    · rw [z] at h'
      cases h'
    · show FldF B t.fl
      rw [z]
      exact fl_ok F hc hf z2
/-! ### the end -/
/-- the run of the law's def from the script alone says True -/
def lawB (xf : XF) : Bool := xf [.glob ""] (.mk 0 0 []) (fun d _ => isBL d true) (fun _ _ _ => false)
theorem glob_sp {B : Bs} {xf : XF} {H : Hp} {a : Addr} {ns : List Int} (h : lawB xf = true) (hl : ns.length ≤ sizeLine) (hb : ∀ z ∈ ns, Builtin.Int.intBits z ≤ 1048576) (ht : LamX.Tabs B.T H) (hS : SqL B.K H a (ns.map V.int)) : SpF B xf [.ref a] H (fun v _ => v = .bl true) fun _ _ _ => False := by
  refine ⟨⟨fun _ => 0, fun _ => .non⟩, .mk 0 0 [], [.glob ""], _, _, ar_empty ht, ⟨_, [], rfl, ⟨a, ns, rfl, ?_, hl, hb⟩, rfl⟩, h, fun d m' s' H' v p a' r q => ?_, fun c p m' s' H' cls dd _ _ _ q => ff q⟩
  · rcases hS with (h | ⟨o, h⟩) | h
    · exact .inl ⟨h, fun ⟨i, o, e, _⟩ => by cases e⟩
    · exact .inr (.inl ⟨o, h⟩)
    · exact .inr (.inr fun H2 => .inr h)
  · have e := isBL_ok q
    subst e
    exact r
theorem law_F {L : Lw} (hk : kdlB L.kl = true) (htd : L.tf.all (fun x => L.dl.any fun p => strE p.1 x) = true) {l : PySem.W.OpenLaw} {n lv : Nat} {nm : Str} {xf : XF} (hn2 : n ≤ sizeLine) (hr : Room lv callerA) (hlaw : lawB xf = true)
    (F : ∀ (w : World) (K : PySem.W.Frag) (mg : Str → Option Value) (base : Heap), LF L (L.B hk l.prog w K mg base) → FnC (L.B hk l.prog w K mg base) true lv nm xf)
    (w : World) (mg : Str → Option Value) (fa : Addr) (h : Heap) (Y : L.hook.says w h) (G : h.Ns mainGlobals mg) (hm : mg nm = some (.ref fa)) :
    ∃ (K : PySem.W.Frag) (cs : List (Addr × Addr)), K.In h ∧ (∀ p ∈ cs, h.get? p.2 = some tabO) ∧ (∀ p ∈ cs, K.lookup p.2 = none) ∧ (∀ p ∈ cs, PySem.W.CodeHd h p.1 p.2) ∧
      ∀ base : Heap, K.In base → base.Ns mainGlobals mg → (∀ p ∈ cs, LamX.TabB base mg p.1 p.2) → ∃ sp, Goes l.prog w K mg base fa sp ∧ ∀ (H : Hp) (a : Addr) (ns : List Int), ns.length ≤ n → (∀ z ∈ ns, Builtin.Int.intBits z ≤ 1048576) → (∀ p ∈ cs, H p.2 = some (.tbl #[])) → SqL K H a (ns.map V.int) → sp [.ref a] H (fun v _ => v = .bl true) fun _ _ _ => False := by
  obtain ⟨K, X, c⟩ := Y
  have mem : ∀ p ∈ L.tD.map (He.cT K), ∃ q ∈ L.tD, He.cT K q = p := fun p hp => List.mem_map.mp hp
  refine ⟨K, L.tD.map (He.cT K), X, fun p hp => ?_, fun p hp => ?_, fun p hp => ?_, fun base b1 b2 b3 => ?_⟩
  · obtain ⟨q, hq, rfl⟩ := mem p hp
    exact c.empty q hq
  · obtain ⟨q, hq, rfl⟩ := mem p hp
    exact c.out q hq
  · obtain ⟨q, hq, rfl⟩ := mem p hp
    exact PySem.W.codeHd_of_K X (c.hd q hq)
  · have f := F w K mg base (L.facts hk htd X G c b3)
    obtain ⟨f0, hm0, _, run⟩ := f.ok
    have e : (some (Value.ref f0) : Option Value) = some (.ref fa) := hm0.symm.trans hm
    cases e
    refine ⟨SpF (L.B hk l.prog w K mg base) xf, fun s H us vs Q E e0 r hs => run callerA [] s H us vs Q E hr (fun _ => rfl) e0 r hs, fun H a ns hl hb ht hS => glob_sp hlaw (Nat.le_trans hl hn2) hb (fun p hp => ?_) hS⟩
    obtain ⟨x, hx, rfl⟩ := List.mem_map.mp hp
    exact LamX.TabS.nil (ht _ (List.mem_map_of_mem (List.mem_map_of_mem hx)))
end Ev
end
end

/-! part K00 -/
section
set_option Elab.async false
set_option linter.all false
set_option maxRecDepth 100000
set_option maxHeartbeats 0
noncomputable section
namespace Ev
open PySem PySem.Spec PyProof.Rows L2
def top (i : Nat) : Stmt := PySem.Challenge.pw_trueroom_k00_whole_errors_of_the_package.main.body.getD i (.Pass ⟨0, 0, 0, 0⟩)
theorem fn_draw {B : Bs} {f : Addr} {fd : FuncData} (F : FunD B.K "_law_dip" "_law_dip" (defArgs (top 25)) (defBody (top 25)) (defScope (top 25)) [] [] f fd) (hm : B.mg "_law_dip" = some (.ref f)) (hi : B.mg "int" = none) : FnC B false 1 "_law_dip" xDraw := by
  have S : FnScope ["jar", "many", "found", "one", "two"] ["jar", "many"] (defScope (top 25)) := scB_ok (by decide +kernel)
  refine fn_hand (k := 0) (N := ["jar", "many", "found", "one", "two"]) (ps := ["jar", "many"]) (t := tDraw B.K 67867967 2305843009213693951 109 2305843009213693921 5999993 65537) F hm S (fun kV doc pm an cdv ct us hu => bind_plain hu (by decide +kernel)) (fun vs H Q E h => ?_) (fun X E C => ?_) (fun vs H Q E h => ?_)
  · obtain ⟨a, n, x, y, z, e, _⟩ := draw_sp h
    rw [e]
    rfl
  · have hN := C.N
    have hs : X.env.scope = defScope (top 25) := C.sc
    have nd : X.N.Nodup := by rw [hN]; exact C.nd
    have ix : IxR X (rIx B.K) := by rw [← C.K]; exact ix_seq
    have lc : ∀ x, kL (lkS (defScope (top 25)).names x) = true → X.env.scope.names.lookup x = some .local := fun x h => by rw [hs]; exact lkL h
    have v : ∀ (i : Nat) (x : Str) (p : Pos), (["jar", "many", "found", "one", "two"] : List Str)[i]? = some x → kL (lkS (defScope (top 25)).names x) = true → notD x = true → PE X (.Name x p) (tVar i) := fun i x p h1 h2 h3 =>
      pe_var (by rw [hN]; exact h1) (.inl (lc x h2)) (notD_ok h3).1 (notD_ok h3).2.1
    have hg : Gl X "int" := by
      show X.env.scope.names.lookup _ = _
      rw [hs]
      decide +kernel
    have st : ∀ (i : Nat) (x : Str), (["jar", "many", "found", "one", "two"] : List Str)[i]? = some x → X.N[i]? = some x := fun i x h => by rw [hN]; exact h
    have bg : ∀ p, PE X (.Name "jar" p) (tVar 0) := fun p => v 0 _ p rfl (by decide +kernel) (by decide +kernel)
    have mn : ∀ p, PE X (.Name "many" p) (tVar 1) := fun p => v 1 _ p rfl (by decide +kernel) (by decide +kernel)
    have fo : ∀ p, PE X (.Name "found" p) (tVar 2) := fun p => v 2 _ p rfl (by decide +kernel) (by decide +kernel)
    have on : ∀ p, PE X (.Name "one" p) (tVar 3) := fun p => v 3 _ p rfl (by decide +kernel) (by decide +kernel)
    have tw : ∀ p, PE X (.Name "two" p) (tVar 4) := fun p => v 4 _ p rfl (by decide +kernel) (by decide +kernel)
    have bi : ∀ (j : Int) (p1 p2 p3 : Pos) (k : Nat), PE X (.Subscript (.Name "jar" p1) (.Constant (.int j) k p2) p3) (bx B.K j) := fun j p1 p2 p3 k => pe_ix ix (bg p1) pe_int (ix_plain rfl)
    have gi : ∀ (j : Int) (p1 p2 p3 : Pos) (k : Nat), PG X (.Subscript (.Name "jar" p1) (.Constant (.int j) k p2) p3) (gSub (tVar 0) (tC (.int j)) rSetL) := fun j p1 p2 p3 k => pg_sub (bg p1) pe_int set_list
    have ic : ∀ (e : Expr) (t : TE) (p1 p2 : Pos), isStar e = false → PE X e t → PE X (.Call (.Name "int" p1) [e] [] p2) (tI t) := fun e t p1 p2 hs h =>
      pe_callTy (r := rInt) call_int1 hg (by rw [C.mg]; exact hi) rfl (pa_cons h pa_nil (star_no hs)) (by decide) (by decide) (star_no hs) rfl
    exact pss_cons (ps_if (pt_cmp (pc_gt (bi _ _ _ _ _) pe_int)) (pss_cons (ps_set nd (st 2 _ rfl) (.inl (lc _ (by decide +kernel))) (pe_op op_modN (ic _ _ _ _ rfl (bi _ _ _ _ _)) (mn _)) rfl (.inr (lc _ (by decide +kernel)))) (pss_cons (ps_asg (pe_op op_fdivX (bi _ _ _ _ _) (mn _)) (gi _ _ _ _ _) rfl rfl rfl) (pss_one (ps_ret (fo _))))) pss_nil)
      (pss_cons (ps_asg (pe_op op_add (bi _ _ _ _ _) pe_int) (gi _ _ _ _ _) rfl rfl rfl)
      (pss_cons (ps_set nd (st 3 _ rfl) (.inl (lc _ (by decide +kernel))) (pe_op op_modN (ic _ _ _ _ rfl (pe_op op_add (bi _ _ _ _ _) (pe_op op_mul pe_int (bi _ _ _ _ _)))) pe_int) rfl (.inr (lc _ (by decide +kernel))))
      (pss_cons (ps_set nd (st 4 _ rfl) (.inl (lc _ (by decide +kernel))) (pe_op op_add (pe_op op_mul (pe_op op_modN (ic _ _ _ _ rfl (pe_op op_add (pe_op op_mul (on _) (on _)) (pe_op op_mul pe_int (bi _ _ _ _ _)))) pe_int) pe_int) (on _)) rfl (.inr (lc _ (by decide +kernel))))
      (pss_one (ps_ret (pe_op op_modN (ic _ _ _ _ rfl (pe_op op_fdivX (tw _) pe_int)) (mn _)))))))
  · obtain ⟨a, n, x, y, z, e, hH, h1, h2, hq⟩ := draw_sp h
    rw [e]
    exact draw_pure (by decide) (by decide) (by decide) (by decide) (by decide) ⟨by decide, by decide +kernel⟩ hH h1 h2 hq
theorem fn_bag {B : Bs} {f : Addr} {fd : FuncData} (F : FunD B.K "_law_jar" "_law_jar" (defArgs (top 24)) (defBody (top 24)) (defScope (top 24)) [] [] f fd) (hm : B.mg "_law_jar" = some (.ref f)) (hi : B.mg "int" = none) (hl : B.mg "len" = none) (ha : B.mg "abs" = none) (hx : B.mg "max" = none) : FnC B false 1 "_law_jar" xBag := by
  have S : FnScope ["script", "spot", "cell", "great"] ["script", "spot"] (defScope (top 24)) := scB_ok (by decide +kernel)
  refine fn_hand (k := 0) (N := ["script", "spot", "cell", "great"]) (ps := ["script", "spot"]) (t := tBag B.K 113 59 10 17 10 58 10 59 1152921504606847009 103 1013 71 13) F hm S (fun kV doc pm an cdv ct us hu => bind_plain hu (by decide +kernel)) (fun vs H Q E h => ?_) (fun X E C => ?_) (fun vs H Q E h => ?_)
  · obtain ⟨a, ns, n, e, _⟩ := bag_sp h
    rw [e]
    rfl
  · have hN := C.N
    have hs : X.env.scope = defScope (top 24) := C.sc
    have nd : X.N.Nodup := by rw [hN]; exact C.nd
    have ix : IxR X (rIx B.K) := by rw [← C.K]; exact ix_seq
    have lc : ∀ x, kL (lkS (defScope (top 24)).names x) = true → X.env.scope.names.lookup x = some .local := fun x h => by rw [hs]; exact lkL h
    have v : ∀ (i : Nat) (x : Str) (p : Pos), (["script", "spot", "cell", "great"] : List Str)[i]? = some x → kL (lkS (defScope (top 24)).names x) = true → notD x = true → PE X (.Name x p) (tVar i) := fun i x p h1 h2 h3 =>
      pe_var (by rw [hN]; exact h1) (.inl (lc x h2)) (notD_ok h3).1 (notD_ok h3).2.1
    have gl : ∀ x, kG (lkS (defScope (top 24)).names x) = true → Gl X x := fun x h => by
      show X.env.scope.names.lookup _ = _
      rw [hs, ← lkS_eq]
      exact kG_ok h
    have st : ∀ (i : Nat) (x : Str), (["script", "spot", "cell", "great"] : List Str)[i]? = some x → X.N[i]? = some x := fun i x h => by rw [hN]; exact h
    have sc : ∀ p, PE X (.Name "script" p) (tVar 0) := fun p => v 0 _ p rfl (by decide +kernel) (by decide +kernel)
    have sp : ∀ p, PE X (.Name "spot" p) (tVar 1) := fun p => v 1 _ p rfl (by decide +kernel) (by decide +kernel)
    have ce : ∀ p, PE X (.Name "cell" p) (tVar 2) := fun p => v 2 _ p rfl (by decide +kernel) (by decide +kernel)
    have gr : ∀ p, PE X (.Name "great" p) (tVar 3) := fun p => v 3 _ p rfl (by decide +kernel) (by decide +kernel)
    have ic : ∀ (e : Expr) (t : TE) (p1 p2 : Pos), isStar e = false → PE X e t → PE X (.Call (.Name "int" p1) [e] [] p2) (tI t) := fun e t p1 p2 hs h =>
      pe_callTy (r := rInt) call_int1 (gl _ (by decide +kernel)) (by rw [C.mg]; exact hi) rfl (pa_cons h pa_nil (star_no hs)) (by decide) (by decide) (star_no hs) rfl
    have ac : ∀ (e : Expr) (t : TE) (p1 p2 : Pos), isStar e = false → PE X e t → PE X (.Call (.Name "abs" p1) [e] [] p2) (tAb t) := fun e t p1 p2 hs h =>
      pe_callB (r := rAbs) call_abs (gl _ (by decide +kernel)) (by rw [C.mg]; exact ha) rfl (pa_cons h pa_nil (star_no hs)) (by decide) (by decide) (star_no hs) rfl
    have lk : CallR X (.builtin "len") (rLenK B.K) := by rw [← C.K]; exact call_len
    have lc2 : ∀ (e : Expr) (t : TE) (p1 p2 : Pos), isStar e = false → PE X e t → PE X (.Call (.Name "len" p1) [e] [] p2) (tLn B.K t) := fun e t p1 p2 hs h =>
      pe_callB (r := rLenK B.K) lk (gl _ (by decide +kernel)) (by rw [C.mg]; exact hl) rfl (pa_cons h pa_nil (star_no hs)) (by decide) (by decide) (star_no hs) rfl
    have mc : ∀ (e e2 : Expr) (t t2 : TE) (p1 p2 : Pos), isStar e = false → isStar e2 = false → PE X e t → PE X e2 t2 → PE X (.Call (.Name "max" p1) [e, e2] [] p2) (tMx t t2) := fun e e2 t t2 p1 p2 hs hs2 h h2 =>
      pe_callB (r := rMax) (call_max2 C.calm) (gl _ (by decide +kernel)) (by rw [C.mg]; exact hx) rfl (pa_cons h (pa_cons h2 pa_nil (star_no hs2)) (star_no hs)) (by decide) (by decide) (star_no hs) (by rw [star_no hs2]; rfl)
    exact pss_cons (ps_set nd (st 2 _ rfl) (.inl (lc _ (by decide +kernel))) (pe_ifExp (pt_cmp (pc_lt (sp _) (lc2 _ _ _ _ rfl (sc _)))) (ic _ _ _ _ rfl (pe_ix ix (sc _) (sp _) (ix_plain rfl))) (pe_op op_add (pe_op op_mul pe_int (sp _)) pe_int)) rfl (.inr (lc _ (by decide +kernel))))
      (pss_cons (ps_set nd (st 3 _ rfl) (.inl (lc _ (by decide +kernel))) (pe_op op_modN (mc _ _ _ _ _ _ rfl rfl pe_int (pe_op op_sub (ac _ _ _ _ rfl (ce _)) (pe_op op_pow pe_int pe_int))) (pe_op op_mulW (pe_op op_pow pe_int pe_int) (pe_op op_pow pe_int pe_int))) rfl (.inr (lc _ (by decide +kernel))))
      (pss_one (ps_ret (pe_lst (pa_cons (gr _) (pa_cons (pe_op op_add (pe_op op_add (pe_op op_add (pe_op op_mul (pe_op op_modN (ac _ _ _ _ rfl (ce _)) pe_int) pe_int) (pe_op op_mul pe_int (sp _))) (pe_op op_mul pe_int (ic _ _ _ _ rfl (pe_cmp (pc_lt (ce _) pe_int))))) pe_int) (pa_cons pe_int pa_nil)))))))
  · obtain ⟨a, ns, n, e, hH, h1, hq⟩ := bag_sp h
    rw [e]
    exact bag_pure (by decide) ⟨by decide, by decide, by decide⟩ ⟨by decide, by decide, by decide⟩ ⟨by decide, by decide, by decide⟩ (mulC (by decide +kernel)) (by decide +kernel) (by decide) (by decide) (by decide) (by decide) hH hq
def lw : Lw where
  top := top
  dl := [(("_law_jar" : Str), 24), (("_law_dip" : Str), 25), (("_law_flags" : Str), 26), (("_law_made" : Str), 27), (("_law_right" : Str), 28), (("law" : Str), 29)]
  tf := []
  cl := ["RoomError", "InvalidPoint", "InvalidLine", "InvalidPiece", "InvalidRing", "InvalidWeb", "InvalidLot", "InvalidRegion", "InvalidRoad", "InvalidBody", "InvalidScene", "InvalidMove", "InvalidReport", "InvalidClaim", "InvalidText", "InvalidOperation", "ParseError", "InvalidNumber", "UnknownName", "NothingToUndo", "TooMany", "Refused"]
  fl := ["", "", "", "", "", "", "", "", "", "", "", "", "", "", "", "", "spot", "given", "wanted", "done", "limit", "reason"]
  gt := []
  bl := ["ArithmeticError", "IndexError", "KeyError", "LookupError", "OverflowError", "ValueError", "abs", "enumerate", "int", "isinstance", "len", "max", "min", "range", "repr", "super"]
  kl := []
  el := [(0, false), (0, false), (0, false), (0, false), (0, false), (0, false), (0, false), (0, false), (0, false), (0, false), (0, false), (0, false), (0, false), (0, false), (0, false), (0, false), (0, true), (1, true), (5, true), (5, true), (2, true), (3, true)]
  kt := []
  file := PySem.Challenge.pw_trueroom_k00_whole_errors_of_the_package.main.file
  nx := true
  sys := true
  ix := [(("InvalidPiece" : Str), [false, false, false, true, false, false, false, false, false, false, false, false, false, false, false, false, false, false, false, false, false, false]), (("InvalidLine" : Str), [false, false, true, false, false, false, false, false, false, false, false, false, false, false, false, false, false, false, false, false, false, false]), (("InvalidPoint" : Str), [false, true, false, false, false, false, false, false, false, false, false, false, false, false, false, false, false, false, false, false, false, false]), (("RoomError" : Str), [true, true, true, true, true, true, true, true, true, true, true, true, true, true, true, true, true, false, false, false, false, false]), (("InvalidRegion" : Str), [false, false, false, false, false, false, false, true, false, false, false, false, false, false, false, false, false, false, false, false, false, false]), (("InvalidLot" : Str), [false, false, false, false, false, false, true, false, false, false, false, false, false, false, false, false, false, false, false, false, false, false]), (("InvalidWeb" : Str), [false, false, false, false, false, true, false, false, false, false, false, false, false, false, false, false, false, false, false, false, false, false]), (("InvalidRing" : Str), [false, false, false, false, true, false, false, false, false, false, false, false, false, false, false, false, false, false, false, false, false, false]), (("InvalidMove" : Str), [false, false, false, false, false, false, false, false, false, false, false, true, false, false, false, false, false, false, false, false, false, false]), (("InvalidScene" : Str), [false, false, false, false, false, false, false, false, false, false, true, false, false, false, false, false, false, false, false, false, false, false]), (("InvalidBody" : Str), [false, false, false, false, false, false, false, false, false, true, false, false, false, false, false, false, false, false, false, false, false, false]), (("InvalidRoad" : Str), [false, false, false, false, false, false, false, false, true, false, false, false, false, false, false, false, false, false, false, false, false, false]), (("InvalidOperation" : Str), [false, false, false, false, false, false, false, false, false, false, false, false, false, false, false, true, false, false, false, false, false, false]), (("InvalidText" : Str), [false, false, false, false, false, false, false, false, false, false, false, false, false, false, true, false, false, false, false, false, false, false]), (("InvalidClaim" : Str), [false, false, false, false, false, false, false, false, false, false, false, false, false, true, false, false, false, false, false, false, false, false]), (("InvalidReport" : Str), [false, false, false, false, false, false, false, false, false, false, false, false, true, false, false, false, false, false, false, false, false, false]), (("NothingToUndo" : Str), [false, false, false, false, false, false, false, false, false, false, false, false, false, false, false, false, false, false, false, true, false, false]), (("UnknownName" : Str), [false, false, false, false, false, false, false, false, false, false, false, false, false, false, false, false, false, false, true, false, false, false]), (("InvalidNumber" : Str), [false, false, false, false, false, false, false, false, false, false, false, false, false, false, false, false, false, true, false, false, false, false]), (("ParseError" : Str), [false, false, false, false, false, false, false, false, false, false, false, false, false, false, false, false, true, false, false, false, false, false]), (("IndexError" : Str), [false, false, false, false, false, false, false, false, false, false, false, false, false, false, false, false, false, true, false, false, false, false]), (("ValueError" : Str), [true, true, true, true, true, true, true, true, true, true, true, true, true, true, true, true, true, false, false, false, false, false]), (("Refused" : Str), [false, false, false, false, false, false, false, false, false, false, false, false, false, false, false, false, false, false, false, false, false, true]), (("TooMany" : Str), [false, false, false, false, false, false, false, false, false, false, false, false, false, false, false, false, false, false, false, false, true, false]), (("KeyError" : Str), [false, false, false, false, false, false, false, false, false, false, false, false, false, false, false, false, false, false, false, false, false, false]), (("ArithmeticError" : Str), [false, false, false, false, false, false, false, false, false, false, false, false, false, false, false, false, false, false, false, false, true, true]), (("OverflowError" : Str), [false, false, false, false, false, false, false, false, false, false, false, false, false, false, false, false, false, false, false, false, true, false]), (("LookupError" : Str), [false, false, false, false, false, false, false, false, false, false, false, false, false, false, false, false, false, true, true, true, false, false])]
  ki := [1000000000, 1000000000, 1000000000]
def mcs : List (Nat × HK) := []
def mff : HK := .p
def xf0 : XF := xBag
def xf1 : XF := xDrawJ 3 1000000000
def ir2 : ISs := .cons (.set 1 (.lsf (.cons (.isx 3 (.var 0)) (.cons (.isx 2 (.var 0)) (.cons (.isx 1 (.var 0)) (.cons (.isx 0 (.var 0)) (.nil))))))) (.cons (.set 1 (.adf (.var 1) (.lsf (.cons (.isx 7 (.var 0)) (.cons (.isx 6 (.var 0)) (.cons (.isx 5 (.var 0)) (.cons (.isx 4 (.var 0)) (.nil)))))))) (.cons (.set 1 (.adf (.var 1) (.lsf (.cons (.isx 11 (.var 0)) (.cons (.isx 10 (.var 0)) (.cons (.isx 9 (.var 0)) (.cons (.isx 8 (.var 0)) (.nil)))))))) (.cons (.set 1 (.adf (.var 1) (.lsf (.cons (.isx 15 (.var 0)) (.cons (.isx 14 (.var 0)) (.cons (.isx 13 (.var 0)) (.cons (.isx 12 (.var 0)) (.nil)))))))) (.cons (.set 1 (.adf (.var 1) (.lsf (.cons (.isx 19 (.var 0)) (.cons (.isx 18 (.var 0)) (.cons (.isx 17 (.var 0)) (.cons (.isx 16 (.var 0)) (.nil)))))))) (.cons (.set 1 (.adf (.var 1) (.lsf (.cons (.isx 23 (.var 0)) (.cons (.isx 22 (.var 0)) (.cons (.isx 21 (.var 0)) (.cons (.isx 20 (.var 0)) (.nil)))))))) (.one (.ret (.adf (.var 1) (.lsf (.cons (.isx 27 (.var 0)) (.cons (.isx 26 (.var 0)) (.cons (.isx 25 (.var 0)) (.cons (.isx 24 (.var 0)) (.nil))))))))))))))
def b2 : XS := sSeq (sSet 1 (xLsF (aCons (xIsx [true, true, true, true, true, true, true, true, true, true, true, true, true, true, true, true, true, false, false, false, false, false] (xV 0)) (aCons (xIsx [false, true, false, false, false, false, false, false, false, false, false, false, false, false, false, false, false, false, false, false, false, false] (xV 0)) (aCons (xIsx [false, false, true, false, false, false, false, false, false, false, false, false, false, false, false, false, false, false, false, false, false, false] (xV 0)) (aCons (xIsx [false, false, false, true, false, false, false, false, false, false, false, false, false, false, false, false, false, false, false, false, false, false] (xV 0)) (aNil))))))) (sSeq (sSet 1 (xAdF (xV 1) (xLsF (aCons (xIsx [false, false, false, false, true, false, false, false, false, false, false, false, false, false, false, false, false, false, false, false, false, false] (xV 0)) (aCons (xIsx [false, false, false, false, false, true, false, false, false, false, false, false, false, false, false, false, false, false, false, false, false, false] (xV 0)) (aCons (xIsx [false, false, false, false, false, false, true, false, false, false, false, false, false, false, false, false, false, false, false, false, false, false] (xV 0)) (aCons (xIsx [false, false, false, false, false, false, false, true, false, false, false, false, false, false, false, false, false, false, false, false, false, false] (xV 0)) (aNil)))))))) (sSeq (sSet 1 (xAdF (xV 1) (xLsF (aCons (xIsx [false, false, false, false, false, false, false, false, true, false, false, false, false, false, false, false, false, false, false, false, false, false] (xV 0)) (aCons (xIsx [false, false, false, false, false, false, false, false, false, true, false, false, false, false, false, false, false, false, false, false, false, false] (xV 0)) (aCons (xIsx [false, false, false, false, false, false, false, false, false, false, true, false, false, false, false, false, false, false, false, false, false, false] (xV 0)) (aCons (xIsx [false, false, false, false, false, false, false, false, false, false, false, true, false, false, false, false, false, false, false, false, false, false] (xV 0)) (aNil)))))))) (sSeq (sSet 1 (xAdF (xV 1) (xLsF (aCons (xIsx [false, false, false, false, false, false, false, false, false, false, false, false, true, false, false, false, false, false, false, false, false, false] (xV 0)) (aCons (xIsx [false, false, false, false, false, false, false, false, false, false, false, false, false, true, false, false, false, false, false, false, false, false] (xV 0)) (aCons (xIsx [false, false, false, false, false, false, false, false, false, false, false, false, false, false, true, false, false, false, false, false, false, false] (xV 0)) (aCons (xIsx [false, false, false, false, false, false, false, false, false, false, false, false, false, false, false, true, false, false, false, false, false, false] (xV 0)) (aNil)))))))) (sSeq (sSet 1 (xAdF (xV 1) (xLsF (aCons (xIsx [false, false, false, false, false, false, false, false, false, false, false, false, false, false, false, false, true, false, false, false, false, false] (xV 0)) (aCons (xIsx [false, false, false, false, false, false, false, false, false, false, false, false, false, false, false, false, false, true, false, false, false, false] (xV 0)) (aCons (xIsx [false, false, false, false, false, false, false, false, false, false, false, false, false, false, false, false, false, false, true, false, false, false] (xV 0)) (aCons (xIsx [false, false, false, false, false, false, false, false, false, false, false, false, false, false, false, false, false, false, false, true, false, false] (xV 0)) (aNil)))))))) (sSeq (sSet 1 (xAdF (xV 1) (xLsF (aCons (xIsx [false, false, false, false, false, false, false, false, false, false, false, false, false, false, false, false, false, false, false, false, true, false] (xV 0)) (aCons (xIsx [false, false, false, false, false, false, false, false, false, false, false, false, false, false, false, false, false, false, false, false, false, true] (xV 0)) (aCons (xIsx [true, true, true, true, true, true, true, true, true, true, true, true, true, true, true, true, true, false, false, false, false, false] (xV 0)) (aCons (xIsx [false, false, false, false, false, false, false, false, false, false, false, false, false, false, false, false, false, true, false, false, false, false] (xV 0)) (aNil)))))))) (sRet (xAdF (xV 1) (xLsF (aCons (xIsx [false, false, false, false, false, false, false, false, false, false, false, false, false, false, false, false, false, true, true, true, false, false] (xV 0)) (aCons (xIsx [false, false, false, false, false, false, false, false, false, false, false, false, false, false, false, false, false, false, false, false, true, false] (xV 0)) (aCons (xIsx [false, false, false, false, false, false, false, false, false, false, false, false, false, false, false, false, false, false, false, false, true, true] (xV 0)) (aCons (xIsx [false, false, false, false, false, false, false, false, false, false, false, false, false, false, false, false, false, false, false, false, false, false] (xV 0)) (aNil)))))))))))))
def xf2 : XF := xDef 1 1 true b2
def ir3 : ISs := .cons (.set 1 (.lsf (.cons (.exn 0 (.var 0)) (.cons (.exn 1 (.var 0)) (.cons (.exn 2 (.var 0)) (.cons (.exn 3 (.var 0)) (.cons (.exn 4 (.var 0)) (.cons (.exn 5 (.var 0)) (.cons (.exn 6 (.var 0)) (.nil)))))))))) (.cons (.set 1 (.adf (.var 1) (.lsf (.cons (.exn 7 (.var 0)) (.cons (.exn 8 (.var 0)) (.cons (.exn 9 (.var 0)) (.cons (.exn 10 (.var 0)) (.cons (.exn 11 (.var 0)) (.cons (.exn 12 (.var 0)) (.nil)))))))))) (.cons (.set 1 (.adf (.var 1) (.lsf (.cons (.exn 13 (.var 0)) (.cons (.exn 14 (.var 0)) (.cons (.exn 15 (.var 0)) (.cons (.exn 16 (.var 0)) (.nil)))))))) (.one (.ret (.adf (.var 1) (.lsf (.cons (.exn 17 (.var 0)) (.cons (.exn 18 (.var 0)) (.cons (.exn 19 (.var 0)) (.cons (.exn 20 (.var 0)) (.cons (.exn 21 (.var 0)) (.nil))))))))))))
def b3 : XS := sSeq (sSet 1 (xLsF (aCons (xExP 0 (xV 0)) (aCons (xExP 1 (xV 0)) (aCons (xExP 2 (xV 0)) (aCons (xExP 3 (xV 0)) (aCons (xExP 4 (xV 0)) (aCons (xExP 5 (xV 0)) (aCons (xExP 6 (xV 0)) (aNil)))))))))) (sSeq (sSet 1 (xAdF (xV 1) (xLsF (aCons (xExP 7 (xV 0)) (aCons (xExP 8 (xV 0)) (aCons (xExP 9 (xV 0)) (aCons (xExP 10 (xV 0)) (aCons (xExP 11 (xV 0)) (aCons (xExP 12 (xV 0)) (aNil)))))))))) (sSeq (sSet 1 (xAdF (xV 1) (xLsF (aCons (xExP 13 (xV 0)) (aCons (xExP 14 (xV 0)) (aCons (xExP 15 (xV 0)) (aCons (xExK 16 (xV 0)) (aNil)))))))) (sRet (xAdF (xV 1) (xLsF (aCons (xExK 17 (xV 0)) (aCons (xExK 18 (xV 0)) (aCons (xExK 19 (xV 0)) (aCons (xExK 20 (xV 0)) (aCons (xExK 21 (xV 0)) (aNil)))))))))))
def xf3 : XF := xDef 1 1 true b3
def ir4 : ISs := .cons (.par2 1 2 (.cons (.call 3 (.cons (.var 0) (.nil))) (.cons (.dsp [(.inl 17, (false, [23, 24])), (.inl 18, (false, [24])), (.inl 19, (false, [24])), (.inl 20, (false, [25, 26])), (.inl 21, (false, [26]))]) (.nil)))) (.cons (.for_ (.tp 2 (.cons (.nm 3) (.cons (.nm 4) (.nil)))) (.enum (.var 1)) (.cons (.set 6 (.adf (.lsf (.cons (.var 3) (.nil))) (.ite (.cmp .lt (.var 3) (.con (.int 17))) (.lsf (.cons (.con (.int 0)) (.cons (.con (.int 22)) (.nil)))) (.dg (.var 2) (.var 3))))) (.one (.iff (.eqr true (.call 2 (.cons (.var 4) (.nil))) (.lc (.rg1 (.con (.int 28))) (.nm 7) (.con (.bl true)) (.inn false (.var 7) (.var 6)) [("number", 7)] true)) (.one (.ret (.con (.bl false)))) (.nil))))) (.cons (.set 5 (.lsf (.cons (.fld "spot" (.ix (.var 1) (.con (.int 16)))) (.cons (.fld "given" (.ix (.var 1) (.con (.int 17)))) (.cons (.fld "wanted" (.ix (.var 1) (.con (.int 18)))) (.cons (.fld "done" (.ix (.var 1) (.con (.int 19)))) (.cons (.fld "limit" (.ix (.var 1) (.con (.int 20)))) (.cons (.fld "reason" (.ix (.var 1) (.con (.int 21)))) (.nil))))))))) (.one (.ret (.eqr false (.var 5) (.mul (.lsf (.cons (.var 0) (.nil))) (.con (.int 6))))))))
def b4 : XS := sSeq (sPar2 1 2 (aCons (xCall xf3 (aCons (xV 0) (aNil))) (aCons (xDsp [(.inl 17, (false, [23, 24])), (.inl 18, (false, [24])), (.inl 19, (false, [24])), (.inl 20, (false, [25, 26])), (.inl 21, (false, [26]))]) (aNil)))) (sSeq (sFor (iEn (xV 1)) (gTp 2 (gsCons (gNm 3) (gsCons (gNm 4) (gsNil)))) (sSeq (sSet 6 (xAdF (xLsF (aCons (xV 3) (aNil))) (xIte (xCmp .lt (xV 3) (xK (.int 17))) (xLsF (aCons (xK (.int 0)) (aCons (xK (.int 22)) (aNil)))) (xDg (xV 2) (xV 3))))) (sIf (xEqR true (xCall xf2 (aCons (xV 4) (aNil))) (xLc (iRg1 (xK (.int 28))) (gNm 7) (xK (.bl true)) (xIn false (xV 7) (xV 6)) [7] true)) (sRet (xK (.bl false))) (sSkip)))) (sSeq (sSet 5 (xLsF (aCons (xFld lw.fl "spot" (xIx (xV 1) (xK (.int 16)))) (aCons (xFld lw.fl "given" (xIx (xV 1) (xK (.int 17)))) (aCons (xFld lw.fl "wanted" (xIx (xV 1) (xK (.int 18)))) (aCons (xFld lw.fl "done" (xIx (xV 1) (xK (.int 19)))) (aCons (xFld lw.fl "limit" (xIx (xV 1) (xK (.int 20)))) (aCons (xFld lw.fl "reason" (xIx (xV 1) (xK (.int 21)))) (aNil))))))))) (sRet (xEqR false (xV 5) (xMul (xLsF (aCons (xV 0) (aNil))) (xK (.int 6)))))))
def xg4 : XF := xDef 1 7 true b4
def ta4_0 : List D := [(.int 0)]
def xg4_0 : XF := xTab ta4_0 (.bl true) xg4
def ta4_1 : List D := [(.int (-7))]
def xg4_1 : XF := xTab ta4_1 (.bl true) xg4_0
def ta4_2 : List D := [.non]
def xg4_2 : XF := xTab ta4_2 (.bl true) xg4_1
def ta4_3 : List D := [(.bl true)]
def xg4_3 : XF := xTab ta4_3 (.bl true) xg4_2
def ta4_4 : List D := [(.str "ab")]
def xg4_4 : XF := xTab ta4_4 (.bl true) xg4_3
def ta4_5 : List D := [(.tup [(.str "kind")])]
def xg4_5 : XF := xTab ta4_5 (.bl true) xg4_4
def ta4_6 : List D := [(.tup [(.int 0), (.int 3)])]
def xg4_6 : XF := xTab ta4_6 (.bl true) xg4_5
def ta4_7 : List D := [(.int 1000000000000000000000000000000000000000000000000000000000000)]
def xg4_7 : XF := xTab ta4_7 (.bl true) xg4_6
def ta4_8 : List D := [(.str "")]
def xf4 : XF := xTab ta4_8 (.bl true) xg4_7
def ir5 : ISs := .cons (.for_ (.nm 1) (.rg1 (.mml 0 3)) (.cons (.set 2 (.call 0 (.cons (.var 0) (.cons (.var 1) (.nil))))) (.cons (.set 3 (.lsf (.cons (.con (.int 0)) (.cons (.neg (.con (.int 7))) (.cons (.con .non) (.cons (.con (.bl true)) (.cons (.con (.str "ab")) (.cons (.tup (.cons (.con (.str "kind")) (.nil))) (.cons (.tup (.cons (.con (.int 0)) (.cons (.con (.int 3)) (.nil)))) (.cons (.lsf (.cons (.con (.int 1)) (.cons (.con (.str "x")) (.nil)))) (.cons (.dsp [(.inr "a", (true, [1, 2]))]) (.cons (.bin .pow (.con (.int 10)) (.con (.int 60))) (.cons (.con (.str "")) (.cons (.call 1 (.cons (.var 2) (.cons (.bin .pow (.con (.int 10)) (.con (.int 9))) (.nil)))) (.nil))))))))))))))) (.one (.iff (.eq true (.lc (.seq (.var 3)) (.nm 4) (.not_ (.call 4 (.cons (.var 4) (.nil)))) (.var 4) [("value", 4)] true) (.lsf (.nil))) (.one (.ret (.con (.bl false)))) (.nil)))))) (.one (.ret (.con (.bl true))))
def b5 : XS := sSeq (sFor (iRg1 (xMml 0 3)) (gNm 1) (sSeq (sSet 2 (xCall xf0 (aCons (xV 0) (aCons (xV 1) (aNil))))) (sSeq (sSet 3 (xLsF (aCons (xK (.int 0)) (aCons (xNeg (xK (.int 7))) (aCons (xK .non) (aCons (xK (.bl true)) (aCons (xK (.str "ab")) (aCons (xTupS (aCons (xK (.str "kind")) (aNil))) (aCons (xTupS (aCons (xK (.int 0)) (aCons (xK (.int 3)) (aNil)))) (aCons (xLsF (aCons (xK (.int 1)) (aCons (xK (.str "x")) (aNil)))) (aCons (xDsp [(.inr "a", (true, [1, 2]))]) (aCons (xBin .pow (xK (.int 10)) (xK (.int 60))) (aCons (xK (.str "")) (aCons (xCall xf1 (aCons (xV 2) (aCons (xBin .pow (xK (.int 10)) (xK (.int 9))) (aNil)))) (aNil))))))))))))))) (sIf (xEq true (xLc (iSeq (xV 3)) (gNm 4) (xNot (xCall xf4 (aCons (xV 4) (aNil)))) (xV 4) [4] true) (xLsF (aNil))) (sRet (xK (.bl false))) (sSkip))))) (sRet (xK (.bl true)))
def xf5 : XF := xDef 1 4 true b5
def tl : List XF := [xf0, xf1, xf2, xf3, xf4, xf5]
def tb : Tb where
  T := fun j => tl.getD j fun _ _ _ _ => false
  ft := [(("_law_jar" : Str), 1, false), (("_law_dip" : Str), 1, false), (("_law_flags" : Str), 1, false), (("_law_made" : Str), 2, false), (("_law_right" : Str), 3, true), (("law" : Str), 4, true)]
  gt := lw.gt
  bl := lw.bl
  mn := ""
  mz := 22
  mc := mcs
  mf := mff
  kt := lw.kt
  kl := lw.kl
  ix := lw.ix
  fl := lw.fl
  sys := true
  ec := [("RoomError", false), ("InvalidPoint", false), ("InvalidLine", false), ("InvalidPiece", false), ("InvalidRing", false), ("InvalidWeb", false), ("InvalidLot", false), ("InvalidRegion", false), ("InvalidRoad", false), ("InvalidBody", false), ("InvalidScene", false), ("InvalidMove", false), ("InvalidReport", false), ("InvalidClaim", false), ("InvalidText", false), ("InvalidOperation", false), ("ParseError", true), ("InvalidNumber", true), ("UnknownName", true), ("NothingToUndo", true), ("TooMany", true), ("Refused", true)]
theorem hk : kdlB lw.kl = true := by decide +kernel
theorem kd_mem {i j : Nat} (hi : i < 3) (hj : j < 1000000000) : D.int (j : Int) ∈ kdF lw i := by
  have : i = 0 ∨ i = 1 ∨ i = 2 := by omega
  rcases this with rfl | rfl | rfl <;> exact kdInts_mem (N := 1000000000) hj
section
variable {w : World} {K : PySem.W.Frag} {mg : Str → Option Value} {base : Heap}
abbrev BB (w : World) (K : PySem.W.Frag) (mg : Str → Option Value) (base : Heap) : Bs := lw.B hk PySem.Challenge.pw_trueroom_k00_whole_errors_of_the_package w K mg base
theorem f0 (F : LF lw (BB w K mg base)) : FnC (BB w K mg base) false 1 "_law_jar" xf0 := by
  obtain ⟨⟨fd, D⟩, m⟩ := F.df ("_law_jar", 24) (List.mem_of_getElem? (i := 0) rfl)
  exact fn_bag D m (F.bl "int" (List.mem_of_getElem? (i := 8) rfl)) (F.bl "len" (List.mem_of_getElem? (i := 10) rfl)) (F.bl "abs" (List.mem_of_getElem? (i := 6) rfl)) (F.bl "max" (List.mem_of_getElem? (i := 11) rfl))
theorem f1 (F : LF lw (BB w K mg base)) : FnC (BB w K mg base) false 1 "_law_dip" xf1 := by
  obtain ⟨⟨fd, D⟩, m⟩ := F.df ("_law_dip", 25) (List.mem_of_getElem? (i := 1) rfl)
  exact fn_J (fn_draw D m (F.bl "int" (List.mem_of_getElem? (i := 8) rfl))) (fun i hi j hj => kd_mem hi hj)
theorem d2 : denSs (tk 2 tb) ir2 = b2 := by kernel_rfl
theorem c2 : defB (tk 2 tb) ["error", "found"] 1 1 0 false false ir2 (top 26) = true := by decide +kernel
theorem f2 (F : LF lw (BB w K mg base)) (KT : TbOk (BB w K mg base) (tk 2 tb)) : FnC (BB w K mg base) false 1 "_law_flags" xf2 :=
  F.def_ KT (L := lw) (x := "_law_flags") (i := 26) (List.mem_of_getElem? (i := 2) rfl) true d2 c2 (fun z => ff z)
theorem d3 : denSs (tk 3 tb) ir3 = b3 := by kernel_rfl
theorem c3 : defB (tk 3 tb) ["given", "found"] 1 1 1 false false ir3 (top 27) = true := by decide +kernel
theorem f3 (F : LF lw (BB w K mg base)) (KT : TbOk (BB w K mg base) (tk 3 tb)) : FnC (BB w K mg base) false 2 "_law_made" xf3 :=
  F.def_ KT (L := lw) (x := "_law_made") (i := 27) (List.mem_of_getElem? (i := 3) rfl) true d3 c3 (fun z => ff z)
theorem d4 : denSs (tk 4 tb) ir4 = b4 := by kernel_rfl
theorem c4 : defB (tk 4 tb) ["given", "made", "further", "which", "error", "kept", "due", "number"] 1 7 2 true false ir4 (top 28) = true := by decide +kernel
theorem e4_0 : xg4 ta4_0 (.mk 0 0 []) (fun r _ => eqD r (.bl true)) (fun _ _ _ => false) = true := by decide +kernel
theorem e4_1 : xg4_0 ta4_1 (.mk 0 0 []) (fun r _ => eqD r (.bl true)) (fun _ _ _ => false) = true := by decide +kernel
theorem e4_2 : xg4_1 ta4_2 (.mk 0 0 []) (fun r _ => eqD r (.bl true)) (fun _ _ _ => false) = true := by decide +kernel
theorem e4_3 : xg4_2 ta4_3 (.mk 0 0 []) (fun r _ => eqD r (.bl true)) (fun _ _ _ => false) = true := by decide +kernel
theorem e4_4 : xg4_3 ta4_4 (.mk 0 0 []) (fun r _ => eqD r (.bl true)) (fun _ _ _ => false) = true := by decide +kernel
theorem e4_5 : xg4_4 ta4_5 (.mk 0 0 []) (fun r _ => eqD r (.bl true)) (fun _ _ _ => false) = true := by decide +kernel
theorem e4_6 : xg4_5 ta4_6 (.mk 0 0 []) (fun r _ => eqD r (.bl true)) (fun _ _ _ => false) = true := by decide +kernel
theorem e4_7 : xg4_6 ta4_7 (.mk 0 0 []) (fun r _ => eqD r (.bl true)) (fun _ _ _ => false) = true := by decide +kernel
theorem e4_8 : xg4_7 ta4_8 (.mk 0 0 []) (fun r _ => eqD r (.bl true)) (fun _ _ _ => false) = true := by decide +kernel
theorem f4 (F : LF lw (BB w K mg base)) (KT : TbOk (BB w K mg base) (tk 4 tb)) : FnC (BB w K mg base) true 3 "_law_right" xf4 :=
  fn_tab (fn_tab (fn_tab (fn_tab (fn_tab (fn_tab (fn_tab (fn_tab (fn_tab (F.def_ KT (L := lw) (x := "_law_right") (i := 28) (List.mem_of_getElem? (i := 4) rfl) true d4 c4 (fun z => ff z)) e4_0) e4_1) e4_2) e4_3) e4_4) e4_5) e4_6) e4_7) e4_8
theorem d5 : denSs (tk 5 tb) ir5 = b5 := by kernel_rfl
theorem c5 : defB (tk 5 tb) ["script", "spot", "jar", "values", "value"] 1 4 3 true false ir5 (top 29) = true := by decide +kernel
theorem f5 (F : LF lw (BB w K mg base)) (KT : TbOk (BB w K mg base) (tk 5 tb)) : FnC (BB w K mg base) true 4 "law" xf5 :=
  F.def_ KT (L := lw) (x := "law") (i := 29) (List.mem_of_getElem? (i := 5) rfl) true d5 c5 (fun z => ff z)
theorem topc : (PySem.Challenge.pw_trueroom_k00_whole_errors_of_the_package.main.scope.names.lookup ("super" : Str)).isSome = false := by decide +kernel
theorem tb0c : tb0B lw tb = true := by decide +kernel
theorem fall (F : LF lw (BB w K mg base)) : FnC (BB w K mg base) true 4 "law" xf5 := by
  have k0 : TbOk (BB w K mg base) (tk 0 tb) := tk_zero (tb0_ok F (fun _ => rfl) (fun _ => rfl) (.inl (F.bl "super" (List.mem_of_getElem? (i := 15) rfl))) rfl topc rfl rfl (fun i c h => absurd (show c ∈ ([] : List D) from h) (by simp)) rfl rfl rfl (.inr ⟨rfl, by decide +kernel⟩) (fun h => absurd rfl h) tb0c)
  have k1 : TbOk (BB w K mg base) (tk 1 tb) := tk_step (j := 0) k0 rfl (f0 F)
  have k2 : TbOk (BB w K mg base) (tk 2 tb) := tk_step (j := 1) k1 rfl (f1 F)
  have k3 : TbOk (BB w K mg base) (tk 3 tb) := tk_step (j := 2) k2 rfl (f2 F k2)
  have k4 : TbOk (BB w K mg base) (tk 4 tb) := tk_step (j := 3) k3 rfl (f3 F k3)
  have k5 : TbOk (BB w K mg base) (tk 5 tb) := tk_step (j := 4) k4 rfl (f4 F k4)
  have k6 : TbOk (BB w K mg base) (tk 6 tb) := tk_step (j := 5) k5 rfl (f5 F k5)
  exact (f5 F k5).up (Nat.le_refl _) (fun _ => rfl)
end
end Ev
end
end

/-! part Hd00 -/
section
set_option Elab.async false
set_option linter.all false
set_option maxRecDepth 100000
set_option maxHeartbeats 0
noncomputable section
namespace Ev
open PySem PySem.Spec PyProof.Rows L2
def lo0 : List PySem.Str := ["__name__", "RoomError", "InvalidPoint", "InvalidLine", "InvalidPiece", "InvalidRing", "InvalidWeb", "InvalidLot", "InvalidRegion", "InvalidRoad", "InvalidBody", "InvalidScene", "InvalidMove", "InvalidReport", "InvalidClaim", "InvalidText", "InvalidOperation", "ParseError", "InvalidNumber", "UnknownName", "NothingToUndo", "TooMany", "Refused", "_law_jar", "_law_dip"]
def lo1 : List PySem.Str := ["_law_flags", "_law_made", "_law_right"]
def loose : List PySem.Str := lo0 ++ lo1
abbrev R : PySem.W.OpenRow := PySem.W.OpenLaw.row PySem.Challenge.rw_trueroom_k00_whole_errors_of_the_package
abbrev qv : Program := PySem.W.view R.prog [29]
theorem run (w : World) : HandSHeadRun.RunEq R qv lw.hook lw.ob 100000 loose w := by
  intro os
  kernel_rfl
end Ev
end
end

/-! part Fin00 -/
section
set_option Elab.async false
set_option linter.all false
set_option maxRecDepth 100000
set_option maxHeartbeats 0
noncomputable section
namespace Ev
open PySem PySem.Spec PyProof.Rows L2
theorem lawE : lawB xf5 = true := by decide +kernel
theorem htd : lw.tf.all (fun x => lw.dl.any fun p => strE p.1 x) = true := by decide +kernel
end Ev
open PySem PySem.W PySem.Calls PyProof.Rows
theorem PySem.Challenge.cw_trueroom_k00_whole_errors_of_the_package_holds : PySem.Challenge.rw_trueroom_k00_whole_errors_of_the_package.Holds := by
  w_on; o_law
  refine HandSHeadRun.head_any (r := OpenLaw.row PySem.Challenge.rw_trueroom_k00_whole_errors_of_the_package) (q := Ev.qv) (H := Ev.lw.hook) (ob := Ev.lw.ob) (M := 100000) (loose := Ev.loose) (d := HandSHeadRun.topDef (OpenLaw.row PySem.Challenge.rw_trueroom_k00_whole_errors_of_the_package).prog 29) (kwd := []) Ev.lw.ob_eq
    (by kernel_rfl) (fun s => by kernel_rfl) Ev.run (by kernel_rfl) (by kernel_rfl) (by kernel_rfl) (by rfl) (by first | assumption | decide +kernel) (by decide +kernel) ⟨rfl, rfl, rfl, rfl, rfl, by decide +kernel⟩ ?hw ?hc
  case hw => w_witness2
  case hc =>
    refine Ev.walk_G (l := PySem.Challenge.rw_trueroom_k00_whole_errors_of_the_package) (n := 63) rfl (by decide) (by kernel_rfl) ?_
    intro w mg fa h Y G hm
    have e : (HandSHeadRun.topDef (OpenLaw.row PySem.Challenge.rw_trueroom_k00_whole_errors_of_the_package).prog 29).name = ("law" : PySem.Str) := by kernel_rfl
    rw [e] at hm
    exact Ev.law_F Ev.hk Ev.htd (l := PySem.Challenge.rw_trueroom_k00_whole_errors_of_the_package) (n := 63) (by decide) ⟨rfl, by decide, by decide⟩ Ev.lawE (fun w K mg base F => Ev.fall F) w mg fa h Y G hm
end
end
