import PyProof.Rows.All
import Wide.All
import OpenK.AllK
import Wide.FinOn
import PyProof.EqAt
import PyProof.EqKinds
import PyProof.TupleCall
import HandS.ForMost
import HandS.ForExc
import HandS.TupAny
import HandS.Lambda
import HandS.HeadHook1
import HandS.Deep
import HandS.IsInst
import HandS.Star
import HandS.NoneIn
import HandS.Style
import HandS.Flow
import HandS.CallSlots
import HandS.Nested
import HandS.Walk
import HandS.Iter
import HandS.RaiseMore
import HandS.Strs
import HandS.TupSets
import HandS.ExcValue
import HandS.ExcIs
import HandS.ExcField
import PyProof.ReprRoads
import PyProof.ReprReads
import HandS.Set
import HandS.SetKeys
import PyProof.FactsAll.dict
import PyProof.EnumMake
import PyProof.TupleIter
import KE.GoesMore
import HandS.TupMul
import HandS.SetBool
import HandS.SortKw
import PyProof.MinMaxWalk
import HandS.AnyAll
import HandS.IterVal
import HandS.JoinGen
import KE.KDictIter
import HandS.DictComp
import HandS.WordsDict
import HandS.ExcInit
import KE.KExcSuper
import KE.KExcIs
import HandS.HeadHook2
import HandS.HeadEnd
import HandS.Head2
import HandS.EndTab
import HandS.Defaults
import KE.KNestM
import HandS.EndBits
import PySem.Challenge.RW_manybuilds_k06_errors_made_and_bases
set_option Elab.async false
set_option linter.all false
set_option maxRecDepth 100000
set_option maxHeartbeats 4000000
namespace DL
open PySem PySem.Spec PyProof.Rows L2
structure ExT (o : Obj) : Prop where
  cls : o.cls = .type "tuple"
  dict : o.dict = none
def TupN (K : PySem.W.Frag) (G : Hp) (a : Addr) (xs : List V) : Prop :=
  (∃ o, ExT o ∧ G a = some (.frz o (.tup xs))) ∨
    ∃ (o : Obj) (its : Array Value) (n : Nat), ExT o ∧ K.lookup a = some o ∧ o.data = .seq its n ∧ its.size ≤ sizeLine ∧ Vals xs its.toList
theorem TupN.sq {K : PySem.W.Frag} {G : Hp} {a : Addr} {xs : List V} (h : TupN K G a xs) : SqT K G a xs := by
  rcases h with ⟨o, _, h⟩ | ⟨o, its, n, e, h1, h2, h3, h4⟩
  · exact .inl (.inr ⟨o, h⟩)
  · exact .inr ⟨o, its, n, h1, e.cls, h2, h3, h4⟩
theorem TupN.sub {K : PySem.W.Frag} {G H : Hp} (h : ∀ a o, G a = some o → H a = some o) {a : Addr} {xs : List V} (s : TupN K G a xs) : TupN K H a xs := by
  rcases s with ⟨o, e, s⟩ | s
  · exact .inl ⟨o, e, h _ _ s⟩
  · exact .inr s
def NewT (H : Hp) (xs : List V) (Q : VK) : Prop := ∀ p o, ExT o → H p = none → Q (.ref p) (upd H p (.frz o (.tup xs)))
section
variable {X : Cx}
theorem laid_T {pins : List (Addr × Obj)} {σ : L2.St} {H : Hp} {s : Shared} {xs : List V} {its : List Value} {Q : VK} {h' : Heap} (I : Inv X pins σ H { s with heap := h' }) (r : Vals xs its) (hz : xs.length ≤ sizeLine) (q : NewT H xs Q) :
    EP X pins σ Q (.ref h'.objs.size) { s with heap := h'.push { cls := .type "tuple", data := .seq its.toArray } } := by
  have hf := I.hok.fresh (Nat.le_refl _)
  refine ⟨.ref h'.objs.size, upd H h'.objs.size (.frz { cls := .type "tuple", data := .seq its.toArray } (.tup xs)), I.laid (t' := s.toks) (fun b u e => Heap.get?_push_of_some _ e) (Nat.le_refl _) ?_, rfl, q _ { cls := .type "tuple", data := .seq its.toArray } ⟨rfl, rfl⟩ hf⟩
  exact ⟨Heap.get?_push_size _ rfl, hz, its, r, IsTup.new _ _⟩
def tTupN (t : TA) : TE := fun σ H Q => t σ H fun xs H1 => xs.length ≤ sizeLine ∧ NewT H1 xs Q
theorem pe_tupN {es : List Expr} {t : TA} {pos : Pos} {x1} (h : PA X es t) : PE X (.Tuple es x1 pos) (tTupN t) := by
  refine ⟨fun pins s σ H Q I hq => ?_⟩
  refine wpAny_Tuple_spliced (thn (h.run pos pins s σ H _ I hq) fun us s1 ⟨xs, H1, I1, r, z, q⟩ => ⟨by rw [← r.length]; exact z, ?_⟩)
  exact laid_T (h' := s1.heap) I1 r z q
def rCatN (K : PySem.W.Frag) : R2 := fun x y H Q => ∃ a b xs ys, x = .ref a ∧ y = .ref b ∧ SqT K H a xs ∧ SqT K H b ys ∧ xs.length + ys.length ≤ sizeLine ∧
  (xs = [] → Q (.ref b) H) ∧ (xs ≠ [] → ys = [] → Q (.ref a) H) ∧ (xs ≠ [] → ys ≠ [] → NewT H (xs ++ ys) Q)
theorem op_catN : OpR X (binaryOp .Add) (rCatN X.K) := by
  intro pins s σ H x y v u Q I rx ry h
  obtain ⟨a, b, xs, ys, rfl, rfl, ha, hb, hz, q0, q1, q2⟩ := h
  cases rx
  cases ry
  obtain ⟨its, r1, p1, _⟩ := I.tuple ha
  obtain ⟨its2, r2, p2, _⟩ := I.tuple hb
  by_cases hx : xs = []
  · subst hx
    cases r1
    exact cat_tup0 p1 p2 ⟨.ref b, H, I, rfl, q0 rfl⟩
  · refine HT.cat_tup p1 p2 (fun z => hx (r1.nil_iff.mp z)) (fun z => ⟨.ref a, H, I, rfl, q1 hx (r2.nil_iff.mp z)⟩) (fun z => ?_) (by rw [← r1.length, ← r2.length]; exact hz)
    exact laid_T (h' := s.heap) (s := s) I (r1.append r2) (by rw [List.length_append]; exact hz) (q2 hx fun w => z (r2.nil_iff.mpr w))
def Lk (Q : VK) : VK := fun v H => Q v H ∨ ∃ d u, v = .ref d ∧ H d = some u ∧ Mut (some u) ∧ ∀ od, Q v (upd H d (.frz od u))
theorem pe_lk {e : Expr} {t : TE} (h : PE X e t) : PE X e (fun σ H Q => t σ H (Lk Q)) := by
  refine ⟨fun pins s σ H Q I q => ?_⟩
  refine thn (h.run pins s σ H _ I q) fun u s1 ⟨x, H1, I1, r, q1⟩ => ?_
  rcases q1 with q1 | ⟨d, o, e1, h1, mu, q1⟩
  · exact ⟨x, H1, I1, r, q1⟩
  · obtain ⟨od, I2⟩ := I1.lock h1 mu
    exact ⟨x, _, I2, r, q1 od⟩
end
end DL
namespace DL
open PySem PySem.Spec PyProof.Rows L2
structure LamSpec where
  params : Arguments
  body : Expr
  scope : Scope
  qual : Str
  fr : List Str
  js : List Nat
class LT where
  lam : Nat → Option LamSpec
  tabs : PySem.W.Frag → List (Addr × Str)
class FrI where
  cells : List (Str × Addr)
  may : Nat → Prop
structure Cw where
  P : Program
  w : World
  K : PySem.W.Frag
  lam : Nat → Option LamSpec
  T : List (Addr × Str)
end DL
abbrev L2.Cx.cw [DL.LT] (X : L2.Cx) : DL.Cw := ⟨X.prog, X.w, X.K, DL.LT.lam, DL.LT.tabs X.K⟩
namespace DL
open PySem PySem.Spec PyProof.Rows L2
def LamO (f : Addr) (L : LamSpec) (cl : List (Str × Addr)) (c' : Addr) : HO := .ext fun h => ∃ pm ctv, h.get? f = some (PySem.W.kla_obj "<lambda>" L.qual L.params L.body L.scope cl pm c' ctv)
def CellO (c : Addr) (o : Obj) : HO := .ext fun h => h.get? c = some o
def ErrP (a : Addr) (cls : Value) (d : Option Addr) (h : Heap) : Prop := ∃ oe vs, h.get? a = some oe ∧ Zc cls d oe ∧ oe.data = .fields vs
inductive D where
  | non
  | bl (b : Bool)
  | int (i : Int)
  | str (s : Str)
  | tup (ds : List D)
  | lst (ds : List D)
  | dic (kvs : List (Key × D))
  | loc (n : Nat)
  | con (x : Str)
  | err (c : Str) (fs : List (Str × D))
  | fn (id : Nat) (cap : List D)
  | tmp (ds : List D)
  | kdic (kvs : List (Key × D))
inductive MO where
  | lst (ds : List D)
  | dic (kvs : List (Key × D))
  | lams (ids : List Nat)
inductive Slot where
  | un
  | val (d : D)
  | own (o : MO)
  | lam (id : Nat)
  | fnv (id : Nat) (cap : List D)
structure S where
  rho : List Slot
  st : List MO
structure DX where
  cls : Str
  fs : List (Str × D)
inductive Out (α : Type) where
  | ok (a : α) (s : S)
  | exc (x : DX) (s : S)
  | stuck
abbrev M (α : Type) := S → Out α
def M.pure {α : Type} (a : α) : M α := fun s => .ok a s
def M.bind {α β : Type} (m : M α) (f : α → M β) : M β := fun s => match m s with
  | .ok a s' => f a s'
  | .exc x s' => .exc x s'
  | .stuck => .stuck
instance : Monad M where
  pure := M.pure
  bind := M.bind
def stuck {α : Type} : M α := fun _ => .stuck
def ofO {α : Type} : Option α → M α
  | some a => M.pure a
  | none => stuck
structure Kp where
  G : Hp
  F : Hp
  al : Nat ⊕ Nat → Option Addr
  lam : Addr → Option Nat
structure Kp.le (k k' : Kp) : Prop where
  G : ∀ a o, k.G a = some o → k'.G a = some o
  F : k'.F = k.F
  al : ∀ n a, k.al (.inl n) = some a → k'.al (.inl n) = some a
  lam : ∀ f i, k.lam f = some i → k'.lam f = some i
theorem Kp.le.refl (k : Kp) : k.le k := ⟨fun _ _ h => h, rfl, fun _ _ h => h, fun _ _ h => h⟩
theorem Kp.le.trans {a b c : Kp} (h : a.le b) (g : b.le c) : a.le c := ⟨fun x o e => g.G x o (h.G x o e), g.F.trans h.F, fun n x e => g.al n x (h.al n x e), fun f i e => g.lam f i (h.lam f i e)⟩
section
variable (C : Cw)
def KWD (a : Addr) (kvs : List (Key × V)) : Prop := (∃ o, C.K.lookup a = some o ∧ o.cls = .type "dict") ∧ kvs.length ≤ sizeLine ∧ (a == sysModules) = false ∧ ∃ vs, KV kvs vs ∧ ∀ h : Heap, C.K.In h → h.DictOf (mixKind C.P C.w) a vs
def SqDr (H : Hp) (a : Addr) (kvs : List (Key × V)) : Prop := Rd H a (.dK kvs) ∨ KWD C a kvs
def SqD (H : Hp) (a : Addr) (kvs : List (Key × V)) : Prop := ∃ o, H a = some (.frz o (.dK kvs))
mutual
inductive VR (G : Hp) (al : Nat ⊕ Nat → Option Addr) : V → D → Prop
  | non : VR G al .non .non
  | bl (b : Bool) : VR G al (.bl b) (.bl b)
  | int (i : Int) : VR G al (.int i) (.int i)
  | str (x : Str) : VR G al (.str x) (.str x)
  | tup {a : Addr} {xs : List V} {ds : List D} : TupN C.K G a xs → VRs G al xs ds → VR G al (.ref a) (.tup ds)
  | tmp {a : Addr} {xs : List V} {ds : List D} : SqT C.K G a xs → VRs G al xs ds → VR G al (.ref a) (.tmp ds)
  | lst {a : Addr} {xs : List V} {ds : List D} : SqL C.K G a xs → VRs G al xs ds → VR G al (.ref a) (.lst ds)
  | dic {a : Addr} {xs : List (Key × V)} {ds : List (Key × D)} : SqD G a xs → VRk G al xs ds → VR G al (.ref a) (.dic ds)
  | kdic {a : Addr} {xs : List (Key × V)} {ds : List (Key × D)} : KWD C a xs → VRk G al xs ds → VR G al (.ref a) (.kdic ds)
  | loc {n : Nat} {a : Addr} : al (.inl n) = some a → VR G al (.ref a) (.loc n)
  | con {x : Str} : VR G al (.ref (He.ga C.K x)) (.con x)
  | err {a : Addr} {c : Str} {dx : Option Addr} {fs : List (Str × D)} {φ : Heap → Prop} : G a = some (.ext φ) → (∀ h, φ h → ErrP a (.ref (He.ga C.K c)) dx h) → VRx G al dx fs → VR G al (.ref a) (.err c fs)
inductive VRs (G : Hp) (al : Nat ⊕ Nat → Option Addr) : List V → List D → Prop
  | nil : VRs G al [] []
  | cons {v : V} {d : D} {vs : List V} {ds : List D} : VR G al v d → VRs G al vs ds → VRs G al (v :: vs) (d :: ds)
inductive VRx (G : Hp) (al : Nat ⊕ Nat → Option Addr) : Option Addr → List (Str × D) → Prop
  | nil : VRx G al none []
  | cons {d : Addr} {vs : List (Str × V)} {fs : List (Str × D)} : fs ≠ [] → G d = some (.xd vs) → vs.map (·.1) = fs.map (·.1) → VRs G al (vs.map (·.2)) (fs.map (·.2)) → VRx G al (some d) fs
inductive VRk (G : Hp) (al : Nat ⊕ Nat → Option Addr) : List (Key × V) → List (Key × D) → Prop
  | nil : VRk G al [] []
  | cons {k : Key} {v : V} {d : D} {vs : List (Key × V)} {ds : List (Key × D)} : VR G al v d → VRk G al vs ds → VRk G al ((k, v) :: vs) ((k, d) :: ds)
end
end
theorem SqT.sub {C : Cw} {G H : Hp} (h : ∀ a o, G a = some o → H a = some o) {a : Addr} {xs : List V} (s : SqT C.K G a xs) : SqT C.K H a xs := by
  rcases s with (s | ⟨o, s⟩) | s
  · exact .inl (.inl (h _ _ s))
  · exact .inl (.inr ⟨o, h _ _ s⟩)
  · exact .inr s
theorem SqL.sub {C : Cw} {G H : Hp} (h : ∀ a o, G a = some o → H a = some o) {a : Addr} {xs : List V} (s : SqL C.K G a xs) : SqL C.K H a xs := by
  rcases s with (s | ⟨o, s⟩) | s
  · exact .inl (.inl (h _ _ s))
  · exact .inl (.inr ⟨o, h _ _ s⟩)
  · exact .inr s
theorem SqD.rd {C : Cw} {H : Hp} {a : Addr} {xs : List (Key × V)} (s : SqD H a xs) : SqDr C H a xs := by
  obtain ⟨o, s⟩ := s
  exact .inl (.inr ⟨o, s⟩)
theorem SqD.sub {G H : Hp} (h : ∀ a o, G a = some o → H a = some o) {a : Addr} {xs : List (Key × V)} (s : SqD G a xs) : SqD H a xs := by
  obtain ⟨o, s⟩ := s
  exact ⟨o, h _ _ s⟩
section
variable {C : Cw} {G G' : Hp} {al al' : Nat ⊕ Nat → Option Addr}
mutual
theorem VR.mono (hG : ∀ a o, G a = some o → G' a = some o) (ha : ∀ n a, al (.inl n) = some a → al' (.inl n) = some a) : ∀ {v : V} {d : D}, VR C G al v d → VR C G' al' v d
  | _, _, .non => .non
  | _, _, .bl b => .bl b
  | _, _, .int i => .int i
  | _, _, .str x => .str x
  | _, _, .tup s r => .tup (TupN.sub hG s) (VRs.mono hG ha r)
  | _, _, .tmp s r => .tmp (SqT.sub hG s) (VRs.mono hG ha r)
  | _, _, .lst s r => .lst (SqL.sub hG s) (VRs.mono hG ha r)
  | _, _, .dic s r => .dic (SqD.sub hG s) (VRk.mono hG ha r)
  | _, _, .kdic s r => .kdic s (VRk.mono hG ha r)
  | _, _, .loc e => .loc (ha _ _ e)
  | _, _, .con => .con
  | _, _, .err e e2 r => .err (hG _ _ e) e2 (VRx.mono hG ha r)
theorem VRx.mono (hG : ∀ a o, G a = some o → G' a = some o) (ha : ∀ n a, al (.inl n) = some a → al' (.inl n) = some a) : ∀ {v : Option Addr} {d : List (Str × D)}, VRx C G al v d → VRx C G' al' v d
  | _, _, .nil => .nil
  | _, _, .cons e0 e1 e2 r => .cons e0 (hG _ _ e1) e2 (VRs.mono hG ha r)
theorem VRs.mono (hG : ∀ a o, G a = some o → G' a = some o) (ha : ∀ n a, al (.inl n) = some a → al' (.inl n) = some a) : ∀ {v : List V} {d : List D}, VRs C G al v d → VRs C G' al' v d
  | _, _, .nil => .nil
  | _, _, .cons h t => .cons (VR.mono hG ha h) (VRs.mono hG ha t)
theorem VRk.mono (hG : ∀ a o, G a = some o → G' a = some o) (ha : ∀ n a, al (.inl n) = some a → al' (.inl n) = some a) : ∀ {v : List (Key × V)} {d : List (Key × D)}, VRk C G al v d → VRk C G' al' v d
  | _, _, .nil => .nil
  | _, _, .cons h t => .cons (VR.mono hG ha h) (VRk.mono hG ha t)
end
end
theorem VR.up {C : Cw} {k k' : Kp} {v : V} {d : D} (h : VR C k.G k.al v d) (l : k.le k') : VR C k'.G k'.al v d := h.mono l.G l.al
theorem VRs.up {C : Cw} {k k' : Kp} {v : List V} {d : List D} (h : VRs C k.G k.al v d) (l : k.le k') : VRs C k'.G k'.al v d := h.mono l.G l.al
theorem VRs.len {C : Cw} {G : Hp} {al : Nat ⊕ Nat → Option Addr} : ∀ {vs : List V} {ds : List D}, VRs C G al vs ds → vs.length = ds.length
  | _, _, .nil => rfl
  | _, _, .cons _ t => by rw [List.length_cons, List.length_cons, VRs.len t]
theorem VRs.app {C : Cw} {G : Hp} {al : Nat ⊕ Nat → Option Addr} : ∀ {vs ws : List V} {ds es : List D}, VRs C G al vs ds → VRs C G al ws es → VRs C G al (vs ++ ws) (ds ++ es)
  | _, _, _, _, .nil, s => s
  | _, _, _, _, .cons h t, s => .cons h (VRs.app t s)
theorem VRs.at {C : Cw} {G : Hp} {al : Nat ⊕ Nat → Option Addr} : ∀ {vs : List V} {ds : List D} {i : Nat} {v : V}, VRs C G al vs ds → vs[i]? = some v → ∃ d, ds[i]? = some d ∧ VR C G al v d
  | _, _, _, _, .nil, e => by simp at e
  | _, _, 0, _, .cons h _, e => by simp at e; subst e; exact ⟨_, rfl, h⟩
  | _, _, i + 1, v, .cons _ t, e => by
    obtain ⟨d, h1, h2⟩ := VRs.at (i := i) (v := v) t (by simpa using e)
    exact ⟨d, by simpa using h1, h2⟩
theorem VRs.at' {C : Cw} {G : Hp} {al : Nat ⊕ Nat → Option Addr} : ∀ {vs : List V} {ds : List D} {i : Nat} {d : D}, VRs C G al vs ds → ds[i]? = some d → ∃ v, vs[i]? = some v ∧ VR C G al v d
  | _, _, _, _, .nil, e => by simp at e
  | _, _, 0, _, .cons h _, e => by simp at e; subst e; exact ⟨_, rfl, h⟩
  | _, _, i + 1, v, .cons _ t, e => by
    obtain ⟨d, h1, h2⟩ := VRs.at' (i := i) (d := v) t (by simpa using e)
    exact ⟨d, by simpa using h1, h2⟩
theorem VRs.take {C : Cw} {G : Hp} {al : Nat ⊕ Nat → Option Addr} : ∀ {vs : List V} {ds : List D} (n : Nat), VRs C G al vs ds → VRs C G al (vs.take n) (ds.take n)
  | _, _, 0, _ => .nil
  | _, _, _ + 1, .nil => .nil
  | _, _, n + 1, .cons h t => .cons h (VRs.take n t)
theorem VRs.drop {C : Cw} {G : Hp} {al : Nat ⊕ Nat → Option Addr} : ∀ {vs : List V} {ds : List D} (n : Nat), VRs C G al vs ds → VRs C G al (vs.drop n) (ds.drop n)
  | _, _, 0, r => r
  | _, _, _ + 1, .nil => .nil
  | _, _, n + 1, .cons _ t => VRs.drop n t
def ObR (C : Cw) (k : Kp) (H : Hp) (a : Addr) : MO → Prop
  | .lst ds => ∃ vs, H a = some (.lst vs) ∧ VRs C k.G k.al vs ds
  | .dic kvs => ∃ vs, H a = some (.dK vs) ∧ VRk C k.G k.al vs kvs
  | .lams ids => ∃ fs : List Addr, H a = some (.lst (fs.map V.ref)) ∧ fs.map k.lam = ids.map some
def S.ob (s : S) : Nat ⊕ Nat → Option MO
  | .inl n => match s.st[n]? with
    | some (.lst ds) => some (.lst ds)
    | some (.dic ds) => some (.dic ds)
    | _ => none
  | .inr i => match s.rho[i]? with
    | some (.own o) => some o
    | _ => none
def isX : HO → Prop
  | .ext _ => True
  | .tbl _ => True
  | _ => False
theorem isX_tbl (p : Array Value) : isX (.tbl p) := trivial
theorem isX_ext (p : Heap → Prop) : isX (.ext p) := trivial
structure FnvR (C : Cw) (k : Kp) (f : Addr) (id : Nat) (cap : List D) (L : LamSpec) (c' : Addr) (cl : List (Str × Addr)) (ws : List V) : Prop where
  spec : C.lam id = some L
  fo : k.F f = some (LamO f L cl c')
  co : k.G c' = some (LamX.CodeO c' L.qual)
  cells : ∀ y c, cl.lookup y = some c → ∃ o u, k.F c = some (CellO c o) ∧ o.data = .cell u
  inj : ∀ x y c, cl.lookup x = some c → cl.lookup y = some c → x = y
  at_ : ∀ (i : Nat) (y : Str), L.fr[i]? = some y → ∃ c o v u, cl.lookup y = some c ∧ ws[i]? = some v ∧ k.F c = some (CellO c o) ∧ o.data = .cell (some u) ∧ RelV v u
  len : ws.length = L.fr.length
  vals : VRs C k.G k.al ws cap
theorem FnvR.mono {C : Cw} {k k' : Kp} {f : Addr} {id : Nat} {cap : List D} {L : LamSpec} {c' : Addr} {cl : List (Str × Addr)} {ws : List V} (h : FnvR C k f id cap L c' cl ws) (hG : ∀ a o, k.G a = some o → k'.G a = some o) (ha : ∀ n a, k.al (.inl n) = some a → k'.al (.inl n) = some a) (hs : ∀ a o, isX o → k.F a = some o → k'.F a = some o) : FnvR C k' f id cap L c' cl ws :=
  ⟨h.spec, hs _ _ (isX_ext _) h.fo, hG _ _ h.co, fun y c e => by
    obtain ⟨o, u, q1, q2⟩ := h.cells y c e
    exact ⟨o, u, hs _ _ (isX_ext _) q1, q2⟩, h.inj, fun i y hy => by
    obtain ⟨c, o, v, u, q1, q2, q3, q4⟩ := h.at_ i y hy
    exact ⟨c, o, v, u, q1, q2, hs _ _ (isX_ext _) q3, q4⟩, h.len, h.vals.mono hG ha⟩
def SltR (C : Cw) (k : Kp) (i : Nat) (v : Option V) : Slot → Prop
  | .un => True
  | .val d => ∃ x, v = some x ∧ VR C k.G k.al x d
  | .own _ => ∃ a, v = some (.ref a) ∧ k.al (.inr i) = some a
  | .lam id => ∃ f, v = some (.ref f) ∧ k.lam f = some id
  | .fnv id cap => ∃ f L c' cl ws, v = some (.ref f) ∧ FnvR C k f id cap L c' cl ws
def ArgR (C : Cw) (k : Kp) (v : V) : D → Prop
  | .fn id cap => ∃ f L c' cl ws, v = .ref f ∧ FnvR C k f id cap L c' cl ws
  | d => VR C k.G k.al v d
def D.slot : D → Slot
  | .fn id cap => .fnv id cap
  | d => .val d
inductive ArgRs (C : Cw) (k : Kp) : List V → List D → Prop
  | nil : ArgRs C k [] []
  | cons {v : V} {d : D} {vs : List V} {ds : List D} : ArgR C k v d → ArgRs C k vs ds → ArgRs C k (v :: vs) (d :: ds)
theorem VR.arg {C : Cw} {k : Kp} {v : V} {d : D} (h : VR C k.G k.al v d) : ArgR C k v d := by
  cases d with
  | fn id cap => cases h
  | _ => exact h
theorem VRs.arg {C : Cw} {k : Kp} : ∀ {vs : List V} {ds : List D}, VRs C k.G k.al vs ds → ArgRs C k vs ds
  | _, _, .nil => .nil
  | _, _, .cons h t => .cons h.arg t.arg
theorem ArgR.mono {C : Cw} {k k' : Kp} {v : V} {d : D} (h : ArgR C k v d) (hG : ∀ a o, k.G a = some o → k'.G a = some o) (ha : ∀ n a, k.al (.inl n) = some a → k'.al (.inl n) = some a) (hs : ∀ a o, isX o → k.F a = some o → k'.F a = some o) : ArgR C k' v d := by
  cases d with
  | fn id cap =>
    obtain ⟨f, L, c', cl, ws, e, r⟩ := h
    exact ⟨f, L, c', cl, ws, e, r.mono hG ha hs⟩
  | _ => exact VR.mono (G := k.G) hG ha h
theorem ArgRs.mono {C : Cw} {k k' : Kp} (hG : ∀ a o, k.G a = some o → k'.G a = some o) (ha : ∀ n a, k.al (.inl n) = some a → k'.al (.inl n) = some a) (hs : ∀ a o, isX o → k.F a = some o → k'.F a = some o) : ∀ {v : List V} {d : List D}, ArgRs C k v d → ArgRs C k' v d
  | _, _, .nil => .nil
  | _, _, .cons h t => .cons (h.mono hG ha hs) (t.mono hG ha hs)
theorem ArgRs.len {C : Cw} {k : Kp} : ∀ {vs : List V} {ds : List D}, ArgRs C k vs ds → vs.length = ds.length
  | _, _, .nil => rfl
  | _, _, .cons _ t => by rw [List.length_cons, List.length_cons, t.len]
theorem ArgRs.at' {C : Cw} {k : Kp} : ∀ {vs : List V} {ds : List D} {i : Nat} {d : D}, ArgRs C k vs ds → ds[i]? = some d → ∃ v, vs[i]? = some v ∧ ArgR C k v d
  | _, _, _, _, .nil, e => by simp at e
  | _, _, 0, _, .cons h _, e => by simp at e; subst e; exact ⟨_, rfl, h⟩
  | _, _, i + 1, d, .cons _ t, e => by
    obtain ⟨v, h1, h2⟩ := ArgRs.at' (i := i) (d := d) t (by simpa using e)
    exact ⟨v, by simpa using h1, h2⟩
theorem ArgR.slot {C : Cw} {k : Kp} {i : Nat} {v : V} {d : D} (h : ArgR C k v d) : SltR C k i (some v) d.slot := by
  cases d with
  | fn id cap =>
    obtain ⟨f, L, c', cl, ws, e, r⟩ := h
    exact ⟨f, L, c', cl, ws, by rw [e], r⟩
  | _ => exact ⟨v, rfl, h⟩
theorem ObR_mut {C : Cw} {k : Kp} {H : Hp} {a : Addr} {o : MO} (h : ObR C k H a o) (u : HO) (e : H a = some u) : Mut (some u) := by
  cases o with
  | lst ds => obtain ⟨vs, q, _⟩ := h; rw [e] at q; cases q; trivial
  | dic ds => obtain ⟨vs, q, _⟩ := h; rw [e] at q; cases q; trivial
  | lams ds => obtain ⟨vs, q, _⟩ := h; rw [e] at q; cases q; trivial
def okU : Option HO → Prop
  | none => True
  | some o => ¬ isX o
variable [FrI]
structure XtF (fi : FrI) (C : Cw) (k : Kp) (H : Hp) : Prop where
  tabs : LamX.Tabs C.T H
  gt : ∀ p ∈ C.T, k.G p.1 = none ∧ k.F p.1 = none
  fc : ∀ a q, k.F a ≠ some (LamX.CodeO a q)
  lams : ∀ f id, k.lam f = some id → ∃ L c', (C.lam id = some L ∧ fi.may id) ∧ H f = some (LamO f L (cloFrom fi.cells L.scope.names []) c') ∧ k.G c' = some (LamX.CodeO c' L.qual) ∧ k.G f = none
abbrev XtR [fi : FrI] (C : Cw) (k : Kp) (H : Hp) : Prop := XtF fi C k H
theorem XtF.to {C : Cw} {k k' : Kp} {H H' : Hp} (x : XtR C k H) (h : ∀ a u, isX u → H a = some u → H' a = some u ∧ (k.G a = none → k'.G a = none)) (hl : ∀ f id, k'.lam f = some id → k.lam f = some id) (hG : ∀ a o, k.G a = some o → k'.G a = some o) (hF : k'.F = k.F := by rfl) : XtR C k' H' := by
  refine ⟨fun q hq => ?_, fun q hq => ?_, fun a q => by rw [hF]; exact x.fc a q, fun f id e => ?_⟩
  · obtain ⟨ps, e, h1, h2⟩ := x.tabs q hq
    refine ⟨ps, (h _ _ (isX_tbl _) e).1, h1, fun pos cv hc => ?_⟩
    obtain ⟨c, e1, e2⟩ := h2 pos cv hc
    exact ⟨c, e1, (h _ _ (isX_ext _) e2).1⟩
  · obtain ⟨ps, e, h1, h2⟩ := x.tabs q hq
    exact ⟨(h _ _ (isX_tbl _) e).2 (x.gt q hq).1, by rw [hF]; exact (x.gt q hq).2⟩
  · obtain ⟨L, c', h1, h2, h3, h4⟩ := x.lams f id (hl f id e)
    exact ⟨L, c', h1, (h _ _ (isX_ext _) h2).1, hG _ _ h3, (h _ _ (isX_ext _) h2).2 h4⟩
theorem upd_x {H : Hp} {p : Addr} {o : HO} (h : okU (H p)) {a : Addr} {u : HO} (hu : isX u) (e : H a = some u) : a ≠ p ∧ upd H p o a = some u := by
  have n : a ≠ p := fun z => by
    rw [← z, e] at h
    exact h hu
  exact ⟨n, by rw [upd_ne n]; exact e⟩
structure RepF (fi : FrI) (C : Cw) (k : Kp) (s : S) (σ : L2.St) (H : Hp) : Prop where
  G : ∀ a o, k.G a = some o → H a = some o
  F : ∀ a o, k.F a = some o → H a = some o
  FG : ∀ a o, k.F a = some o → k.G a = none
  ob : ∀ x o, s.ob x = some o → ∃ a, k.al x = some a ∧ ObR C k H a o
  dom : ∀ x a, k.al x = some a → k.G a = none ∧ k.F a = none ∧ ∃ o, s.ob x = some o
  inj : ∀ x y a, k.al x = some a → k.al y = some a → x = y
  sl : ∀ i t, s.rho[i]? = some t → ∃ v, σ[i]? = some v ∧ SltR C k i v t
  len : s.rho.length = σ.length
  xt : XtF fi C k H
abbrev Rep [fi : FrI] (C : Cw) (k : Kp) (s : S) (σ : L2.St) (H : Hp) : Prop := RepF fi C k s σ H
theorem ObR.live {C : Cw} {k : Kp} {H : Hp} {a : Addr} {o : MO} (h : ObR C k H a o) : ∃ u, H a = some u := by
  cases o with
  | lst ds => obtain ⟨vs, e, _⟩ := h; exact ⟨_, e⟩
  | dic ds => obtain ⟨vs, e, _⟩ := h; exact ⟨_, e⟩
  | lams ds => obtain ⟨vs, e, _⟩ := h; exact ⟨_, e⟩
theorem lams_up {k k' : Kp} (l : k.le k') : ∀ {fs : List Addr} {ids : List Nat}, fs.map k.lam = ids.map some → fs.map k'.lam = ids.map some
  | [], [], _ => rfl
  | [], _ :: _, e => by cases e
  | _ :: _, [], e => by cases e
  | f :: fs, i :: ids, e => by
    rw [List.map_cons, List.map_cons] at e ⊢
    injection e with e1 e2
    rw [l.lam _ _ e1, lams_up l e2]
theorem ObR.up {C : Cw} {k k' : Kp} {H : Hp} {a : Addr} {o : MO} (h : ObR C k H a o) (l : k.le k') : ObR C k' H a o := by
  cases o with
  | lst ds => obtain ⟨vs, e, r⟩ := h; exact ⟨_, e, r.up l⟩
  | dic ds => obtain ⟨vs, e, r⟩ := h; exact ⟨_, e, r.mono l.G l.al⟩
  | lams ds => obtain ⟨vs, e, r⟩ := h; exact ⟨_, e, lams_up l r⟩
theorem ObR.at {C : Cw} {k : Kp} {H H' : Hp} {a : Addr} {o : MO} (h : ObR C k H a o) (e : H' a = H a) : ObR C k H' a o := by
  cases o with
  | lst ds => obtain ⟨vs, q, r⟩ := h; exact ⟨_, e.trans q, r⟩
  | dic ds => obtain ⟨vs, q, r⟩ := h; exact ⟨_, e.trans q, r⟩
  | lams ds => obtain ⟨vs, q, r⟩ := h; exact ⟨_, e.trans q, r⟩
theorem FnvR.up {C : Cw} {k k' : Kp} {f : Addr} {id : Nat} {cap : List D} {L : LamSpec} {c' : Addr} {cl : List (Str × Addr)} {ws : List V} (h : FnvR C k f id cap L c' cl ws) (l : k.le k') : FnvR C k' f id cap L c' cl ws :=
  h.mono l.G l.al fun _ _ _ e => by rw [l.F]; exact e
theorem SltR.up {C : Cw} {k k' : Kp} {i : Nat} {v : Option V} {t : Slot} (h : SltR C k i v t) (l : k.le k') (e : ∀ a, k.al (.inr i) = some a → k'.al (.inr i) = some a) : SltR C k' i v t := by
  cases t with
  | un => trivial
  | val d => obtain ⟨x, q, r⟩ := h; exact ⟨x, q, r.up l⟩
  | own o => obtain ⟨a, q, r⟩ := h; exact ⟨a, q, e a r⟩
  | lam id => obtain ⟨a, q, r⟩ := h; exact ⟨a, q, l.lam _ _ r⟩
  | fnv id cap => obtain ⟨f, L, c', cl, ws, q, r⟩ := h; exact ⟨f, L, c', cl, ws, q, r.up l⟩
section
variable {C : Cw} {k : Kp} {s : S} {σ : L2.St} {H : Hp}
theorem Rep.live (R : Rep C k s σ H) {x : Nat ⊕ Nat} {a : Addr} (h : k.al x = some a) : ∃ u, H a = some u := by
  obtain ⟨_, _, o, e⟩ := R.dom x a h
  obtain ⟨b, hb, r⟩ := R.ob x o e
  rw [h] at hb
  cases hb
  exact r.live
theorem Rep.alloc (R : Rep C k s σ H) {p : Addr} (hp : H p = none) (o : HO) : Rep C { k with G := upd k.G p o } s σ (upd H p o) ∧ k.le { k with G := upd k.G p o } := by
  have gp : k.G p = none := by
    cases e : k.G p with
    | none => rfl
    | some u => rw [R.G _ _ e] at hp; cases hp
  have fp : k.F p = none := by
    cases e : k.F p with
    | none => rfl
    | some u => rw [R.F _ _ e] at hp; cases hp
  have hal : ∀ x a, k.al x = some a → a ≠ p := fun x a e z => by
    obtain ⟨u, q⟩ := R.live e
    rw [z, hp] at q
    cases q
  have le : k.le { k with G := upd k.G p o } := ⟨fun a u e => by
    show upd k.G p o a = some u
    rw [upd_ne (ne_of_none e gp)]
    exact e, rfl, fun _ _ h => h, fun _ _ h => h⟩
  refine ⟨⟨fun a u e => ?_, fun a u e => ?_, fun a u e => ?_, fun x u e => ?_, fun x a e => ?_, R.inj, fun i t e => ?_, R.len, R.xt.to (fun a u hu e => ?_) (fun _ _ e => e) le.G⟩, le⟩
  · by_cases h : a = p
    · subst h
      have e' : upd k.G a o a = some u := e
      rw [upd_same] at e' ⊢
      exact e'
    · have e' : upd k.G p o a = some u := e
      rw [upd_ne h] at e' ⊢
      exact R.G _ _ e'
  · rw [upd_ne (ne_of_none (R.F _ _ e) hp)]
    exact R.F _ _ e
  · show upd k.G p o a = none
    rw [upd_ne (ne_of_none (R.F _ _ e) hp)]
    exact R.FG _ _ e
  · obtain ⟨a, q, r⟩ := R.ob x u e
    refine ⟨a, q, ?_⟩
    exact (r.up le).at (by rw [upd_ne (hal x a q)])
  · obtain ⟨h1, h2, h3⟩ := R.dom x a e
    refine ⟨?_, h2, h3⟩
    show upd k.G p o a = none
    rw [upd_ne (hal x a e)]
    exact h1
  · obtain ⟨v, q, r⟩ := R.sl i t e
    exact ⟨v, q, r.up le fun _ z => z⟩
  · have z := upd_x (o := o) (show okU (H p) by rw [hp]; trivial) hu e
    exact ⟨z.2, fun g => by show upd k.G p o a = none; rw [upd_ne z.1]; exact g⟩
theorem ObR.ok {C : Cw} {k : Kp} {H : Hp} {a : Addr} {o : MO} (h : ObR C k H a o) : okU (H a) := by
  cases o with
  | lst ds => obtain ⟨vs, e, _⟩ := h; rw [e]; exact fun z => z
  | dic ds => obtain ⟨vs, e, _⟩ := h; rw [e]; exact fun z => z
  | lams ds => obtain ⟨vs, e, _⟩ := h; rw [e]; exact fun z => z
end
end DL
namespace DL
open PySem PySem.Spec PyProof.Rows L2
variable [FrI]
theorem PE_mono {X : Cx} {e : Expr} {t t' : TE} (h : PE X e t) (f : ∀ σ H Q, t' σ H Q → t σ H Q) : PE X e t' := ⟨fun pins s σ H Q I q => h.run pins s σ H Q I (f _ _ _ q)⟩
theorem PT_mono {X : Cx} {e : Expr} {t t' : TT} (h : PT X e t) (f : ∀ σ H Q, t' σ H Q → t σ H Q) : PT X e t' := ⟨fun pins s σ H Q I q => h.run pins s σ H Q I (f _ _ _ q)⟩
theorem PA_mono {X : Cx} {e : List Expr} {t t' : TA} (h : PA X e t) (f : ∀ σ H Q, t' σ H Q → t σ H Q) : PA X e t' := ⟨fun pos pins s σ H Q I q => h.run pos pins s σ H Q I (f _ _ _ q)⟩
theorem PS_mono {X : Cx} {e : Stmt} {t t' : TS} (h : PS X e t) (f : ∀ D σ H, t' D σ H → t D σ H) : PS X e t' := ⟨fun pins s σ H Q I q => h.run pins s σ H Q I (f _ _ _ q)⟩
theorem PSs_mono {X : Cx} {e : List Stmt} {t t' : TS} (h : PSs X e t) (f : ∀ D σ H, t' D σ H → t D σ H) : PSs X e t' := ⟨fun pins s σ H Q I q => h.run pins s σ H Q I (f _ _ _ q)⟩
def XR (k : Kp) (C : Cw) (H : Hp) (c : Value) (dx : Option Addr) (x : DX) : Prop :=
  c = .ref (He.ga C.K x.cls) ∧ VRx C k.G k.al dx x.fs
def Post {α : Type} (C : Cw) (W : WX) (k : Kp) (σ : L2.St) (r : Out α) (Q : α → S → Kp → Hp → Prop) : Prop := match r with
  | .ok a s' => ∀ H' k', k.le k' → Rep C k' s' σ H' → Q a s' k' H'
  | .exc x s' => ∀ c dx H' k', k.le k' → Rep C k' s' σ H' → XR k' C H' c dx x → W c dx σ H'
  | .stuck => False
def PostE (C : Cw) (W : WX) (k : Kp) (σ : L2.St) (r : Out D) (Q : VK) : Prop := Post C W k σ r fun d _ k' H' => ∀ v, VR C k'.G k'.al v d → Q v H'
def PostA (C : Cw) (W : WX) (k : Kp) (σ : L2.St) (r : Out (List D)) (Q : List V → Hp → Prop) : Prop := Post C W k σ r fun d _ k' H' => ∀ v, VRs C k'.G k'.al v d → Q v H'
def PostB (C : Cw) (W : WX) (k : Kp) (σ : L2.St) (r : Out Bool) (Q : Bool → Hp → Prop) : Prop := Post C W k σ r fun d _ _ H' => Q d H'
def tD (C : Cw) (W : WX) (m : M D) : TE := fun σ H Q => ∃ k s, Rep C k s σ H ∧ PostE C W k σ (m s) Q
def tDA (C : Cw) (W : WX) (m : M (List D)) : TA := fun σ H Q => ∃ k s, Rep C k s σ H ∧ PostA C W k σ (m s) Q
def tDB (C : Cw) (W : WX) (m : M Bool) : TT := fun σ H Q => ∃ k s, Rep C k s σ H ∧ PostB C W k σ (m s) Q
abbrev DE [LT] (X : Cx) (W : WX) (e : Expr) (m : M D) : Prop := PE X e (tD X.cw W m)
abbrev DA [LT] (X : Cx) (W : WX) (e : List Expr) (m : M (List D)) : Prop := PA X e (tDA X.cw W m)
abbrev DT [LT] (X : Cx) (W : WX) (e : Expr) (m : M Bool) : Prop := PT X e (tDB X.cw W m)
abbrev DW [LT] (X : Cx) (W : WX) (e : Expr) (m : M Bool) : Prop := PW X e (tDB X.cw W m)
section
variable {C : Cw} {W : WX} {k : Kp} {σ : L2.St} {H : Hp} {s : S}
theorem Post.up {α : Type} {k' : Kp} {r : Out α} {Q : α → S → Kp → Hp → Prop} (h : Post C W k σ r Q) (l : k.le k') : Post C W k' σ r Q := by
  cases r with
  | ok a s' => exact fun H' k'' l' R => h H' k'' (l.trans l') R
  | exc x s' => exact fun c dx H' k'' l' R => h c dx H' k'' (l.trans l') R
  | stuck => exact h
theorem Post.imp {α : Type} {r : Out α} {Q Q' : α → S → Kp → Hp → Prop} (h : Post C W k σ r Q) (f : ∀ a s k' H', k.le k' → Rep C k' s σ H' → Q a s k' H' → Q' a s k' H') : Post C W k σ r Q' := by
  cases r with
  | ok a s' => exact fun H' k'' l' R => f _ _ _ _ l' R (h H' k'' l' R)
  | exc x s' => exact fun c dx H' k'' l' R => h c dx H' k'' l' R
  | stuck => exact h
theorem Post.bind {α β : Type} {m : M α} {f : α → M β} {Q : β → S → Kp → Hp → Prop} (h : Post C W k σ ((m >>= f) s) Q) :
    Post C W k σ (m s) fun a s' k' _ => Post C W k' σ (f a s') Q := by
  have e : (m >>= f) s = M.bind m f s := rfl
  rw [e] at h
  unfold M.bind at h
  cases q : m s with
  | ok a s' =>
    rw [q] at h
    exact fun H' k' l R => Post.up h l
  | exc x s' =>
    rw [q] at h
    exact h
  | stuck =>
    rw [q] at h
    exact h
theorem tD_bind {m : M D} {β : Type} {f : D → M β} {Qb : β → S → Kp → Hp → Prop} (R : Rep C k s σ H) (h : Post C W k σ ((m >>= f) s) Qb) {Q : VK}
    (hq : ∀ d s' k' H' v, k.le k' → Rep C k' s' σ H' → VR C k'.G k'.al v d → Post C W k' σ (f d s') Qb → Q v H') : tD C W m σ H Q :=
  ⟨k, s, R, h.bind.imp fun d s' k' H' l R' p v rv => hq d s' k' H' v l R' rv p⟩
theorem tDA_bind {m : M (List D)} {β : Type} {f : List D → M β} {Qb : β → S → Kp → Hp → Prop} (R : Rep C k s σ H) (h : Post C W k σ ((m >>= f) s) Qb) {Q : List V → Hp → Prop}
    (hq : ∀ d s' k' H' v, k.le k' → Rep C k' s' σ H' → VRs C k'.G k'.al v d → Post C W k' σ (f d s') Qb → Q v H') : tDA C W m σ H Q :=
  ⟨k, s, R, h.bind.imp fun d s' k' H' l R' p v rv => hq d s' k' H' v l R' rv p⟩
theorem tDB_bind {m : M Bool} {β : Type} {f : Bool → M β} {Qb : β → S → Kp → Hp → Prop} (R : Rep C k s σ H) (h : Post C W k σ ((m >>= f) s) Qb) {Q : Bool → Hp → Prop}
    (hq : ∀ d s' k' H', k.le k' → Rep C k' s' σ H' → Post C W k' σ (f d s') Qb → Q d H') : tDB C W m σ H Q :=
  ⟨k, s, R, h.bind.imp fun d s' k' H' l R' p => hq d s' k' H' l R' p⟩
theorem PostE.ret {d : D} {Q : VK} {v : V} (h : PostE C W k σ (.ok d s) Q) (R : Rep C k s σ H) (r : VR C k.G k.al v d) : Q v H := h H k (.refl k) R v r
theorem PostE.tup {ds : List D} {xs : List V} {Q : VK} (h : PostE C W k σ (.ok (.tup ds) s) Q) (R : Rep C k s σ H) (r : VRs C k.G k.al xs ds) : NewT H xs Q := by
  intro p o ho hp
  obtain ⟨R', l⟩ := R.alloc hp (.frz o (.tup xs))
  exact h _ _ l R' _ (.tup (.inl ⟨o, ho, upd_same⟩) (r.up l))
theorem PostE.lst {ds : List D} {xs : List V} {Q : VK} (h : PostE C W k σ (.ok (.lst ds) s) Q) (R : Rep C k s σ H) (r : VRs C k.G k.al xs ds) {p : Addr} (hp : H p = none) : Q (.ref p) (upd H p (.lst xs)) := by
  obtain ⟨R', l⟩ := R.alloc hp (.lst xs)
  exact h _ _ l R' _ (.lst (.inl (.inl upd_same)) (r.up l))
end
def MO.d : MO → D
  | .lst ds => .lst ds
  | .dic kvs => .dic kvs
  | .lams _ => .non
def MO.dat : MO → Bool
  | .lams _ => false
  | _ => true
def mVar (i : Nat) : M D := fun s => match s.rho[i]? with
  | some (.val d) => .ok d s
  | some (.own (.lst ds)) => .ok (.lst ds) { s with rho := s.rho.set i (.val (.lst ds)) }
  | some (.own (.dic ds)) => .ok (.dic ds) { s with rho := s.rho.set i (.val (.dic ds)) }
  | _ => .stuck
section
variable {C : Cw} {W : WX} {k : Kp} {σ : L2.St} {H : Hp} {s : S}
theorem S.ob_set {s : S} {i : Nat} {t : Slot} (x : Nat ⊕ Nat) (h : x ≠ .inr i) : S.ob { s with rho := s.rho.set i t } x = s.ob x := by
  cases x with
  | inl n => rfl
  | inr j =>
    have hj : i ≠ j := fun e => h (by rw [e])
    show (match (s.rho.set i t)[j]? with | some (.own o) => some o | _ => none) = _
    rw [List.getElem?_set_ne hj]
    rfl
theorem Rep.freeze (R : Rep C k s σ H) {i : Nat} {o : MO} (hi : s.rho[i]? = some (.own o)) (hd : o.dat = true := by rfl) :
    ∃ a u, H a = some u ∧ Mut (some u) ∧ σ[i]? = some (some (.ref a)) ∧ ∀ od, ∃ k', k.le k' ∧ Rep C k' { s with rho := s.rho.set i (.val o.d) } σ (upd H a (.frz od u)) ∧ VR C k'.G k'.al (.ref a) o.d := by
  have so : s.ob (.inr i) = some o := by
    show (match s.rho[i]? with | some (.own o) => some o | _ => none) = some o
    rw [hi]
  obtain ⟨a, ha, r⟩ := R.ob _ _ so
  obtain ⟨ga, fa, _⟩ := R.dom _ _ ha
  obtain ⟨u, hu⟩ := r.live
  obtain ⟨v, hv, hs⟩ := R.sl i _ hi
  obtain ⟨a', e1, e2⟩ := hs
  rw [ha] at e2
  cases e2
  subst e1
  have hil : i < s.rho.length := (List.getElem?_eq_some_iff.mp hi).1
  refine ⟨a, u, hu, ObR_mut r u hu, hv, fun od => ?_⟩
  refine ⟨⟨upd k.G a (.frz od u), k.F, fun x => if x = .inr i then none else k.al x, k.lam⟩, ?_, ?_, ?_⟩
  · refine ⟨fun b o' e => ?_, rfl, fun n b e => ?_, fun _ _ e => e⟩
    · show upd k.G a (.frz od u) b = some o'
      rw [upd_ne (ne_of_none e ga)]
      exact e
    · show (if (Sum.inl n : Nat ⊕ Nat) = Sum.inr i then none else k.al (.inl n)) = some b
      rw [if_neg (by intro z; cases z)]
      exact e
  · have le : k.le ⟨upd k.G a (.frz od u), k.F, fun x => if x = .inr i then none else k.al x, k.lam⟩ := by
      refine ⟨fun b o' e => ?_, rfl, fun n b e => ?_, fun _ _ e => e⟩
      · show upd k.G a (.frz od u) b = some o'
        rw [upd_ne (ne_of_none e ga)]
        exact e
      · show (if (Sum.inl n : Nat ⊕ Nat) = Sum.inr i then none else k.al (.inl n)) = some b
        rw [if_neg (by intro z; cases z)]
        exact e
    have al' : ∀ x b, (if x = (.inr i : Nat ⊕ Nat) then none else k.al x) = some b → x ≠ .inr i ∧ k.al x = some b := by
      intro x b e
      by_cases hx : x = .inr i
      · rw [if_pos hx] at e
        cases e
      · rw [if_neg hx] at e
        exact ⟨hx, e⟩
    refine ⟨fun b o' e => ?_, fun b o' e => ?_, fun b o' e => ?_, fun x o' e => ?_, fun x b e => ?_, fun x y b e1 e2 => ?_, fun j t e => ?_, ?_, R.xt.to (fun b w hw e => ?_) (fun _ _ e => e) le.G⟩
    · by_cases hb : b = a
      · have e' : upd k.G a (.frz od u) b = some o' := e
        rw [hb, upd_same] at e'
        rw [hb, upd_same]
        exact e'
      · have e' : upd k.G a (.frz od u) b = some o' := e
        rw [upd_ne hb] at e' ⊢
        exact R.G _ _ e'
    · rw [upd_ne (fun z => by rw [z, fa] at e; cases e)]
      exact R.F _ _ e
    · show upd k.G a (.frz od u) b = none
      rw [upd_ne (fun z => by rw [z, fa] at e; cases e)]
      exact R.FG _ _ e
    · by_cases hx : x = .inr i
      · subst hx
        exfalso
        have e' : (match (s.rho.set i (.val o.d))[i]? with | some (.own o) => some o | _ => none) = some o' := e
        rw [List.getElem?_set_self hil] at e'
        cases e'
      · rw [S.ob_set x hx] at e
        obtain ⟨b, h1, h2⟩ := R.ob x o' e
        exact ⟨b, by show (if x = (.inr i : Nat ⊕ Nat) then none else k.al x) = some b; rw [if_neg hx]; exact h1, (h2.up le).at (upd_ne fun z => hx (R.inj x (.inr i) a (by rw [← z]; exact h1) ha))⟩
    · obtain ⟨hx, e'⟩ := al' x b e
      obtain ⟨h1, h2, h3⟩ := R.dom x b e'
      refine ⟨?_, h2, ?_⟩
      · show upd k.G a (.frz od u) b = none
        rw [upd_ne (fun z => hx (R.inj x (.inr i) a (by rw [← z]; exact e') ha))]
        exact h1
      · rw [S.ob_set x hx]
        exact h3
    · exact R.inj x y b (al' x b e1).2 (al' y b e2).2
    · by_cases hj : i = j
      · subst hj
        have e' : (s.rho.set i (.val o.d))[i]? = some t := e
        rw [List.getElem?_set_self hil] at e'
        cases e'
        refine ⟨_, hv, _, rfl, ?_⟩
        cases o with
        | lams ds => cases hd
        | lst ds =>
          obtain ⟨vs, q, rs⟩ := r
          rw [hu] at q
          cases q
          exact .lst (.inl (.inr ⟨od, upd_same⟩)) (rs.up le)
        | dic ds =>
          obtain ⟨vs, q, rs⟩ := r
          rw [hu] at q
          cases q
          exact .dic ⟨od, upd_same⟩ (rs.mono le.G le.al)
      · have e' : (s.rho.set i (.val o.d))[j]? = some t := e
        rw [List.getElem?_set_ne hj] at e'
        obtain ⟨w, h1, h2⟩ := R.sl j t e'
        refine ⟨w, h1, h2.up le fun b hb => ?_⟩
        show (if (Sum.inr j : Nat ⊕ Nat) = Sum.inr i then none else k.al (.inr j)) = some b
        rw [if_neg (fun z => hj (Sum.inr.inj z).symm)]
        exact hb
    · show (s.rho.set i (.val o.d)).length = σ.length
      rw [List.length_set]
      exact R.len
    · have z := upd_x (o := .frz od u) r.ok hw e
      exact ⟨z.2, fun g => by show upd k.G a (.frz od u) b = none; rw [upd_ne z.1]; exact g⟩
  · cases o with
    | lams ds => cases hd
    | lst ds =>
      obtain ⟨vs, q, rs⟩ := r
      rw [hu] at q
      cases q
      refine .lst (.inl (.inr ⟨od, upd_same⟩)) (rs.mono (fun b o' e => ?_) (fun n b e => ?_))
      · show upd k.G a _ b = some o'
        rw [upd_ne (ne_of_none e ga)]
        exact e
      · show (if (Sum.inl n : Nat ⊕ Nat) = Sum.inr i then none else k.al (.inl n)) = some b
        rw [if_neg (by intro z; cases z)]
        exact e
    | dic ds =>
      obtain ⟨vs, q, rs⟩ := r
      rw [hu] at q
      cases q
      refine .dic ⟨od, upd_same⟩ (rs.mono (fun b o' e => ?_) (fun n b e => ?_))
      · show upd k.G a _ b = some o'
        rw [upd_ne (ne_of_none e ga)]
        exact e
      · show (if (Sum.inl n : Nat ⊕ Nat) = Sum.inr i then none else k.al (.inl n)) = some b
        rw [if_neg (by intro z; cases z)]
        exact e
theorem rd_var {i : Nat} {Q : VK} (h : tD C W (mVar i) σ H Q) : tVar i σ H (Lk Q) := by
  obtain ⟨k, s, R, p⟩ := h
  unfold mVar at p
  cases e : s.rho[i]? with
  | none => rw [e] at p; exact p.elim
  | some t =>
    cases t with
    | un => rw [e] at p; exact p.elim
    | val d =>
      rw [e] at p
      obtain ⟨v, q, x, e1, r⟩ := R.sl i _ e
      subst e1
      exact ⟨x, q, .inl (PostE.ret p R r)⟩
    | lam o => rw [e] at p; exact p.elim
    | fnv o u => rw [e] at p; exact p.elim
    | own o =>
      rw [e] at p
      cases o with
      | lams o => exact p.elim
      | lst o =>
        obtain ⟨a, u, hu, mu, hv, fz⟩ := R.freeze e
        refine ⟨.ref a, hv, .inr ⟨a, u, rfl, hu, mu, fun od => ?_⟩⟩
        obtain ⟨k', l, R', r⟩ := fz od
        exact p _ _ l R' _ r
      | dic o =>
        obtain ⟨a, u, hu, mu, hv, fz⟩ := R.freeze e
        refine ⟨.ref a, hv, .inr ⟨a, u, rfl, hu, mu, fun od => ?_⟩⟩
        obtain ⟨k', l, R', r⟩ := fz od
        exact p _ _ l R' _ r
end
section
variable [LT] {X : Cx} {W : WX} {pos : Pos} {j : _}
theorem de_var (i : Nat) {x : Str} (hN : X.N[i]? = some x := by rfl) (hv : Vis X.env.scope x := by first | exact Or.inl rfl | exact Or.inr (Or.inl rfl) | exact Or.inr (Or.inr rfl)) (hd : (x == ("__debug__" : Str)) = false := by decide)
    (hcd : (x == ("__classdict__" : Str)) = false := by decide) : DE X W (.Name x pos) (mVar i) := PE_mono (pe_lk (pe_var hN hv hd hcd)) fun _ _ _ h => rd_var h
theorem rd_c {C : Cw} {v : V} {d : D} (hr : ∀ G al, VR C G al v d) {σ : L2.St} {H : Hp} {Q : VK} (h : tD C W (M.pure d) σ H Q) : tC v σ H Q := by
  obtain ⟨k, s, R, p⟩ := h
  exact PostE.ret p R (hr _ _)
theorem de_int {i : Int} {u : Nat} : DE X W (.Constant (.int i) u pos) (M.pure (.int i)) := PE_mono pe_int fun _ _ _ h => rd_c (fun _ _ => .int i) h
theorem de_str {i : Str} {u : Nat} : DE X W (.Constant (.str i) u pos) (M.pure (.str i)) := PE_mono pe_str fun _ _ _ h => rd_c (fun _ _ => .str i) h
theorem de_bl {i : Bool} {u : Nat} : DE X W (.Constant (.bool i) u pos) (M.pure (.bl i)) := PE_mono pe_bl fun _ _ _ h => rd_c (fun _ _ => .bl i) h
theorem de_non {u : Nat} : DE X W (.Constant .none u pos) (M.pure .non) := PE_mono pe_non fun _ _ _ h => rd_c (fun _ _ => .non) h
end
def mBin (f : D → D → M D) (a b : M D) : M D := do let x ← a; let y ← b; f x y
def Hop (C : Cw) (W : WX) (f : D → D → M D) (r : R2) : Prop := ∀ (k : Kp) (s : S) (σ : L2.St) (H : Hp) (x y : V) (d e : D) (Q : VK), Rep C k s σ H → VR C k.G k.al x d → VR C k.G k.al y e → PostE C W k σ (f d e s) Q → r x y H Q
theorem rd_bin {C : Cw} {W : WX} {f : D → D → M D} {r : R2} {a b : M D} (hr : Hop C W f r) {σ : L2.St} {H : Hp} {Q : VK} (h : tD C W (mBin f a b) σ H Q) : tOp r (tD C W a) (tD C W b) σ H Q := by
  obtain ⟨k, s, R, p⟩ := h
  refine tD_bind R p fun d s1 k1 H1 v l1 R1 r1 p1 => ?_
  refine tD_bind R1 p1 fun e s2 k2 H2 u l2 R2 r2 p2 => ?_
  exact hr k2 s2 σ H2 v u d e Q R2 (r1.up l2) r2 p2
section
variable [LT] {X : Cx} {W : WX} {pos : Pos} {a b : Expr} {ma mb : M D} {f : D → D → M D} {r : R2}
theorem de_bin {op : Operator} (ho : OpR X (binaryOp op) r) (hr : Hop X.cw W f r) (ha : DE X W a ma) (hb : DE X W b mb) : DE X W (.BinOp a op b pos) (mBin f ma mb) := PE_mono (pe_op ho ha hb) fun _ _ _ h => rd_bin hr h
end
end DL
namespace DL
open PySem PySem.Spec PyProof.Rows L2
variable [FrI]
mutual
def D.py : D → Option PyData
  | .non => some .none
  | .bl b => some (.bool b)
  | .int i => some (.int i)
  | .str s => some (.str s)
  | .tup ds => (D.pys ds).map .tuple
  | .lst ds => (D.pys ds).map .list
  | .dic _ => none
  | .loc _ => none
  | .con _ => none
  | .err _ _ => none
  | .fn _ _ => none
  | .tmp _ => none
  | .kdic _ => none
def D.pys : List D → Option (List PyData)
  | [] => some []
  | d :: ds => match D.py d, D.pys ds with
    | some p, some ps => some (p :: ps)
    | _, _ => none
end
section
variable {C : Cw} {G H : Hp} {al : Nat ⊕ Nat → Option Addr}
mutual
theorem VR.dp (hG : ∀ a o, G a = some o → H a = some o) : ∀ {d : D} {v : V} {p : PyData}, VR C G al v d → d.py = some p → Dp C.K H v p
  | .non, _, _, .non, e => by cases e; exact .non
  | .bl b, _, _, .bl _, e => by cases e; exact .bl b
  | .int i, _, _, .int _, e => by cases e; exact .int i
  | .str x, _, _, .str _, e => by cases e; exact .str x
  | .tup ds, _, _, .tup s r, e => by
    unfold D.py at e
    cases q : D.pys ds with
    | none => rw [q] at e; cases e
    | some ps => rw [q] at e; cases e; exact .tup (SqT.sub hG s.sq) (VRs.dp hG r q)
  | .lst ds, _, _, .lst s r, e => by
    unfold D.py at e
    cases q : D.pys ds with
    | none => rw [q] at e; cases e
    | some ps => rw [q] at e; cases e; exact .lst (SqL.sub hG s) (VRs.dp hG r q)
  | .dic _, _, _, .dic _ _, e => by unfold D.py at e; cases e
  | .loc _, _, _, .loc _, e => by unfold D.py at e; cases e
  | .con _, _, _, .con, e => by unfold D.py at e; cases e
  | .err _ _, _, _, .err _ _ _, e => by unfold D.py at e; cases e
  | .tmp _, _, _, .tmp _ _, e => by unfold D.py at e; cases e
  | .kdic _, _, _, .kdic _ _, e => by unfold D.py at e; cases e
theorem VRs.dp (hG : ∀ a o, G a = some o → H a = some o) : ∀ {ds : List D} {vs : List V} {ps : List PyData}, VRs C G al vs ds → D.pys ds = some ps → DpAll C.K H vs ps
  | [], _, _, .nil, e => by cases e; exact .nil
  | d :: ds, _, _, .cons h t, e => by
    unfold D.pys at e
    cases q : D.py d with
    | none => rw [q] at e; cases e
    | some p =>
      cases q2 : D.pys ds with
      | none => rw [q, q2] at e; cases e
      | some ps =>
        rw [q, q2] at e
        cases e
        exact .cons (VR.dp hG h q) (VRs.dp hG t q2)
end
end
def eqO (d e : D) : Option Bool := match d.py, e.py with
  | some p, some q => if SeqAt.shaped p && SeqAt.shaped q then some (PyData.eqv p q) else none
  | _, _ => none
def eqD (d e : D) : M D := ofO ((eqO d e).map D.bl)
def neD (d e : D) : M D := ofO ((eqO d e).map fun b => D.bl (!b))
def addD : D → D → M D
  | .int i, .int j => M.pure (.int (i + j))
  | .str x, .str y => if x.length + y.length ≤ sizeLine then M.pure (.str (x ++ y)) else stuck
  | .tup xs, .tup ys => if xs.length + ys.length ≤ sizeLine then M.pure (.tup (xs ++ ys)) else stuck
  | .lst xs, .lst ys => if xs.length + ys.length ≤ sizeLine then M.pure (.lst (xs ++ ys)) else stuck
  | _, _ => stuck
def subD : D → D → M D
  | .int i, .int j => M.pure (.int (i - j))
  | _, _ => stuck
instance (i j : Int) : Decidable (CMul i j) := by unfold CMul; exact inferInstance
instance (i j : Int) : Decidable (CDiv i j) := by unfold CDiv; exact inferInstance
instance (i j : Int) : Decidable (CPow i j) := by unfold CPow; exact inferInstance
def mulD : D → D → M D
  | .int i, .int j => if CMul i j then M.pure (.int (i * j)) else stuck
  | _, _ => stuck
def fdivD : D → D → M D
  | .int i, .int j => if CDiv i j then M.pure (.int (i / j)) else stuck
  | _, _ => stuck
def modD : D → D → M D
  | .int i, .int j => if 0 < j then M.pure (.int (i % j)) else stuck
  | _, _ => stuck
def powD : D → D → M D
  | .int i, .int j => if CPow i j then M.pure (.int (i ^ j.toNat)) else stuck
  | _, _ => stuck
def rCatS (K : PySem.W.Frag) : R2 := fun x y H Q => ∃ l b xs zs, x = .ref l ∧ y = .ref b ∧ SqL K H l xs ∧ SqL K H b zs ∧ xs.length + zs.length ≤ sizeLine ∧ ∀ p, H p = none → Q (.ref p) (upd H p (.lst (xs ++ zs)))
theorem op_catS {X : Cx} : OpR X (binaryOp .Add) (rCatS X.K) := by
  intro pins s σ H x y v u Q I rx ry h
  obtain ⟨l, b, xs, zs, rfl, rfl, hH, hB, hz, q⟩ := h
  cases rx
  cases ry
  obtain ⟨vs, r1, ⟨⟨cls, dd, data, sl⟩, n, ho, hc, _, hd⟩, z1⟩ := I.list hH
  obtain ⟨ws, r2, ⟨⟨cls2, dd2, data2, sl2⟩, n2, ho2, hc2, _, hd2⟩, z2⟩ := I.list hB
  simp only at hc hd hc2 hd2
  subst hc hd hc2 hd2
  have e : vs.toArray ++ ws.toArray = (vs ++ ws).toArray := by simp
  have e1 := r1.length
  have e2 := r2.length
  refine concat_meets ⟨_, ho, rfl⟩ ⟨_, ho2, rfl⟩ noFill_list_add seq_list_add PySem.F.slot_list_add PySem.F.entry_list_add (PySem.F.args_list_add_2 _ _) (list_addW l b vs.toArray ws.toArray n n2 dd dd2 sl sl2 (by simp only [List.size_toArray]; omega)) ⟨ho, ho2, ?_⟩
  rw [e]
  exact ⟨.ref _, _, I.lnew (t' := s.toks) (r1.append r2) (by rw [List.length_append]; omega), rfl, q _ I.fresh⟩
section
variable {C : Cw} {W : WX}
def rAddD (C : Cw) : R2 := fun x y H Q => (rI0 fun i j => .int (i + j)) x y H Q ∨ (∃ i j, x = .str i ∧ y = .str j ∧ i.length + j.length ≤ sizeLine ∧ Q (.str (i ++ j)) H) ∨ rCatN C.K x y H Q ∨ rCatS C.K x y H Q
theorem op_addD [LT] {X : Cx} : OpR X (binaryOp .Add) (rAddD X.cw) := op_add.or (op_add_str.or (op_catN.or op_catS))
theorem hop_add : Hop C W addD (rAddD C) := by
  intro k s σ H x y d e Q R r1 r2 p
  unfold addD at p
  cases r1 with
  | int i =>
    cases r2 with
    | int j => exact .inl ⟨i, j, rfl, rfl, PostE.ret p R (.int _)⟩
    | _ => exact p.elim
  | str i =>
    cases r2 with
    | str j =>
      by_cases c : i.length + j.length ≤ sizeLine
      · simp only [c, if_pos] at p
        exact .inr (.inl ⟨i, j, rfl, rfl, c, PostE.ret p R (.str _)⟩)
      · simp only [c] at p
        exact p.elim
    | _ => exact p.elim
  | @tup a xs ds h1 rs =>
    cases r2 with
    | @tup b ys es h2 rs2 =>
      by_cases c : ds.length + es.length ≤ sizeLine
      · simp only [c, if_pos] at p
        have l1 := rs.len
        have l2 := rs2.len
        refine .inr (.inr (.inl ⟨a, b, xs, ys, rfl, rfl, SqT.sub R.G h1.sq, SqT.sub R.G h2.sq, by omega, fun z => ?_, fun _ z => ?_, fun _ _ => ?_⟩))
        · subst z
          cases rs
          exact PostE.ret p R (.tup h2 (by simpa using rs2))
        · subst z
          cases rs2
          exact PostE.ret p R (.tup h1 (by simpa using rs))
        · exact PostE.tup p R (rs.app rs2)
      · simp only [c] at p
        exact p.elim
    | _ => exact p.elim
  | @lst a xs ds h1 rs =>
    cases r2 with
    | @lst b ys es h2 rs2 =>
      by_cases c : ds.length + es.length ≤ sizeLine
      · simp only [c, if_pos] at p
        have l1 := rs.len
        have l2 := rs2.len
        exact .inr (.inr (.inr ⟨a, b, xs, ys, rfl, rfl, SqL.sub R.G h1, SqL.sub R.G h2, by omega, fun q hq => PostE.lst p R (rs.app rs2) hq⟩))
      · simp only [c] at p
        exact p.elim
    | _ => exact p.elim
  | _ => cases r2 <;> exact p.elim
theorem hop_sub : Hop C W subD (rI0 fun i j => .int (i - j)) := by
  intro k s σ H x y d e Q R r1 r2 p
  unfold subD at p
  cases r1 <;> cases r2 <;> first | exact p.elim | exact ⟨_, _, rfl, rfl, PostE.ret p R (.int _)⟩
theorem hop_mul : Hop C W mulD (rI CMul fun i j => .int (i * j)) := by
  intro k s σ H x y d e Q R r1 r2 p
  unfold mulD at p
  cases r1 with
  | int i =>
    cases r2 with
    | int j =>
      by_cases c : CMul i j
      · simp only [c, if_pos] at p
        exact ⟨_, _, rfl, rfl, c, PostE.ret p R (.int _)⟩
      · simp only [c] at p
        exact p.elim
    | _ => exact p.elim
  | _ => cases r2 <;> exact p.elim
theorem hop_fdiv : Hop C W fdivD (rI CDiv fun i j => .int (i / j)) := by
  intro k s σ H x y d e Q R r1 r2 p
  unfold fdivD at p
  cases r1 with
  | int i =>
    cases r2 with
    | int j =>
      by_cases c : CDiv i j
      · simp only [c, if_pos] at p
        exact ⟨_, _, rfl, rfl, c, PostE.ret p R (.int _)⟩
      · simp only [c] at p
        exact p.elim
    | _ => exact p.elim
  | _ => cases r2 <;> exact p.elim
theorem hop_mod : Hop C W modD (rI (fun _ j => 0 < j) fun i j => .int (i % j)) := by
  intro k s σ H x y d e Q R r1 r2 p
  unfold modD at p
  cases r1 with
  | int i =>
    cases r2 with
    | int j =>
      by_cases c : 0 < j
      · simp only [c, if_pos] at p
        exact ⟨_, _, rfl, rfl, c, PostE.ret p R (.int _)⟩
      · simp only [c] at p
        exact p.elim
    | _ => exact p.elim
  | _ => cases r2 <;> exact p.elim
theorem hop_pow : Hop C W powD (rI CPow fun i j => .int (i ^ j.toNat)) := by
  intro k s σ H x y d e Q R r1 r2 p
  unfold powD at p
  cases r1 with
  | int i =>
    cases r2 with
    | int j =>
      by_cases c : CPow i j
      · simp only [c, if_pos] at p
        exact ⟨_, _, rfl, rfl, c, PostE.ret p R (.int _)⟩
      · simp only [c] at p
        exact p.elim
    | _ => exact p.elim
  | _ => cases r2 <;> exact p.elim
end
def cmpD (fi : Int → Int → Bool) (fs : Str → Str → Bool) : D → D → M D
  | .int i, .int j => M.pure (.bl (fi i j))
  | .str i, .str j => M.pure (.bl (fs i j))
  | _, _ => stuck
def ltD : D → D → M D := cmpD (fun i j => decide (i < j)) (fun i j => decide (i.cps.toList < j.cps.toList))
def leD : D → D → M D := cmpD (fun i j => decide (i ≤ j)) (fun i j => !decide (j.cps.toList < i.cps.toList))
def gtD : D → D → M D := cmpD (fun i j => decide (j < i)) (fun i j => decide (j.cps.toList < i.cps.toList))
def geD : D → D → M D := cmpD (fun i j => decide (j ≤ i)) (fun i j => !decide (i.cps.toList < j.cps.toList))
section
variable {C : Cw} {W : WX}
def rCmpD (fi : Int → Int → Bool) (fs : Str → Str → Bool) : R2 := fun x y H Q => (rI0 fun i j => .bl (fi i j)) x y H Q ∨ (∃ i j, x = .str i ∧ y = .str j ∧ Q (.bl (fs i j)) H)
theorem hop_cmp {fi : Int → Int → Bool} {fs : Str → Str → Bool} : Hop C W (cmpD fi fs) (rCmpD fi fs) := by
  intro k s σ H x y d e Q R r1 r2 p
  unfold cmpD at p
  cases r1 <;> cases r2 <;> first | exact p.elim | exact .inl ⟨_, _, rfl, rfl, PostE.ret p R (.bl _)⟩ | exact .inr ⟨_, _, rfl, rfl, PostE.ret p R (.bl _)⟩
theorem op_geD {X : Cx} : OpR X (compareOp .GtE) (rCmpD (fun i j => decide (j ≤ i)) (fun i j => !decide (i.cps.toList < j.cps.toList))) := op_ge.or op_ge_str
end
end DL
namespace DL
open PySem PySem.Spec PyProof.Rows L2
variable [FrI]
def mNil : M (List D) := M.pure []
def mCons (a : M D) (r : M (List D)) : M (List D) := do let x ← a; let xs ← r; M.pure (x :: xs)
def seqO : D → Option (List D)
  | .tup ds => some ds
  | .lst ds => some ds
  | _ => none
def mTup (r : M (List D)) : M D := do let xs ← r; if xs.length ≤ sizeLine then M.pure (.tup xs) else stuck
def mLst (r : M (List D)) : M D := do let xs ← r; if xs.length ≤ sizeLine then M.pure (.lst xs) else stuck
section
variable [LT] {X : Cx} {W : WX} {pos : Pos} {e : Expr} {es : List Expr} {m : M D} {ms : M (List D)}
theorem Post.at {α : Type} {C : Cw} {W : WX} {k : Kp} {σ : L2.St} {a : α} {s : S} {H : Hp} {Q : α → S → Kp → Hp → Prop} (p : Post C W k σ (.ok a s) Q) (R : Rep C k s σ H) : Q a s k H := p H k (.refl k) R
theorem da_nil : DA X W [] mNil := PA_mono pa_nil fun _ _ _ h => by
  obtain ⟨k, s, R, p⟩ := h
  exact Post.at p R _ .nil
theorem rd_cons {C : Cw} {σ : L2.St} {H : Hp} {Q : List V → Hp → Prop} (h : tDA C W (mCons m ms) σ H Q) : tCons (tD C W m) (tDA C W ms) σ H Q := by
  obtain ⟨k, s, R, p⟩ := h
  refine tD_bind R p fun d s1 k1 H1 v l1 R1 r1 p1 => ?_
  refine tDA_bind R1 p1 fun ds s2 k2 H2 vs l2 R2 r2 p2 => ?_
  exact Post.at p2 R2 _ (.cons (r1.up l2) r2)
theorem da_cons (ha : DE X W e m) (hr : DA X W es ms) (hs : starEach (e :: es) X.env = (false, eval e X.env) :: starEach es X.env := by rfl) : DA X W (e :: es) (mCons m ms) := PA_mono (pa_cons ha hr hs) fun _ _ _ h => rd_cons h
theorem rd_tup {C : Cw} {σ : L2.St} {H : Hp} {Q : VK} (h : tD C W (mTup ms) σ H Q) : tTupN (tDA C W ms) σ H Q := by
  obtain ⟨k, s, R, p⟩ := h
  refine tDA_bind R p fun ds s1 k1 H1 v l1 R1 r1 p1 => ?_
  by_cases c : ds.length ≤ sizeLine
  · simp only [c, if_pos] at p1
    exact ⟨by rw [r1.len]; exact c, PostE.tup p1 R1 r1⟩
  · simp only [c] at p1
    exact p1.elim
theorem rd_lst {C : Cw} {σ : L2.St} {H : Hp} {Q : VK} (h : tD C W (mLst ms) σ H Q) : tLst (tDA C W ms) σ H Q := by
  obtain ⟨k, s, R, p⟩ := h
  refine tDA_bind R p fun ds s1 k1 H1 v l1 R1 r1 p1 => ?_
  by_cases c : ds.length ≤ sizeLine
  · simp only [c, if_pos] at p1
    exact ⟨by rw [r1.len]; exact c, fun q hq => PostE.lst p1 R1 r1 hq⟩
  · simp only [c] at p1
    exact p1.elim
theorem de_tup {x1} (h : DA X W es ms) : DE X W (.Tuple es x1 pos) (mTup ms) := PE_mono (pe_tupN h) fun _ _ _ h => rd_tup h
theorem de_lst (h : DA X W es ms) : DE X W (.List es pos) (mLst ms) := PE_mono (pe_lst h) fun _ _ _ h => rd_lst h
end
def boolO : D → Option Bool
  | .bl b => some b
  | _ => none
def mTest (m : M D) : M Bool := do let x ← m; ofO (boolO x)
def mNotT (m : M Bool) : M Bool := do let b ← m; M.pure (!b)
def mAndT (a b : M Bool) : M Bool := do let x ← a; if x = true then b else M.pure false
def mOrT (a b : M Bool) : M Bool := do let x ← a; if x = true then M.pure true else b
def mNot (m : M D) : M D := do let x ← m; let b ← ofO (boolO x); M.pure (.bl (!b))
def mAnd (a b : M D) : M D := do let x ← a; let c ← ofO (boolO x); if c = true then b else M.pure (.bl false)
def mOr (a b : M D) : M D := do let x ← a; let c ← ofO (boolO x); if c = true then M.pure (.bl true) else b
def mIf (c : M Bool) (a b : M D) : M D := do let x ← c; if x = true then a else b
section
variable [LT] {X : Cx} {W : WX} {pos : Pos} {e a b : Expr} {es rest : List Expr} {m ma mb : M D} {tA tB : M Bool}
theorem rd_test {C : Cw} {σ : L2.St} {H : Hp} {Q : Bool → Hp → Prop} (h : tDB C W (mTest m) σ H Q) : tD C W m σ H fun x H1 => ∃ c, x = .bl c ∧ Q c H1 := by
  obtain ⟨k, s, R, p⟩ := h
  refine tD_bind R p fun d s1 k1 H1 v l1 R1 r1 p1 => ?_
  cases r1 with
  | bl c => exact ⟨c, rfl, Post.at p1 R1⟩
  | _ => exact p1.elim
theorem dt_val (h : DE X W e m) (he : ∀ whole, isTrue e X.env whole = (do let v ← whole; standAt e.pos; holding [v] (truthy v)) := by intro _; rfl) : DT X W e (mTest m) := PT_mono (pt_val h he) fun _ _ _ h => rd_test h
theorem dt_cmp {op : CmpOp} {f : D → D → M D} {r : R2} (ho : OpR X (compareOp op) r) (hr : Hop X.cw W f r) (ha : DE X W a ma) (hb : DE X W b mb) (hm : behindInMarks op b = false := by first | exact nobehind _ (by decide) (by decide) | rfl) : DT X W (.Compare a [op] [b] pos) (mTest (mBin f ma mb)) := by
  refine PT_mono (pt_cmpR ho ha hb hm) fun σ H Q h => ?_
  obtain ⟨k, s, R, p⟩ := h
  refine tD_bind R p.bind fun d s1 k1 H1 v l1 R1 r1 p1 => ?_
  refine tD_bind R1 p1 fun e s2 k2 H2 u l2 R2 r2 p2 => ?_
  refine hr k2 s2 σ H2 v u d e _ R2 (r1.up l2) r2 (p2.imp fun x s3 k3 H3 l3 R3 p3 w rw' => ?_)
  cases rw' with
  | bl c => exact ⟨c, rfl, Post.at p3 R3⟩
  | _ => exact p3.elim
theorem dt_not (h : DT X W a tA) : DT X W (.UnaryOp .Not a pos) (mNotT tA) := by
  refine PT_mono (pt_not h) fun σ H Q h => ?_
  obtain ⟨k, s, R, p⟩ := h
  exact tDB_bind R p fun c s1 k1 H1 l1 R1 p1 => Post.at p1 R1
theorem PW_mono {t t' : TT} (h : PW X e t) (f : ∀ σ H Q, t' σ H Q → t σ H Q) : PW X e t' := ⟨fun wh pins s σ H Q I q => h.run wh pins s σ H Q I (f _ _ _ q)⟩
theorem dw_one' (ha : DT X W a tA) : DW X W (.BoolOp .Or [a] pos) tA := pw_or1 ha
theorem dw_or (ha : DT X W a tA) (hb : DW X W (.BoolOp .Or (b :: rest) pos) tB) : DW X W (.BoolOp .Or (a :: b :: rest) pos) (mOrT tA tB) := by
  refine PW_mono (pw_or ha hb) fun σ H Q h => ?_
  obtain ⟨k, s, R, p⟩ := h
  refine tDB_bind R p fun c s1 k1 H1 l1 R1 p1 => ?_
  cases c with
  | true => exact Post.at p1 R1
  | false => exact ⟨k1, s1, R1, p1⟩
theorem dt_w (h : DW X W e tA) : DT X W e tA := h.pt
theorem de_if {c : Expr} (hc : DT X W c tA) (ha : DE X W a ma) (hb : DE X W b mb) : DE X W (.IfExp c a b pos) (mIf tA ma mb) := by
  refine PE_mono (pe_ifExp hc ha hb) fun σ H Q h => ?_
  obtain ⟨k, s, R, p⟩ := h
  refine tDB_bind R p fun x s1 k1 H1 l1 R1 p1 => ?_
  cases x with
  | true => exact ⟨k1, s1, R1, p1⟩
  | false => exact ⟨k1, s1, R1, p1⟩
def mChain (f g : D → D → M D) (a b c : M D) : M D := do
  let x ← a; let y ← b; let z ← f x y; let t ← ofO (boolO z); if t = true then (do let w ← c; g y w) else M.pure (.bl false)
end
def keyO : D → Option Key
  | .int i => some (.inl i)
  | .str s => some (.inr s)
  | _ => none
def dlook (kvs : List (Key × D)) (k : Key) : Option D := (kvs.find? fun kv => decide (kv.1 = k)).map (·.2)
theorem dk_sq [LT] {X : Cx} {pins : List (Addr × Obj)} {σ : L2.St} {H : Hp} {s : Shared} {a : Addr} {kvs : List (Key × V)} (I : Inv X pins σ H s) (h : SqDr X.cw H a kvs) :
    (a == sysModules) = false ∧ ∃ vs, KV kvs vs ∧ s.heap.DictOf (mixKind X.prog X.w) a vs := by
  rcases h with h | ⟨_, _, h1, vs, h2, h3⟩
  · obtain ⟨_, h1, vs, h2, h3⟩ := dk_rd I.hok h
    exact ⟨h1, vs, h2, h3⟩
  · exact ⟨h1, vs, h2, h3 _ I.kIn⟩
theorem VRk.look {C : Cw} {G : Hp} {al : Nat ⊕ Nat → Option Addr} (k : Key) : ∀ {vs : List (Key × V)} {ds : List (Key × D)}, VRk C G al vs ds → (valV vs k = none ∧ dlook ds k = none) ∨ ∃ v d, valV vs k = some v ∧ dlook ds k = some d ∧ VR C G al v d
  | _, _, .nil => .inl ⟨rfl, rfl⟩
  | _, _, .cons (k := k') (v := v) (d := d) (vs := vs) (ds := ds) h t => by
    unfold valV dlook
    by_cases c : k' = k
    · rw [List.find?_cons_of_pos (by simpa using c), List.find?_cons_of_pos (by simpa using c)]
      exact .inr ⟨_, _, rfl, rfl, h⟩
    · rw [List.find?_cons_of_neg (by simpa using c), List.find?_cons_of_neg (by simpa using c)]
      exact VRk.look k t
end DL
namespace DL
open PySem PySem.Spec PyProof.Rows L2
variable [FrI]
section
variable {prog : Program} {w : World} {A : Around} {E : Value → Shared → Prop} {s : Shared}
end
def ixD (x i : D) : M D := match x with
  | .tup ds => match i with
    | .int j => ofO (atI ds j)
    | _ => stuck
  | .lst ds => match i with
    | .int j => ofO (atI ds j)
    | _ => stuck
  | .str z => match i with
    | .int j => if z.length ≤ sizeLine then ofO ((atI z.cps.toList j).map fun c => D.str ⟨#[c]⟩) else stuck
    | _ => stuck
  | .dic kvs => match keyO i with
    | some k => ofO (dlook kvs k)
    | none => stuck
  | .kdic kvs => match keyO i with
    | some k => ofO (dlook kvs k)
    | none => stuck
  | _ => stuck
def rIxK (C : Cw) : R2 := fun x y H Q => ∃ a kvs k v, x = .ref a ∧ y = kV k ∧ SqDr C H a kvs ∧ valV kvs k = some v ∧ Q v H
theorem ix_dic [LT] {X : Cx} : IxR X (rIxK X.cw) := by
  intro value slice pins s σ H x y v u Q I rx ry h hs
  obtain ⟨a, kvs, k, z, rfl, rfl, hk, e, q⟩ := h
  obtain ⟨hd, vs, rel, dd⟩ := dk_sq I hk
  obtain rfl : v = Value.ref a := rx
  obtain ⟨w', hw, rw'⟩ := RelO.some_of (v := z) (o := valueAt vs k) (by rw [← e]; exact rel.val k)
  exact tail_any dd.typeIs slot_dict_getitem.lookup (wpAny_getItem_of (kV_is ry) dd.mapOf hw ⟨z, H, I.tok _, rw', q⟩) hs
def rIxAll (C : Cw) : R2 := fun x y H Q => rIx C.K x y H Q ∨ rIxK C x y H Q
theorem ix_all [LT] {X : Cx} : IxR X (rIxAll X.cw) := ix_seq.or ix_dic
theorem VRs.ix {C : Cw} {G : Hp} {al : Nat ⊕ Nat → Option Addr} {vs : List V} {ds : List D} {i : Int} {d : D} (h : VRs C G al vs ds) (e : atI ds i = some d) : ∃ v, atI vs i = some v ∧ VR C G al v d := by
  unfold atI at e ⊢
  rw [h.len]
  cases q : ixN ds.length i with
  | none => rw [q] at e; cases e
  | some j =>
    rw [q] at e
    exact h.at' e
theorem hop_ix {C : Cw} {W : WX} : Hop C W ixD (rIxAll C) := by
  intro k s σ H x y d e Q R r1 r2 p
  unfold ixD at p
  cases r1 with
  | @tup a xs ds h1 rs =>
    cases r2 with
    | int j =>
      cases q : atI ds j with
      | none => simp only [q] at p; exact p.elim
      | some d' =>
        simp only [q] at p
        obtain ⟨v, e1, rv⟩ := rs.ix q
        exact .inl (.inr (.inl ⟨a, xs, j, v, rfl, rfl, SqT.sub R.G h1.sq, e1, PostE.ret (s := s) p R rv⟩))
    | _ => exact p.elim
  | @lst a xs ds h1 rs =>
    cases r2 with
    | int j =>
      cases q : atI ds j with
      | none => simp only [q] at p; exact p.elim
      | some d' =>
        simp only [q] at p
        obtain ⟨v, e1, rv⟩ := rs.ix q
        exact .inl (.inl ⟨a, xs, j, v, rfl, rfl, SqL.sub R.G h1, e1, PostE.ret (s := s) p R rv⟩)
    | _ => exact p.elim
  | str z =>
    cases r2 with
    | int j =>
      by_cases c : z.length ≤ sizeLine
      · simp only [c, if_pos] at p
        cases q : atI z.cps.toList j with
        | none => simp only [q] at p; exact p.elim
        | some d' =>
          simp only [q] at p
          exact .inl (.inr (.inr ⟨z, j, d', rfl, rfl, c, q, PostE.ret (s := s) p R (.str _)⟩))
      · simp only [c] at p
        exact p.elim
    | _ => exact p.elim
  | @dic a xs ds h1 rs =>
    cases r2 with
    | int i =>
      rcases rs.look (.inl i) with ⟨h3, h4⟩ | ⟨v, d', h3, h4, rv⟩
      · simp only [keyO, h4] at p; exact p.elim
      · simp only [keyO, h4] at p
        exact .inr ⟨a, xs, .inl i, v, rfl, rfl, (SqD.sub R.G h1).rd, h3, PostE.ret (s := s) p R rv⟩
    | str i =>
      rcases rs.look (.inr i) with ⟨h3, h4⟩ | ⟨v, d', h3, h4, rv⟩
      · simp only [keyO, h4] at p; exact p.elim
      · simp only [keyO, h4] at p
        exact .inr ⟨a, xs, .inr i, v, rfl, rfl, (SqD.sub R.G h1).rd, h3, PostE.ret (s := s) p R rv⟩
    | _ => exact p.elim
  | @kdic a xs ds h1 rs =>
    cases r2 with
    | int i =>
      rcases rs.look (.inl i) with ⟨h3, h4⟩ | ⟨v, d', h3, h4, rv⟩
      · simp only [keyO, h4] at p; exact p.elim
      · simp only [keyO, h4] at p
        exact .inr ⟨a, xs, .inl i, v, rfl, rfl, Or.inr h1, h3, PostE.ret (s := s) p R rv⟩
    | str i =>
      rcases rs.look (.inr i) with ⟨h3, h4⟩ | ⟨v, d', h3, h4, rv⟩
      · simp only [keyO, h4] at p; exact p.elim
      · simp only [keyO, h4] at p
        exact .inr ⟨a, xs, .inr i, v, rfl, rfl, Or.inr h1, h3, PostE.ret (s := s) p R rv⟩
    | _ => exact p.elim
  | _ => exact p.elim
section
variable [LT] {X : Cx} {W : WX} {pos p2 : Pos} {e : Expr} {m : M D}
end
end DL
namespace DL
open PySem PySem.Spec PyProof.Rows L2
variable [FrI]
abbrev Fd := List D → List MO → Out D
inductive Fl where
  | next | brk | cont
  | ret (d : D)
def PostS (C : Cw) (W : WX) (k : Kp) (r : Out Fl) (D : Ends) : Prop := match r with
  | .ok .next s' => ∀ σ' H' k', k.le k' → Rep C k' s' σ' H' → D.nx σ' H'
  | .ok .brk s' => ∀ σ' H' k', k.le k' → Rep C k' s' σ' H' → D.bk σ' H'
  | .ok .cont s' => ∀ σ' H' k', k.le k' → Rep C k' s' σ' H' → D.ct σ' H'
  | .ok (.ret d) s' => ∀ σ' H' k', k.le k' → Rep C k' s' σ' H' → ∀ v, VR C k'.G k'.al v d → D.rt v H'
  | .exc x s' => ∀ c dx σ' H' k', k.le k' → Rep C k' s' σ' H' → XR k' C H' c dx x → W c dx σ' H'
  | .stuck => False
def tDS (C : Cw) (W : WX) (m : M Fl) : TS := fun D σ H => ∃ k s, Rep C k s σ H ∧ PostS C W k (m s) D
abbrev DS [LT] (X : Cx) (W : WX) (st : Stmt) (m : M Fl) : Prop := PS X st (tDS X.cw W m)
abbrev DSs [LT] (X : Cx) (W : WX) (sts : List Stmt) (m : M Fl) : Prop := PSs X sts (tDS X.cw W m)
abbrev WE (E : XK) : WX := fun c d _ H => E c d H
abbrev fr0 : FrI := ⟨[], fun _ => False⟩
abbrev frOf [LT] (X : Cx) : FrI := ⟨X.env.cells, fun id => ∀ L, LT.lam id = some L → X.Ok → NdefX.Caps X (cloFrom X.env.cells L.scope.names []) L.fr L.js⟩
abbrev PostD (C : Cw) (E : XK) (k : Kp) (r : Out D) (Q : VK) : Prop := @Post fr0 D C (WE E) k [] r fun d _ k' H' => ∀ v, VR C k'.G k'.al v d → Q v H'
def spD (C : Cw) (n : Nat) (g : Fd) : Sp := fun vs H Q E => vs.length = n ∧ ∃ k st ds, @Rep fr0 C k ⟨[], st⟩ [] H ∧ (∀ f, k.lam f = none) ∧ ArgRs C k vs ds ∧ PostD C E k (g ds st) Q
def initS (n : Nat) (ds : List D) (st : List MO) : S := ⟨ds.map D.slot ++ List.replicate (n - ds.length) .un, st⟩
def endD : Out Fl → Out D
  | .ok .next s' => .ok .non ⟨[], s'.st⟩
  | .ok (.ret d) s' => .ok d ⟨[], s'.st⟩
  | .ok .brk _ => .stuck
  | .ok .cont _ => .stuck
  | .exc x s' => .exc x ⟨[], s'.st⟩
  | .stuck => .stuck
def runDef (n : Nat) (m : M Fl) : Fd := fun ds st => endD (m (initS n ds st))
section
variable {C : Cw} {W : WX} {k : Kp} {σ : L2.St} {H : Hp} {s : S}
theorem Rep.reF (R : Rep C k s σ H) {F1 : Hp} (hs : ∀ a o, isX o → k.F a = some o → F1 a = some o) (h : ∀ a o, F1 a = some o → H a = some o ∧ k.G a = none ∧ ∀ x, k.al x ≠ some a) (ht : ∀ p ∈ C.T, F1 p.1 = none) (hk : ∀ a q, F1 a ≠ some (LamX.CodeO a q)) : Rep C { k with F := F1 } s σ H :=
  ⟨R.G, fun a o e => (h a o e).1, fun a o e => (h a o e).2.1, fun x o e => by
    obtain ⟨a, h1, h2⟩ := R.ob x o e
    exact ⟨a, h1, by cases o <;> exact h2⟩, fun x a e => ⟨(R.dom x a e).1, by
      cases q : F1 a with
      | none => exact q
      | some o => exact absurd e ((h a o q).2.2 x), (R.dom x a e).2.2⟩, R.inj, fun i t e => by
    obtain ⟨v, h1, h2⟩ := R.sl i t e
    refine ⟨v, h1, ?_⟩
    cases t with
    | fnv id cap =>
      obtain ⟨f, L, c', cl, ws, e1, r⟩ := h2
      exact ⟨f, L, c', cl, ws, e1, r.mono (fun _ _ e => e) (fun _ _ e => e) hs⟩
    | _ => exact h2, R.len, R.xt.tabs, fun p hp => ⟨(R.xt.gt p hp).1, ht p hp⟩, hk, R.xt.lams⟩
theorem Rep.old (R : Rep C k s σ H) : Rep C { k with F := k.F } s σ H := R
def onlyL (al : Nat ⊕ Nat → Option Addr) : Nat ⊕ Nat → Option Addr
  | .inl n => al (.inl n)
  | .inr _ => none
theorem Rep.close (R : Rep C k s σ H) : Rep C { k with al := onlyL k.al } ⟨[], s.st⟩ [] H ∧ k.le { k with al := onlyL k.al } := by
  have le : k.le { k with al := onlyL k.al } := ⟨fun _ _ h => h, rfl, fun _ _ h => h, fun _ _ h => h⟩
  refine ⟨⟨R.G, R.F, R.FG, fun x o e => ?_, fun x a e => ?_, fun x y a e1 e2 => ?_, fun i t e => ?_, rfl, R.xt.tabs, R.xt.gt, R.xt.fc, R.xt.lams⟩, le⟩
  · cases x with
    | inl n =>
      obtain ⟨a, h1, h2⟩ := R.ob (.inl n) o e
      exact ⟨a, h1, h2.up le⟩
    | inr i => exact absurd e (by intro z; cases z)
  · cases x with
    | inl n => exact R.dom (.inl n) a e
    | inr i => exact absurd e (by intro z; cases z)
  · cases x with
    | inl n =>
      cases y with
      | inl m => exact R.inj _ _ a e1 e2
      | inr i => exact absurd e2 (by intro z; cases z)
    | inr i => exact absurd e1 (by intro z; cases z)
  · exact absurd e (by intro z; simp at z)
theorem S.ob_l {s : S} {n : Nat} {o : MO} (h : s.ob (.inl n) = some o) : o.dat = true := by
  have h' : (match s.st[n]? with | some (.lst ds) => some (MO.lst ds) | some (.dic ds) => some (MO.dic ds) | _ => none) = some o := h
  split at h' <;> cases h' <;> rfl
theorem ObR.lamF {C : Cw} {k k' : Kp} {H : Hp} {a : Addr} {o : MO} (h : ObR C k H a o) (hd : o.dat = true) (hG : k'.G = k.G) (hal : ∀ n a, k.al (.inl n) = some a → k'.al (.inl n) = some a) : ObR C k' H a o := by
  cases o with
  | lst ds => obtain ⟨vs, q, r⟩ := h; exact ⟨vs, q, r.mono (fun _ _ e => by rw [hG]; exact e) hal⟩
  | dic ds => obtain ⟨vs, q, r⟩ := h; exact ⟨vs, q, r.mono (fun _ _ e => by rw [hG]; exact e) hal⟩
  | lams ids => cases hd
theorem Rep.reFr (fa fb : FrI) (R : @Rep fa C k s σ H) (hs : s.rho = []) : @Rep fb C { k with lam := fun _ => none } s σ H :=
  @RepF.mk fb _ _ _ _ _ R.G R.F R.FG (fun x o e => by
    obtain ⟨a, h1, h2⟩ := R.ob x o e
    refine ⟨a, h1, ?_⟩
    cases x with
    | inl n => exact h2.lamF (S.ob_l e) rfl fun _ _ e => e
    | inr i =>
      have e' : (match s.rho[i]? with | some (.own o) => some o | _ => none) = some o := e
      rw [hs] at e'
      exact absurd e' (by intro z; simp at z)) R.dom R.inj (fun i t e => by
    rw [hs] at e
    exact absurd e (by intro z; simp at z)) R.len (@XtF.mk fb _ _ _ R.xt.tabs R.xt.gt R.xt.fc (fun f id e => absurd e (by intro z; simp at z)))
theorem Rep.enter {st : List MO} {vs : List V} {ds : List D} (R : Rep C k ⟨[], st⟩ [] H) (r : ArgRs C k vs ds) (N : List Str) : Rep C k (initS N.length ds st) (L2.start N vs) H := by
  have noR : ∀ i a, k.al (.inr i) ≠ some a := fun i a e => by
    obtain ⟨_, _, o, q⟩ := R.dom _ _ e
    have q' : (match ([] : List Slot)[i]? with | some (.own o) => some o | _ => none) = some o := q
    simp at q'
  have obE : ∀ x, S.ob (initS N.length ds st) x = S.ob ⟨[], st⟩ x := fun x => by
    cases x with
    | inl n => rfl
    | inr i =>
      show (match (ds.map D.slot ++ List.replicate (N.length - ds.length) Slot.un)[i]? with | some (.own o) => some o | _ => none) = none
      by_cases hi : i < ds.length
      · rw [List.getElem?_append_left (by simpa using hi), List.getElem?_map, List.getElem?_eq_getElem hi]
        cases ds[i] <;> rfl
      · rw [List.getElem?_append_right (by simpa using hi), List.getElem?_replicate]
        split
        · rename_i h
          split at h <;> cases h
        · rfl
  refine ⟨R.G, R.F, R.FG, fun x o e => R.ob x o (by rw [← obE]; exact e), fun x a e => ?_, R.inj, fun i t e => ?_, ?_, R.xt⟩
  · obtain ⟨h1, h2, o, h3⟩ := R.dom x a e
    exact ⟨h1, h2, o, by rw [obE]; exact h3⟩
  · have e' : (ds.map D.slot ++ List.replicate (N.length - ds.length) Slot.un)[i]? = some t := e
    have hl := r.len
    by_cases hi : i < ds.length
    · rw [List.getElem?_append_left (by simpa using hi), List.getElem?_map, List.getElem?_eq_getElem hi] at e'
      have e2 : D.slot ds[i] = t := Option.some.inj e'
      subst e2
      obtain ⟨v, h1, h2⟩ := r.at' (i := i) (d := ds[i]) (List.getElem?_eq_getElem hi)
      refine ⟨some v, ?_, h2.slot⟩
      unfold L2.start
      rw [List.getElem?_append_left (by rw [List.length_map]; omega), List.getElem?_map, h1]
      rfl
    · rw [List.getElem?_append_right (by simpa using hi), List.getElem?_replicate] at e'
      split at e'
      · rename_i h
        have e2 : Slot.un = t := Option.some.inj e'
        subst e2
        rw [List.length_map] at h
        refine ⟨none, ?_, trivial⟩
        unfold L2.start
        rw [List.getElem?_append_right (by rw [List.length_map]; omega), List.getElem?_replicate, List.length_map, if_pos (by omega)]
      · cases e'
  · show (ds.map D.slot ++ List.replicate (N.length - ds.length) Slot.un).length = (L2.start N vs).length
    unfold L2.start
    rw [List.length_append, List.length_append, List.length_map, List.length_map, List.length_replicate, List.length_replicate, r.len]
end
theorem Rep.leave {k0 : Kp} (R : Rep C k s σ H) (h0 : ∀ f, k0.lam f = none) (l : Kp.le { k0 with lam := fun _ => none } k) : ∃ k', k0.le k' ∧ @Rep fr0 C k' ⟨[], s.st⟩ [] H ∧ k'.G = k.G ∧ ∀ n, k'.al (.inl n) = k.al (.inl n) := by
  obtain ⟨R2, l2⟩ := R.close
  have R3 := Rep.reFr _ fr0 R2 rfl
  exact ⟨⟨k.G, k.F, onlyL k.al, fun _ => none⟩, ⟨l.G, l.F, l.al, fun f i e => absurd e (by rw [h0]; intro z; cases z)⟩, R3, rfl, fun _ => rfl⟩
theorem frame_d {N : List Str} {m : M Fl} {E : XK} {k0 : Kp} {st : List MO} {ds : List D} {vs : List V} {Q : VK} (R : @Rep fr0 C k0 ⟨[], st⟩ [] H) (h0 : ∀ f, k0.lam f = none) (r : ArgRs C { k0 with lam := fun _ => none } vs ds) (p : PostD C E k0 (runDef N.length m ds st) Q) :
    tDS C (WE E) m { nx := fun _ H' => Q .non H', rt := Q } (L2.start N vs) H := by
  have Re := (Rep.reFr fr0 _ R rfl).enter r N
  refine ⟨_, _, Re, ?_⟩
  have p' : PostD C E k0 (endD (m (initS N.length ds st))) Q := p
  have xr' : ∀ {k1 k2 : Kp} {H' : Hp} {c : Value} {dx : Option Addr} {x : DX}, k2.G = k1.G → (∀ n, k2.al (.inl n) = k1.al (.inl n)) → XR k1 C H' c dx x → XR k2 C H' c dx x := fun hG hal xr => by
    exact ⟨xr.1, xr.2.mono (fun _ _ e => by rw [hG]; exact e) fun n a e => by rw [hal]; exact e⟩
  cases e : m (initS N.length ds st) with
  | stuck => rw [e] at p'; exact p'.elim
  | exc x s1 =>
    rw [e] at p'
    intro c dx σ' H' k' l R' xr
    obtain ⟨k2, l2, R2, g1, g2⟩ := R'.leave h0 l
    exact p' c dx H' _ l2 R2 (xr' g1 g2 xr)
  | ok fl s1 =>
    rw [e] at p'
    cases fl with
    | next =>
      intro σ' H' k' l R'
      obtain ⟨k2, l2, R2, g1, g2⟩ := R'.leave h0 l
      exact p' H' _ l2 R2 _ .non
    | brk => exact p'.elim
    | cont => exact p'.elim
    | ret d =>
      intro σ' H' k' l R' v rv
      obtain ⟨k2, l2, R2, g1, g2⟩ := R'.leave h0 l
      exact p' H' _ l2 R2 _ (rv.mono (fun _ _ e => by rw [g1]; exact e) fun n a e => by rw [g2]; exact e)
section
variable [LT] {P : Program} {w : World} {K : PySem.W.Frag} {mg : Str → Option Value} {base : Heap}
abbrev cwOf [LT] (P : Program) (w : World) (K : PySem.W.Frag) : Cw := ⟨P, w, K, LT.lam, LT.tabs K⟩
structure RoomG (k : Nat) (A : Around) : Prop where
  room : Room k A
  gd : A.guards = some []
theorem RoomG.deeper {k : Nat} {A : Around} (r : RoomG (k + 1) A) (env : Env) : RoomG k (A.deeper env) := ⟨r.room.deeper env, r.gd⟩
theorem RoomG.mono {j k : Nat} {A : Around} (r : RoomG k A) (h : j ≤ k) : RoomG j A := ⟨r.room.mono h, r.gd⟩
structure FnG (P : Program) (w : World) (K : PySem.W.Frag) (mg : Str → Option Value) (base : Heap) (CX : CXT) (k : Nat) (f : Addr) (fd : FuncData) (ps : List Str) (sp : Sp) : Prop where
  len : ∀ vs H Q E, sp vs H Q E → vs.length = ps.length
  run : ∀ (A : Around) (outer : List Env) (s : Shared) (H : Hp) (args : Args) (us : List Value) (vs : List V) (Q : VK) (E : XK), RoomG k A → Env0 P w K mg base A outer s H → BindsTo s fd args (ps.zip us) → Vals vs us → sp vs H Q E →
    codeAny (model P w) A (.call (.ref f) args) (CR CX outer P w H s Q E) s
theorem fnG_of {CX : CXT} {P : Program} {w : World} {K : PySem.W.Frag} {mg : Str → Option Value} {base : Heap} {k : Nat} {f : Addr} {name qual : Str} {params : Arguments} {body : List Stmt} {scope : Scope} {dV kV doc pm cdv ct oc : Value} {an od : Option Addr}
    {osl : Array (Option Value)} {N ps : List Str} {sp : Sp} (lk : K.lookup f = some ⟨oc, od, .func (PySem.W.fnOf name qual params body scope dV kV doc pm an cdv ct), osl⟩) (hcd : PySem.W.codeIn K cdv qual = true) (S : FnScope N ps scope) (len : ∀ vs H Q E, sp vs H Q E → vs.length = ps.length)
    (hbody : ∀ (A : Around) (outer : List Env) (s : Shared) (H : Hp) (vs : List V) (Q : VK) (E : XK), RoomG k (A.deeper (envOfC qual scope s.heap.objs.size f cdv)) → sp vs H Q E →
      ∃ t, PSs (cxOf CX P w K mg base N qual scope f cdv A outer s H E) body t ∧ t { nx := fun _ H' => Q .non H', rt := Q } (L2.start N vs) H) :
    FnG P w K mg base CX (k + 1) f (PySem.W.fnOf name qual params body scope dV kV doc pm an cdv ct) ps sp :=
  ⟨len, fun A outer s H args us vs Q E hr e0 hb r hsp => LamX.run_ofS lk hcd S hr.room e0 hb r (len _ _ _ _ hsp) fun hr' => hbody A outer s H vs Q E ⟨hr', hr.gd⟩ hsp⟩
abbrev BodyD [LT] (P : Program) (w : World) (K : PySem.W.Frag) (mg : Str → Option Value) (base : Heap) (n : Nat) (N : List Str) (qual : Str) (scope : Scope) (f : Addr) (cdv : Value) (body : List Stmt) (m : M Fl) : Prop :=
  ∀ (A : Around) (outer : List Env) (s : Shared) (H : Hp) (E : XK), RoomG n (A.deeper (envOfC qual scope s.heap.objs.size f cdv)) →
      @DSs (frOf (cxOf (L2.CX P w) P w K mg base N qual scope f cdv A outer s H E)) _ (cxOf (L2.CX P w) P w K mg base N qual scope f cdv A outer s H E) (WE E) body m
theorem fn_d {x qual : Str} {st : Stmt} {f : Addr} {fd : FuncData} {N ps : List Str} {n : Nat} {m : M Fl} (F : Fun K x qual st f fd) (S : FnScope N ps (defScope st))
    (hbody : BodyD P w K mg base n N qual (defScope st) f fd.code (defBody st) m) : FnG P w K mg base (L2.CX P w) (n + 1) f fd ps (spD (cwOf P w K) ps.length (runDef N.length m)) := by
  obtain ⟨oc, od, kV, doc, pm, an, cdv, ct, osl, rfl, lk, hcd⟩ := F.ex
  refine fnG_of lk hcd S (fun vs H Q E h => h.1) fun A outer s H vs Q E hr h => ⟨_, hbody A outer s H E hr, ?_⟩
  obtain ⟨_, k, st', ds, R, k0, r, p⟩ := h
  exact @frame_d (frOf (cxOf (L2.CX P w) P w K mg base N qual (defScope st) f cdv A outer s H E)) _ _ _ _ _ _ _ _ _ _ R k0 (ArgRs.mono (k := k) (k' := ⟨k.G, k.F, k.al, fun _ => none⟩) (fun _ _ e => e) (fun _ _ e => e) (fun _ _ _ e => e) r) p
end
def runCall (g : Fd) (xs : List D) : M D := fun s => match g xs s.st with
  | .ok d s' => .ok d { s with st := s'.st }
  | .exc x s' => .exc x { s with st := s'.st }
  | .stuck => .stuck
def mCall (g : Fd) (n : Nat) (a : M (List D)) : M D := do let xs ← a; if xs.length = n then runCall g xs else stuck
structure Gs where
  P : Program
  w : World
  K : PySem.W.Frag
  mg : Str → Option Value
  base : Heap
abbrev gsOf (X : Cx) : Gs := ⟨X.prog, X.w, X.K, X.mg, X.base⟩
structure Callee [LT] (g : Gs) (n : Nat) (x : Str) (ps : List Str) (fd : Fd) : Prop where
  ok : ∃ f fdt, FnG g.P g.w g.K g.mg g.base (L2.CX g.P g.w) n f fdt ps (spD (cwOf g.P g.w g.K) ps.length fd) ∧ g.mg x = some (.ref f) ∧ PySem.W.keepIn g.K (.ref f) = true ∧ Binds g.K fdt ps []
section
open Classical
variable {C : Cw} {W : WX} {k : Kp} {σ : L2.St} {H : Hp} {s : S}
def frA (k : Kp) (a : Addr) : Prop := (∃ i, k.al (.inr i) = some a) ∨ ∃ id, k.lam a = some id
noncomputable def frF (k : Kp) (H : Hp) : Hp := fun a => if frA k a then H a else k.F a
theorem frA.of {a : Addr} (R : Rep C k s σ H) (h : frA k a) : k.G a = none ∧ (∀ n, k.al (.inl n) ≠ some a) ∧ ∃ u, H a = some u ∧ (¬ isX u ∨ ∃ L cl c', u = LamO a L cl c') := by
  have noX : ∀ x u, isX u → H a = some u → k.al x ≠ some a := fun x u hu e z => by
    obtain ⟨_, _, o, q⟩ := R.dom x a z
    obtain ⟨b, h1, h2⟩ := R.ob x o q
    rw [z] at h1
    cases h1
    have w := h2.ok
    rw [e] at w
    exact w hu
  rcases h with ⟨i, hi⟩ | ⟨id, h⟩
  · refine ⟨(R.dom _ _ hi).1, fun n z => absurd (R.inj _ _ a z hi) (by intro q; cases q), ?_⟩
    obtain ⟨_, _, o, q⟩ := R.dom _ a hi
    obtain ⟨b, h1, h2⟩ := R.ob _ o q
    rw [hi] at h1
    cases h1
    obtain ⟨u, hu⟩ := h2.live
    refine ⟨u, hu, .inl ?_⟩
    have w := h2.ok
    rw [hu] at w
    exact w
  · obtain ⟨L, c', h1, h2, h3, h4⟩ := R.xt.lams a id h
    exact ⟨h4, fun n => noX _ _ (isX_ext _) h2, _, h2, .inr ⟨L, _, c', rfl⟩⟩
theorem frF_at {a : Addr} (h : frA k a) : frF k H a = H a := by
  unfold frF
  rw [if_pos h]
theorem frF_old (R : Rep C k s σ H) {a : Addr} {o : HO} (e : k.F a = some o) : frF k H a = some o := by
  unfold frF
  by_cases c : frA k a
  · rw [if_pos c]
    exact R.F _ _ e
  · rw [if_neg c]
    exact e
theorem frF_tbl (R : Rep C k s σ H) {p : Addr × Str} (hp : p ∈ C.T) : frF k H p.1 = none := by
  unfold frF
  by_cases c : frA k p.1
  · obtain ⟨h1, h2, u, h3, h4⟩ := c.of R
    obtain ⟨ps, e, _⟩ := R.xt.tabs p hp
    rw [h3] at e
    cases e
    rcases h4 with h4 | ⟨L, cl, c', h4⟩
    · exact absurd (isX_tbl _) h4
    · cases h4
  · rw [if_neg c]
    exact (R.xt.gt p hp).2
theorem heap_at (a : Addr) (o : Obj) (ho : o.data ≠ .freed) : ∃ h : Heap, h.get? a = some o := by
  refine ⟨{ objs := Array.replicate (a + 1) o }, ?_⟩
  unfold Heap.get?
  have e : (Array.replicate (a + 1) o)[a]? = some o := by simp
  rw [e]
  obtain ⟨c, d, dt, sl⟩ := o
  cases dt <;> first | rfl | exact absurd rfl ho
theorem lam_code {a : Addr} {L : LamSpec} {cl : List (Str × Addr)} {c' : Addr} {q : Str} : LamO a L cl c' ≠ LamX.CodeO a q := fun z => by
  obtain ⟨h, e⟩ := heap_at a (PySem.W.kla_obj "<lambda>" L.qual L.params L.body L.scope cl .none c' .none) (by intro q; cases q)
  have z' := HO.ext.inj z
  have p : (∃ (oc : Obj) (vs : Array Value) (t : Tok), h.get? a = some oc ∧ oc.data = .fields vs ∧ vs[1]? = some (.str q t)) := by
    have := congrFun z' h
    rw [← this]
    exact ⟨.none, .none, e⟩
  obtain ⟨oc, vs, t, e1, e2, _⟩ := p
  rw [e] at e1
  cases e1
  cases e2
theorem frF_code (R : Rep C k s σ H) (a : Addr) (q : Str) : frF k H a ≠ some (LamX.CodeO a q) := by
  unfold frF
  by_cases c : frA k a
  · rw [if_pos c]
    obtain ⟨h1, h2, u, h3, h4⟩ := c.of R
    rw [h3]
    intro e
    cases e
    rcases h4 with h4 | ⟨L, cl, c', h4⟩
    · exact h4 (isX_ext _)
    · exact lam_code h4.symm
  · rw [if_neg c]
    exact R.xt.fc a q
noncomputable def kIn (k : Kp) (H : Hp) : Kp := ⟨k.G, frF k H, onlyL k.al, fun _ => none⟩
theorem Rep.toCall (R : Rep C k s σ H) : @Rep fr0 C (kIn k H) ⟨[], s.st⟩ [] H := by
  obtain ⟨R1, _⟩ := R.close
  refine Rep.reFr _ fr0 (k := { { k with al := onlyL k.al } with F := frF k H }) (R1.reF (fun a o _ e => frF_old R e) (fun a o e => ?_) (fun p hp => frF_tbl R hp) (frF_code R)) rfl
  unfold frF at e
  by_cases c : frA k a
  · rw [if_pos c] at e
    obtain ⟨h1, h2, u, h3, h4⟩ := c.of R
    rw [h3] at e
    cases e
    refine ⟨h3, h1, fun x z => ?_⟩
    cases x with
    | inl n => exact h2 n z
    | inr j => exact absurd z (by intro q; cases q)
  · rw [if_neg c] at e
    refine ⟨R.F _ _ e, R.FG _ _ e, fun x z => ?_⟩
    cases x with
    | inl n =>
      have := (R.dom (.inl n) a z).2.1
      rw [e] at this
      cases this
    | inr j => exact absurd z (by intro q; cases q)
theorem Rep.ofCall (R : Rep C k s σ H) {k' : Kp} {st : List MO} {H' : Hp} (l : Kp.le (kIn k H) k') (R' : @Rep fr0 C k' ⟨[], st⟩ [] H') :
    ∃ k2, k.le k2 ∧ Rep C k2 { s with st := st } σ H' ∧ (∀ v d, VR C k'.G k'.al v d → VR C k2.G k2.al v d) ∧ (∀ v d, VRx C k'.G k'.al v d → VRx C k2.G k2.al v d) := by
  have hF : k'.F = frF k H := l.F
  have slot : ∀ i a, k.al (.inr i) = some a → frF k H a = H a := fun i a e => frF_at (.inl ⟨i, e⟩)
  have old : ∀ a o, k.F a = some o → frF k H a = some o := fun a o e => frF_old R e
  let al2 : Nat ⊕ Nat → Option Addr := fun x => match x with
    | .inl n => k'.al (.inl n)
    | .inr i => k.al (.inr i)
  have hv : ∀ v d, VR C k'.G k'.al v d → VR C k'.G al2 v d := fun v d h => h.mono (al := k'.al) (al' := al2) (fun _ _ e => e) (fun _ _ e => e)
  have lk : k.le ⟨k'.G, k.F, al2, k.lam⟩ := ⟨l.G, rfl, l.al, fun _ _ e => e⟩
  refine ⟨⟨k'.G, k.F, al2, k.lam⟩, lk, ⟨R'.G, fun a o e => ?_, fun a o e => ?_, fun x o e => ?_, fun x a e => ?_, fun x y a e1 e2 => ?_, fun i t e => ?_, R.len, R'.xt.tabs, fun p hp => ⟨(R'.xt.gt p hp).1, (R.xt.gt p hp).2⟩, R.xt.fc, fun f id e => ?_⟩, hv, fun v d h => h.mono (al := k'.al) (al' := al2) (fun _ _ e => e) (fun _ _ e => e)⟩
  · exact R'.F _ _ (by rw [hF]; exact old _ _ e)
  · exact R'.FG _ o (by rw [hF]; exact old _ _ e)
  · cases x with
    | inl n =>
      obtain ⟨a, h1, h2⟩ := R'.ob (.inl n) o e
      exact ⟨a, h1, h2.lamF (S.ob_l e) rfl fun _ _ e => e⟩
    | inr i =>
      obtain ⟨a, h1, h2⟩ := R.ob (.inr i) o e
      refine ⟨a, h1, (h2.up lk).at ?_⟩
      obtain ⟨u, hu⟩ := h2.live
      have e1 : k'.F a = some u := by rw [hF, slot i a h1]; exact hu
      rw [hu]
      exact R'.F _ _ e1
  · cases x with
    | inl n =>
      obtain ⟨h1, h2, h3⟩ := R'.dom (.inl n) a e
      refine ⟨h1, ?_, h3⟩
      show k.F a = none
      cases q : k.F a with
      | none => rfl
      | some o =>
        have z := old _ _ q
        rw [← hF, h2] at z
        cases z
    | inr i =>
      obtain ⟨h1, h2, o, h3⟩ := R.dom (.inr i) a e
      obtain ⟨u, hu⟩ := R.live e
      exact ⟨R'.FG a u (by rw [hF, slot i a e]; exact hu), h2, o, h3⟩
  · have mix : ∀ n i a, k'.al (.inl n) = some a → k.al (.inr i) = some a → False := fun n i a h1 h2 => by
      obtain ⟨u, hu⟩ := R.live h2
      have z := (R'.dom _ _ h1).2.1
      rw [hF, slot i a h2, hu] at z
      cases z
    cases x with
    | inl n =>
      cases y with
      | inl m => exact R'.inj _ _ a e1 e2
      | inr i => exact (mix n i a e1 e2).elim
    | inr i =>
      cases y with
      | inl m => exact (mix m i a e2 e1).elim
      | inr j => exact R.inj _ _ a e1 e2
  · obtain ⟨v, h1, h2⟩ := R.sl i t e
    exact ⟨v, h1, h2.up lk fun _ z => z⟩
  · obtain ⟨L, c', h1, h2, h3, h4⟩ := R.xt.lams f id e
    have f1 : frF k H f = some _ := (frF_at (.inr ⟨id, e⟩)).trans h2
    exact ⟨L, c', h1, R'.F _ _ (by rw [hF]; exact f1), l.G _ _ h3, R'.FG _ _ (by rw [hF]; exact f1)⟩
theorem call_d {n : Nat} {g : Fd} {vs : List V} {ds : List D} {Q : VK} (R : Rep C k s σ H) (r : VRs C k.G k.al vs ds) (hl : vs.length = n)
    (p : PostE C W k σ (runCall g ds s) Q) : spD C n g vs H Q (fun c d H' => W c d σ H') := by
  unfold runCall at p
  refine ⟨hl, kIn k H, s.st, ds, R.toCall, fun _ => rfl, VRs.arg (k := kIn k H) (VRs.mono (al := k.al) (al' := onlyL k.al) (fun _ _ e => e) (fun _ _ e => e) r), ?_⟩
  have hrho : ∀ {k' : Kp} {s' : S} {H' : Hp}, @Rep fr0 C k' s' [] H' → s' = ⟨[], s'.st⟩ := fun {k' s' H'} R' => by
    have := R'.len
    cases s' with
    | mk rho st =>
      cases rho with
      | nil => rfl
      | cons => simp at this
  cases e : g ds s.st with
  | stuck => rw [e] at p; exact p.elim
  | exc x s' =>
    rw [e] at p
    intro c dx H' k' l R' xr
    rw [hrho R'] at R'
    obtain ⟨k2, l2, R2, hv, hx⟩ := R.ofCall l R'
    exact p c dx H' k2 l2 R2 ⟨xr.1, hx _ _ xr.2⟩
  | ok d s' =>
    rw [e] at p
    intro H' k' l R' v rv
    rw [hrho R'] at R'
    obtain ⟨k2, l2, R2, hv, hx⟩ := R.ofCall l R'
    exact p H' k2 l2 R2 v (hv v d rv)
end
section
variable [LT] {X : Cx} {W : WX} {pos p : Pos} {x : Str} {e : Expr} {es : List Expr} {ms : M (List D)} {n : Nat} {ps : List Str} {g : Fd}
theorem passAt_W [LT] {X : Cx} {W : WX} (tk : Takes X W) (σ : L2.St) : PassesAt (L2.CX X.prog X.w) X σ (fun c d H' => W c d σ H') := fun pins H s u s' I c => tk u s' (XE.of_call I (fun _ _ _ h => h) c)
theorem pe_callG {CX : CXT} {k : Nat} {f : Addr} {fd : FuncData} {sp : Sp} {E : L2.St → XK} {t : TA} (F : FnG X.prog X.w X.K X.mg X.base CX k f fd ps sp) (hr : RoomG k X.A) (hg : Gl X x) (hm : X.mg x = some (.ref f)) (hk : PySem.W.keepIn X.K (.ref f) = true) (hb : Binds X.K fd ps []) (hx : ∀ σ, PassesAt CX X σ (E σ))
    (ha : PA X (e :: es) t) (hdb : (x == ("__debug__" : Str)) = false := by decide) (he : starEach (e :: es) X.env = (false, eval e X.env) :: starEach es X.env := by rfl) (hpl : (backTo pos (starEach es X.env)).any (·.1) = false := by rfl) :
    PE X (.Call (.Name x p) (e :: es) [] pos) (fun σ H Q => t σ H fun vs H1 => sp vs H1 Q (E σ)) := by
  refine ⟨fun pins s σ H Q I h => ?_⟩
  refine wpAny_Call_Name_kw (ld_glob I hg hm ?_ hdb)
  refine PySem.W.callWith_K (h₀ := X.base) I.ok.mod.kin hk (thn (ha.run pos pins s σ H _ I h) fun us s1 ⟨vs, H1, I1, r, q⟩ => ⟨I1.kIn, ?_⟩) he hpl
  have hl : us.length = ps.length := by rw [← r.length]; exact F.len _ _ _ _ q
  have hb2 := hb s1 us I1.kIn (by rw [List.append_nil]; exact hl)
  rw [List.append_nil] at hb2
  show wpAny _ _ (call (.ref f) us) _ _ _
  refine wpAny_call (codeAny_mono (F.run X.A X.stack s1 H1 ⟨us, []⟩ us vs Q (E σ) hr I1.env0 hb2 r q) fun res s' hq => ?_)
  cases res with
  | error e => exact hx σ pins H1 s1 e s' I1 hq
  | ok fl =>
    cases fl with
    | ret u => exact I1.after hq
    | next => exact False.elim hq
    | brk => exact False.elim hq
    | cont => exact False.elim hq
theorem de_call (hc : Callee (gsOf X) n x ps g) (hr : RoomG n X.A) (tk : Takes X W) (ha : DA X W (e :: es) ms) (hg : Gl X x := by rfl) (hdb : (x == ("__debug__" : Str)) = false := by decide)
    (he : starEach (e :: es) X.env = (false, eval e X.env) :: starEach es X.env := by rfl) (hpl : (backTo pos (starEach es X.env)).any (·.1) = false := by rfl) {kn : Nat} (hkn : ps.length = kn := by rfl) : DE X W (.Call (.Name x p) (e :: es) [] pos) (mCall g kn ms) := by
  subst hkn
  obtain ⟨f, fd, F, hm, hk, hb⟩ := hc.ok
  refine PE_mono (pe_callG (E := fun σ c d H' => W c d σ H') F hr hg hm hk hb (fun σ => passAt_W tk σ) ha hdb he hpl) fun σ H Q h => ?_
  obtain ⟨k, s, R, p⟩ := h
  refine tDA_bind R p fun ds s1 k1 H1 vs l1 R1 r1 p1 => ?_
  by_cases c : ds.length = ps.length
  · simp only [c, if_pos] at p1
    exact call_d R1 r1 (by rw [r1.len]; exact c) p1
  · simp only [c] at p1
    exact p1.elim
end
end DL
namespace DL
open PySem PySem.Spec PyProof.Rows L2
variable [FrI]
section
variable {C : Cw} {W : WX} {k : Kp} {σ : L2.St} {H : Hp} {s : S}
theorem PostS.up {k' : Kp} {r : Out Fl} {D : Ends} (h : PostS C W k r D) (l : k.le k') : PostS C W k' r D := by
  cases r with
  | ok a s' =>
    cases a with
    | ret d => exact fun σ' H' k'' l' R => h σ' H' k'' (l.trans l') R
    | _ => exact fun σ' H' k'' l' R => h σ' H' k'' (l.trans l') R
  | exc x s' => exact fun c dx σ' H' k'' l' R => h c dx σ' H' k'' (l.trans l') R
  | stuck => exact h
theorem PostS.bind {α : Type} {m : M α} {f : α → M Fl} {D : Ends} (h : PostS C W k ((m >>= f) s) D) : Post C W k σ (m s) fun a s' k' _ => PostS C W k' (f a s') D := by
  have e : (m >>= f) s = M.bind m f s := rfl
  rw [e] at h
  unfold M.bind at h
  cases q : m s with
  | ok a s' =>
    rw [q] at h
    exact fun H' k' l R => PostS.up h l
  | exc x s' =>
    rw [q] at h
    exact fun c dx H' k' l R x => h c dx σ H' k' l R x
  | stuck =>
    rw [q] at h
    exact h
theorem tD_bindS {m : M D} {f : D → M Fl} {D : Ends} (R : Rep C k s σ H) (h : PostS C W k ((m >>= f) s) D) {Q : VK}
    (hq : ∀ d s' k' H' v, k.le k' → Rep C k' s' σ H' → VR C k'.G k'.al v d → PostS C W k' (f d s') D → Q v H') : tD C W m σ H Q :=
  ⟨k, s, R, (PostS.bind h).imp fun d s' k' H' l R' p v rv => hq d s' k' H' v l R' rv p⟩
theorem tDB_bindS {m : M Bool} {f : Bool → M Fl} {D : Ends} (R : Rep C k s σ H) (h : PostS C W k ((m >>= f) s) D) {Q : Bool → Hp → Prop}
    (hq : ∀ d s' k' H', k.le k' → Rep C k' s' σ H' → PostS C W k' (f d s') D → Q d H') : tDB C W m σ H Q :=
  ⟨k, s, R, (PostS.bind h).imp fun d s' k' H' l R' p => hq d s' k' H' l R' p⟩
theorem PostS.next {D : Ends} (p : PostS C W k (.ok .next s) D) (R : Rep C k s σ H) : D.nx σ H := p σ H k (.refl k) R
theorem PostS.mono {r : Out Fl} {D D' : Ends} (h : PostS C W k r D) (h1 : ∀ s' σ' H' k', k.le k' → Rep C k' s' σ' H' → r = .ok .next s' → D.nx σ' H' → D'.nx σ' H') (h2 : ∀ s' σ' H' k', k.le k' → Rep C k' s' σ' H' → r = .ok .brk s' → D.bk σ' H' → D'.bk σ' H')
    (h3 : ∀ s' σ' H' k', k.le k' → Rep C k' s' σ' H' → r = .ok .cont s' → D.ct σ' H' → D'.ct σ' H') (h4 : ∀ v H', D.rt v H' → D'.rt v H') : PostS C W k r D' := by
  cases r with
  | ok a s' =>
    cases a with
    | next => exact fun σ' H' k' l R => h1 s' σ' H' k' l R rfl (h σ' H' k' l R)
    | brk => exact fun σ' H' k' l R => h2 s' σ' H' k' l R rfl (h σ' H' k' l R)
    | cont => exact fun σ' H' k' l R => h3 s' σ' H' k' l R rfl (h σ' H' k' l R)
    | ret d => exact fun σ' H' k' l R v rv => h4 v H' (h σ' H' k' l R v rv)
  | exc x s' => exact h
  | stuck => exact h
end
def mThen (a b : M Fl) : M Fl := do
  let f ← a
  match f with
  | .next => b
  | f => M.pure f
def mNext : M Fl := M.pure .next
section
variable [LT] {X : Cx} {W : WX} {st : Stmt} {rest : List Stmt} {a b : M Fl} {pos : Pos}
theorem dss_nil : DSs X W [] mNext := PSs_mono pss_nil fun D σ H h => by
  obtain ⟨k, s, R, p⟩ := h
  exact PostS.next p R
theorem dss_one (h : DS X W st a) : DSs X W [st] a := pss_one h
theorem rd_then {C : Cw} {D : Ends} {σ : L2.St} {H : Hp} (h : tDS C W (mThen a b) D σ H) : tSeq (tDS C W a) (tDS C W b) D σ H := by
  obtain ⟨k, s, R, p⟩ := h
  refine ⟨k, s, R, ?_⟩
  have p' : PostS C W k (M.bind a (fun f => match f with | .next => b | f => M.pure f) s) D := p
  unfold M.bind at p'
  cases e : a s with
  | stuck => rw [e] at p'; exact p'
  | exc x s' => rw [e] at p'; exact p'
  | ok f s' =>
    rw [e] at p'
    cases f with
    | next => exact fun σ' H' k' l R' => ⟨k', s', R', p'.up l⟩
    | brk => exact p'
    | cont => exact p'
    | ret d => exact p'
theorem dss_cons (h : DS X W st a) (hr : DSs X W rest b) : DSs X W (st :: rest) (mThen a b) := PSs_mono (pss_cons h hr) fun _ _ _ h => rd_then h
def mRet (m : M D) : M Fl := do let d ← m; M.pure (.ret d)
theorem ds_ret {e : Expr} {m : M D} (h : DE X W e m) : DS X W (.Return (some e) pos) (mRet m) := PS_mono (ps_ret h) fun D σ H h => by
  obtain ⟨k, s, R, p⟩ := h
  exact tD_bindS R p fun d s1 k1 H1 v l1 R1 r1 p1 => p1 σ H1 k1 (.refl _) R1 v r1
def mExpr (m : M D) : M Fl := do let _ ← m; M.pure .next
theorem ds_expr {e : Expr} {m : M D} (h : DE X W e m) (hs : swapsWith e none pos.line X.env = pure false := by rfl) : DS X W (.Expr e pos) (mExpr m) := PS_mono (ps_expr h hs) fun D σ H h => by
  obtain ⟨k, s, R, p⟩ := h
  exact tD_bindS R p fun d s1 k1 H1 v l1 R1 r1 p1 => PostS.next p1 R1
def mIfS (c : M Bool) (a b : M Fl) : M Fl := do let x ← c; if x = true then a else b
theorem ds_if {c : Expr} {ts es : List Stmt} {mc : M Bool} (hc : DT X W c mc) (ha : DSs X W ts a) (hb : DSs X W es b) : DS X W (.If c ts es pos) (mIfS mc a b) := PS_mono (ps_if hc ha hb) fun D σ H h => by
  obtain ⟨k, s, R, p⟩ := h
  refine tDB_bindS R p fun x s1 k1 H1 l1 R1 p1 => ?_
  cases x with
  | true => exact ⟨k1, s1, R1, p1⟩
  | false => exact ⟨k1, s1, R1, p1⟩
end
def S.put (s : S) (i : Nat) (t : Slot) : S := { s with rho := s.rho.set i t }
def delK (al : Nat ⊕ Nat → Option Addr) (x : Nat ⊕ Nat) : Nat ⊕ Nat → Option Addr := fun y => if y = x then none else al y
section
variable {C : Cw} {W : WX} {k : Kp} {σ : L2.St} {H : Hp} {s : S}
theorem delK_some {al : Nat ⊕ Nat → Option Addr} {x y : Nat ⊕ Nat} {a : Addr} (h : delK al x y = some a) : y ≠ x ∧ al y = some a := by
  unfold delK at h
  by_cases c : y = x
  · rw [if_pos c] at h; cases h
  · rw [if_neg c] at h; exact ⟨c, h⟩
theorem delK_ne {al : Nat ⊕ Nat → Option Addr} {x y : Nat ⊕ Nat} (h : y ≠ x) : delK al x y = al y := by
  unfold delK
  rw [if_neg h]
theorem Rep.setUn (R : Rep C k s σ H) (i : Nat) (v : Option V) : Rep C { k with al := delK k.al (.inr i) } (s.put i .un) (σ.set i v) H ∧ k.le { k with al := delK k.al (.inr i) } := by
  have le : k.le { k with al := delK k.al (.inr i) } := ⟨fun _ _ e => e, rfl, fun n a e => by
    show delK k.al (.inr i) (.inl n) = some a
    rw [delK_ne (by intro z; cases z)]
    exact e, fun _ _ e => e⟩
  refine ⟨⟨R.G, R.F, R.FG, fun x o e => ?_, fun x a e => ?_, fun x y a e1 e2 => ?_, fun j t e => ?_, ?_, R.xt.tabs, R.xt.gt, R.xt.fc, R.xt.lams⟩, le⟩
  · by_cases hx : x = .inr i
    · subst hx
      exfalso
      have e' : (match (s.rho.set i Slot.un)[i]? with | some (.own o) => some o | _ => none) = some o := e
      by_cases hl : i < s.rho.length
      · rw [List.getElem?_set_self hl] at e'; cases e'
      · rw [List.getElem?_eq_none (by rw [List.length_set]; omega)] at e'; cases e'
    · have e' : s.ob x = some o := by rw [← S.ob_set x hx]; exact e
      obtain ⟨a, h1, h2⟩ := R.ob x o e'
      exact ⟨a, by show delK k.al (.inr i) x = some a; rw [delK_ne hx]; exact h1, h2.up le⟩
  · obtain ⟨hx, e'⟩ := delK_some e
    obtain ⟨h1, h2, o, h3⟩ := R.dom x a e'
    exact ⟨h1, h2, o, by rw [show S.ob (s.put i .un) x = s.ob x from S.ob_set x hx]; exact h3⟩
  · exact R.inj x y a (delK_some e1).2 (delK_some e2).2
  · have e' : (s.rho.set i Slot.un)[j]? = some t := e
    by_cases hj : i = j
    · subst hj
      by_cases hl : i < s.rho.length
      · rw [List.getElem?_set_self hl] at e'
        cases e'
        exact ⟨v, by rw [List.getElem?_set_self (by rw [← R.len]; exact hl)], trivial⟩
      · rw [List.getElem?_eq_none (by rw [List.length_set]; omega)] at e'; cases e'
    · rw [List.getElem?_set_ne hj] at e'
      obtain ⟨w, h1, h2⟩ := R.sl j t e'
      exact ⟨w, by rw [List.getElem?_set_ne hj]; exact h1, h2.up le fun a ha => by
        show delK k.al (.inr i) (.inr j) = some a
        rw [delK_ne (fun z => hj (Sum.inr.inj z).symm)]
        exact ha⟩
  · show (s.rho.set i Slot.un).length = (σ.set i v).length
    rw [List.length_set, List.length_set]
    exact R.len
theorem Rep.setSl (R : Rep C k s σ H) {v : Option V} {t0 : Slot} {i : Nat} (ho : ∀ o, t0 ≠ .own o) (r : SltR C k i v t0) : Rep C { k with al := delK k.al (.inr i) } (s.put i t0) (σ.set i v) H ∧ k.le { k with al := delK k.al (.inr i) } := by
  obtain ⟨R', le⟩ := R.setUn i v
  have r' : SltR C { k with al := delK k.al (.inr i) } i v t0 := by
    cases t0 with
    | own o => exact absurd rfl (ho o)
    | un => trivial
    | val d => obtain ⟨x, q, w⟩ := r; exact ⟨x, q, w.up le⟩
    | lam id => exact r
    | fnv id cap => obtain ⟨f, L, c', cl, ws, q, w⟩ := r; exact ⟨f, L, c', cl, ws, q, w.up le⟩
  refine ⟨⟨R'.G, R'.F, R'.FG, fun x o e => ?_, fun x a e => ?_, R'.inj, fun j t e => ?_, ?_, R'.xt⟩, le⟩
  · by_cases hx : x = .inr i
    · subst hx
      exfalso
      have e' : (match (s.rho.set i t0)[i]? with | some (.own o) => some o | _ => none) = some o := e
      by_cases hl : i < s.rho.length
      · rw [List.getElem?_set_self hl] at e'
        cases t0 with
        | own o => exact absurd rfl (ho o)
        | _ => cases e'
      · rw [List.getElem?_eq_none (by rw [List.length_set]; omega)] at e'; cases e'
    · refine R'.ob x o ?_
      rw [show S.ob (s.put i .un) x = s.ob x from S.ob_set x hx, ← S.ob_set (t := t0) x hx]
      exact e
  · obtain ⟨h1, h2, o, h3⟩ := R'.dom x a e
    obtain ⟨hx, _⟩ := delK_some (show delK k.al (.inr i) x = some a from e)
    refine ⟨h1, h2, o, ?_⟩
    rw [show S.ob (s.put i t0) x = s.ob x from S.ob_set x hx, ← S.ob_set (t := .un) x hx]
    exact h3
  · have e' : (s.rho.set i t0)[j]? = some t := e
    by_cases hj : i = j
    · subst hj
      by_cases hl : i < s.rho.length
      · rw [List.getElem?_set_self hl] at e'
        cases e'
        exact ⟨v, by rw [List.getElem?_set_self (by rw [← R.len]; exact hl)], r'⟩
      · rw [List.getElem?_eq_none (by rw [List.length_set]; omega)] at e'; cases e'
    · refine R'.sl j t ?_
      show (s.rho.set i Slot.un)[j]? = some t
      rw [List.getElem?_set_ne hj]
      rw [List.getElem?_set_ne hj] at e'
      exact e'
  · show (s.rho.set i t0).length = (σ.set i v).length
    rw [List.length_set, List.length_set]
    exact R.len
theorem Rep.setVal (R : Rep C k s σ H) {v : V} {d : D} (r : VR C k.G k.al v d) (i : Nat) : Rep C { k with al := delK k.al (.inr i) } (s.put i (.val d)) (σ.set i (some v)) H ∧ k.le { k with al := delK k.al (.inr i) } :=
  R.setSl (fun o z => by cases z) ⟨v, rfl, r⟩
end
def mPut (i : Nat) (d : D) : M Unit := fun s => .ok () (s.put i (.val d))
def toS (m : M Unit) : M Fl := fun s => match m s with
  | .ok _ s' => .ok .next s'
  | .exc x s' => .exc x s'
  | .stuck => .stuck
def mSet (i : Nat) (m : M D) : M Fl := do let d ← m; toS (mPut i d)
def PG_ [LT] (X : Cx) (W : WX) (tg : Expr) (f : D → M Unit) : Prop := PG X tg (fun v σ H Q => ∃ k s d, Rep X.cw k s σ H ∧ VR X.cw k.G k.al v d ∧ PostS X.cw W k (toS (f d) s) { nx := Q, rt := fun _ _ => False })
section
variable [LT] {X : Cx} {W : WX} {pos pos' : Pos} {e : Expr} {m : M D} {x : Str}
theorem PG_mono {tg : Expr} {t t' : TG} (h : PG X tg t) (f : ∀ v σ H Q, t' v σ H Q → t v σ H Q) : PG X tg t' := ⟨fun pins s σ H v u Q I r q => h.run pins s σ H v u Q I r (f _ _ _ _ q)⟩
theorem ds_set (i : Nat) (hN : X.N.Nodup) (hi : X.N[i]? = some x) (hx : Loc X.env.scope x) (he : DE X W e m) (hs : swapsWith e (some (.Name x pos')) pos.line X.env = pure false := by rfl) (hf : X.fn x = true ∨ X.env.scope.names.lookup x = some .local := by first | exact .inl rfl | exact .inr rfl | assumption) :
    DS X W (.Assign [.Name x pos'] e pos) (mSet i m) := PS_mono (ps_set hN hi hx he hs hf) fun D σ H h => by
  obtain ⟨k, s, R, p⟩ := h
  refine tD_bindS R p fun d s1 k1 H1 v l1 R1 r1 p1 => ?_
  obtain ⟨R2, l2⟩ := R1.setVal r1 i
  exact p1 _ _ _ l2 R2
theorem pg_d (i : Nat) (hN : X.N.Nodup) (hi : X.N[i]? = some x) (hx : Loc X.env.scope x) (hf : X.fn x = true ∨ X.env.scope.names.lookup x = some .local := by first | exact .inl rfl | exact .inr rfl | assumption) : PG_ X W (.Name x pos) (mPut i) :=
  PG_mono (pg_name hN hi hx hf) fun v σ H Q h => by
    obtain ⟨k, s, d, R, r, p⟩ := h
    obtain ⟨R2, l2⟩ := R.setVal r i
    exact p _ _ _ l2 R2
def mPuts : List (D → M Unit) → List D → M Unit
  | [], [] => M.pure ()
  | f :: fs, d :: ds => do f d; mPuts fs ds
  | _, _ => stuck
def PGs_ [LT] (X : Cx) (W : WX) (tgs : List Expr) (fs : List (D → M Unit)) : Prop := PGs X tgs (fun vs σ H Q => ∃ k s ds, Rep X.cw k s σ H ∧ VRs X.cw k.G k.al vs ds ∧ PostS X.cw W k (toS (mPuts fs ds) s) { nx := Q, rt := fun _ _ => False })
theorem PGs_mono {tg : List Expr} {t t' : TGs} (h : PGs X tg t) (f : ∀ v σ H Q, t' v σ H Q → t v σ H Q) : PGs X tg t' := ⟨fun pins s σ H v u Q I r q => h.run pins s σ H v u Q I r (f _ _ _ _ q)⟩
theorem pgs_d_nil : PGs_ X W [] [] := PGs_mono pgs_nil fun vs σ H Q h => by
  obtain ⟨k, s, ds, R, r, p⟩ := h
  cases r with
  | nil => exact ⟨rfl, PostS.next p R⟩
  | cons _ _ => exact p.elim
theorem pgs_d_cons {tg : Expr} {tgs : List Expr} {f : D → M Unit} {fs : List (D → M Unit)} (h1 : PG_ X W tg f) (h2 : PGs_ X W tgs fs) (hs : (assignEach (tg :: tgs) X.env).map (·.2) = assign tg X.env :: (assignEach tgs X.env).map (·.2) := by rfl) : PGs_ X W (tg :: tgs) (f :: fs) :=
  PGs_mono (pgs_cons h1 h2 hs) fun vs σ H Q h => by
    obtain ⟨k, s, ds, R, r, p⟩ := h
    cases r with
    | nil => exact p.elim
    | @cons v d vs ds r1 r2 =>
      refine ⟨v, vs, rfl, k, s, d, R, r1, ?_⟩
      have p' : PostS X.cw W k (toS (M.bind (f d) (fun _ => mPuts fs ds)) s) { nx := Q, rt := fun _ _ => False } := p
      unfold toS M.bind at p'
      unfold toS
      cases e : f d s with
      | stuck => rw [e] at p'; exact p'
      | exc x s' => rw [e] at p'; exact p'
      | ok g s' =>
        rw [e] at p'
        exact fun σ' H' k' l R' => ⟨k', s', ds, R', r2.up l, PostS.up p' l⟩
def mUnp (fs : List (D → M Unit)) (d : D) : M Unit := match d with
  | .tup ds => if ds.length = fs.length then mPuts fs ds else stuck
  | .tmp ds => if ds.length = fs.length then mPuts fs ds else stuck
  | _ => stuck
theorem pg_d_tup {es : List Expr} {kk : Nat} {fs : List (D → M Unit)} (hc : X.calm = true) (h : PGs_ X W es fs) (hn : (assignEach es X.env).length = fs.length := by rfl) (hst : (assignEach es X.env).findIdx? (·.1) = none := by rfl) : PG_ X W (.Tuple es kk pos) (mUnp fs) :=
  PG_mono (pg_tup hc h hn hst) fun v σ H Q hq => by
    obtain ⟨k, s, d, R, r, p⟩ := hq
    cases r with
    | @tup a xs ds h1 rs =>
      unfold mUnp at p
      by_cases c : ds.length = fs.length
      · simp only [c, if_pos] at p
        exact ⟨a, xs, rfl, SqT.sub R.G h1.sq, by rw [rs.len]; exact c, k, s, ds, R, rs, p⟩
      · simp only [c] at p
        exact p.elim
    | @tmp a xs ds h1 rs =>
      unfold mUnp at p
      by_cases c : ds.length = fs.length
      · simp only [c, if_pos] at p
        exact ⟨a, xs, rfl, SqT.sub R.G h1, by rw [rs.len]; exact c, k, s, ds, R, rs, p⟩
      · simp only [c] at p
        exact p.elim
    | _ => exact p.elim
def mAsg (f : D → M Unit) (m : M D) : M Fl := do let d ← m; toS (f d)
end
end DL
namespace DL
open PySem PySem.Spec PyProof.Rows L2
variable [FrI]
structure Kp.sub (k k' : Kp) : Prop where
  G : ∀ a o, k.G a = some o → k'.G a = some o
  al : ∀ n a, k.al (.inl n) = some a → k'.al (.inl n) = some a
theorem Kp.le.sub {k k' : Kp} (h : k.le k') : k.sub k' := ⟨h.G, h.al⟩
theorem Kp.sub.trans {a b c : Kp} (h : a.sub b) (g : b.sub c) : a.sub c := ⟨fun x o e => g.G x o (h.G x o e), fun n x e => g.al n x (h.al n x e)⟩
theorem Kp.sub.refl (a : Kp) : a.sub a := ⟨fun _ _ e => e, fun _ _ e => e⟩
structure Src (C : Cw) (J : It) (k : Kp) (ds : List D) : Prop where
  goes : ∀ k' s σ H i, k.sub k' → Rep C k' s σ H → i < ds.length → J.go i H
  stops : ∀ k' s σ H, k.sub k' → Rep C k' s σ H → J.stop ds.length H
  yields : ∀ k' s σ H i x H', k.sub k' → Rep C k' s σ H → i < ds.length → J.yld i H x H' → ∃ k2 d, k'.le k2 ∧ Rep C k2 s σ H' ∧ ds[i]? = some d ∧ VR C k2.G k2.al x d
def tDI (C : Cw) (W : WX) (m : M (List D)) : TI := fun σ H R => ∃ k s, Rep C k s σ H ∧ Post C W k σ (m s) fun ds _ k' H' => ∀ J, Src C J k' ds → R J H'
abbrev DI [LT] (X : Cx) (W : WX) (tg iter : Expr) (m : M (List D)) : Prop := PI X tg iter (tDI X.cw W m)
theorem PI_mono [LT] {X : Cx} {tg iter : Expr} {t t' : TI} (h : PI X tg iter t) (f : ∀ σ H R, t' σ H R → t σ H R) : PI X tg iter t' := ⟨fun pins s σ H R I q => h.run pins s σ H R I (f _ _ _ q)⟩
section
variable {C : Cw} {k : Kp}
theorem src_list {a : Addr} {xs : List V} {ds : List D} (h : SqL C.K k.G a xs) (r : VRs C k.G k.al xs ds) : Src C (Itl C.K a) k ds :=
  ⟨fun k' s σ H i l R hi => ⟨xs, xs[i]'(by rw [r.len]; exact hi), SqL.sub R.G (SqL.sub l.G h), by rw [List.getElem?_eq_getElem]⟩,
   fun k' s σ H l R => ⟨xs, SqL.sub R.G (SqL.sub l.G h), by rw [r.len]; exact Nat.le_refl _⟩,
   fun k' s σ H i x H' l R hi y => by
    obtain ⟨rfl, y⟩ := y
    have hx := y xs (SqL.sub R.G (SqL.sub l.G h))
    obtain ⟨d, e, rv⟩ := r.at hx
    exact ⟨k', d, .refl _, R, e, rv.mono l.G l.al⟩⟩
theorem src_tup {a : Addr} {xs : List V} {ds : List D} (h : SqT C.K k.G a xs) (r : VRs C k.G k.al xs ds) : Src C (Itt C.K a) k ds :=
  ⟨fun k' s σ H i l R hi => ⟨xs, xs[i]'(by rw [r.len]; exact hi), SqT.sub R.G (SqT.sub l.G h), by rw [List.getElem?_eq_getElem]⟩,
   fun k' s σ H l R => ⟨xs, SqT.sub R.G (SqT.sub l.G h), by rw [r.len]; exact Nat.le_refl _⟩,
   fun k' s σ H i x H' l R hi y => by
    obtain ⟨rfl, y⟩ := y
    have hx := y xs (SqT.sub R.G (SqT.sub l.G h))
    obtain ⟨d, e, rv⟩ := r.at hx
    exact ⟨k', d, .refl _, R, e, rv.mono l.G l.al⟩⟩
def signsD (z : Str) : List D := z.cps.toList.map fun c => D.str ⟨#[c]⟩
theorem src_str {z : Str} : Src C (Its z) k (signsD z) := by
  have hl : (signsD z).length = z.cps.size := by simp [signsD]
  refine ⟨fun k' s σ H i l R hi => by rw [hl] at hi; exact walk_str.goes i H hi trivial, fun k' s σ H l R => by rw [hl]; exact walk_str.stops H trivial, fun k' s σ H i x H' l R hi y => ?_⟩
  rw [hl] at hi
  obtain ⟨rfl, c, e, rfl⟩ := walk_str.yields i H x H' hi trivial y
  exact ⟨k', _, .refl _, R, by simp [signsD, e], .str _⟩
end
def keyD : Key → D
  | .inl i => .int i
  | .inr x => .str x
theorem VR.key {C : Cw} {G : Hp} {al : Nat ⊕ Nat → Option Addr} (k : Key) : VR C G al (kV k) (keyD k) := by
  cases k with
  | inl i => exact .int i
  | inr x => exact .str x
theorem VRk.at_ {C : Cw} {G : Hp} {al : Nat ⊕ Nat → Option Addr} : ∀ {vs : List (Key × V)} {ds : List (Key × D)} {i : Nat} {kv : Key × V}, VRk C G al vs ds → vs[i]? = some kv → ∃ d, ds[i]? = some (kv.1, d) ∧ VR C G al kv.2 d
  | _, _, _, _, .nil, e => by simp at e
  | _, _, 0, _, .cons h _, e => by simp at e; subst e; exact ⟨_, rfl, h⟩
  | _, _, i + 1, kv, .cons _ t, e => by
    obtain ⟨d, h1, h2⟩ := VRk.at_ (i := i) (kv := kv) t (by simpa using e)
    exact ⟨d, by simpa using h1, h2⟩
theorem VRk.length_ {C : Cw} {G : Hp} {al : Nat ⊕ Nat → Option Addr} : ∀ {vs : List (Key × V)} {ds : List (Key × D)}, VRk C G al vs ds → vs.length = ds.length
  | _, _, .nil => rfl
  | _, _, .cons _ t => by rw [List.length_cons, List.length_cons, VRk.length_ t]
theorem src_keys {C : Cw} {k : Kp} {a : Addr} {o : Obj} {xs : List (Key × V)} {ds : List (Key × D)} (h : k.G a = some (.frz o (.dK xs))) (r : VRk C k.G k.al xs ds) : Src C (Itk a o xs) k (ds.map fun kv => keyD kv.1) :=
  ⟨fun k' s σ H i l R hi => ⟨R.G _ _ (l.G _ _ h), by rw [List.length_map, ← r.length_] at hi; exact hi⟩,
   fun k' s σ H l R => ⟨R.G _ _ (l.G _ _ h), by rw [List.length_map, ← r.length_]; exact Nat.le_refl _⟩,
   fun k' s σ H i x H' l R hi y => by
    obtain ⟨rfl, q, v, e, rfl⟩ := y
    obtain ⟨d, e2, _⟩ := r.at_ e
    exact ⟨k', keyD q, .refl _, R, by rw [List.getElem?_map, e2]; rfl, .key q⟩⟩
def itemsO : D → Option (List D)
  | .lst ds => some ds
  | .tup ds => some ds
  | .str z => some (signsD z)
  | .dic kvs => some (kvs.map fun kv => keyD kv.1)
  | _ => none
def mItems (m : M D) : M (List D) := do let x ← m; ofO (itemsO x)
section
variable [LT] {X : Cx} {W : WX} {pos : Pos} {tg iter a b : Expr} {m ma mb : M D}
end
def mForL (f : D → M Unit) (body : M Fl) : List D → M Fl
  | [] => mNext
  | d :: ds => do
    f d
    let g ← body
    match g with
    | .next => mForL f body ds
    | .cont => mForL f body ds
    | .brk => mNext
    | .ret v => M.pure (.ret v)
def mFor (items : M (List D)) (f : D → M Unit) (body : M Fl) : M Fl := do let ds ← items; mForL f body ds
section
variable [LT] {X : Cx} {W : WX} {pos : Pos} {tg iter : Expr} {items : M (List D)} {f : D → M Unit} {body : List Stmt} {mb : M Fl}
theorem PostS.toS {C : Cw} {W : WX} {k : Kp} {s : S} {m : M Unit} {g : M Fl} {D : Ends} (h : PostS C W k ((m >>= fun _ => g) s) D) :
    PostS C W k (toS m s) { nx := fun σ' H' => ∃ k' s', k.le k' ∧ Rep C k' s' σ' H' ∧ PostS C W k' (g s') D, rt := fun _ _ => False } := by
  have e : (m >>= fun _ => g) s = M.bind m (fun _ => g) s := rfl
  rw [e] at h
  unfold M.bind at h
  unfold DL.toS
  cases q : m s with
  | ok a s' => rw [q] at h; exact fun σ' H' k' l R => ⟨k', s', l, R, h.up l⟩
  | exc x s' => rw [q] at h; exact h
  | stuck => rw [q] at h; exact h
theorem ds_for (hp : PassesOwn (model X.prog X.w) X.A X.env X.xe) (hc : X.calm = true) (hi : DI X W tg iter items) (hg : PG_ X W tg f) (hb : DSs X W body mb)
    (hs : ∀ x, foldedSetIterable iter X.env x = pure x := by intro _; rfl) : DS X W (.For tg iter body [] pos) (mFor items f mb) := PS_mono (ps_for hp hc hi hg hb hs) fun D σ H h => by
  obtain ⟨k, s, R, p⟩ := h
  refine ⟨k, s, R, (PostS.bind p).imp fun ds s1 k1 H1 l1 R1 p1 J src => ?_⟩
  refine ⟨fun i m σ' H' => ∃ k' s', k1.le k' ∧ Rep X.cw k' s' σ' H' ∧ m = ds.length - i ∧ i ≤ ds.length ∧ PostS X.cw W k' (mForL f mb (ds.drop i) s') D, ⟨ds.length, k1, s1, .refl _, R1, by omega, Nat.zero_le _, p1⟩, ?_⟩
  rintro i m σ2 H2 ⟨k2, s2, l2, R2, rfl, hi, p2⟩
  by_cases hlt : i < ds.length
  · refine .inr ⟨src.goes k2 s2 σ2 H2 i l2.sub R2 hlt, fun σ3 H3 => ∃ k' s', k1.le k' ∧ Rep X.cw k' s' σ3 H3 ∧ PostS X.cw W k' (mForL f mb (ds.drop (i + 1)) s') D, fun σ3 H3 ⟨k3, s3, l3, R3, p3⟩ => ⟨ds.length - (i + 1), by omega, k3, s3, l3, R3, rfl, hlt, p3⟩, fun x H3 y => ?_⟩
    obtain ⟨k3, d, l3, R3, e, rv⟩ := src.yields k2 s2 σ2 H2 i x H3 l2.sub R2 hlt y
    have ed : ds.drop i = d :: ds.drop (i + 1) := by
      obtain ⟨h1, h2⟩ := List.getElem?_eq_some_iff.mp e
      rw [List.drop_eq_getElem_cons h1, h2]
    rw [ed] at p2
    refine ⟨k3, s2, d, R3, rv, ?_⟩
    refine (PostS.toS (p2.up l3)).mono (fun s4 σ4 H4 k4 l4 R4 _ q => ?_) (fun _ _ _ _ _ _ _ q => q) (fun _ _ _ _ _ _ _ q => q) (fun _ _ q => q)
    obtain ⟨k5, s5, l5, R5, p5⟩ := q
    have lk : k1.le k5 := (l2.trans l3).trans l5
    refine ⟨k5, s5, R5, ?_⟩
    have p5' : PostS X.cw W k5 (M.bind mb (fun g => match g with | .next => mForL f mb (ds.drop (i + 1)) | .cont => mForL f mb (ds.drop (i + 1)) | .brk => mNext | .ret v => M.pure (.ret v)) s5) D := p5
    unfold M.bind at p5'
    cases e5 : mb s5 with
    | stuck => rw [e5] at p5'; exact p5'
    | exc x s' => rw [e5] at p5'; exact p5'
    | ok g s' =>
      rw [e5] at p5'
      cases g with
      | next => exact fun σ' H' k' l R' => ⟨k', s', lk.trans l, R', p5'.up l⟩
      | cont => exact fun σ' H' k' l R' => ⟨k', s', lk.trans l, R', p5'.up l⟩
      | brk => exact fun σ' H' k' l R' => p5' σ' H' k' l R'
      | ret v => exact p5'
  · have e : i = ds.length := by omega
    subst e
    rw [List.drop_length] at p2
    exact .inl ⟨src.stops k2 s2 σ2 H2 l2.sub R2, PostS.next p2 R2⟩
end
end DL
namespace DL
open PySem PySem.Spec PyProof.Rows L2
variable [FrI]
def iSeq (K : PySem.W.Frag) (tl : TE) : TI := fun σ H R => tl σ H fun x H1 => (∃ a, x = .ref a ∧ (∃ xs, SqL K H1 a xs) ∧ R (Itl K a) H1) ∨ (∃ a, x = .ref a ∧ (∃ xs, SqT K H1 a xs) ∧ R (Itt K a) H1) ∨ (∃ z, x = .str z ∧ R (Its z) H1) ∨ ∃ d o kvs, x = .ref d ∧ H1 d = some (.frz o (.dK kvs)) ∧ R (Itk d o kvs) H1
theorem pi_seq [LT] {X : Cx} {tg l : Expr} {tl : TE} (hl : PE X l tl) : PI X tg l (iSeq X.K tl) := by
  refine ⟨fun pins s σ H R I h => ?_⟩
  refine thn (hl.run pins s σ H _ I h) fun v s1 ⟨x, H1, I1, r1, q1⟩ => ?_
  rcases q1 with ⟨a, e, ⟨xs, hq⟩, q⟩ | ⟨a, e, ⟨xs, hq⟩, q⟩ | ⟨z, e, q⟩ | ⟨d, o, kvs, e, hd, q⟩
  · subst e
    cases r1
    obtain ⟨its, rv, p, hz⟩ := I1.list hq
    refine wpAny_pyIter_list p.isList ?_
    refine ⟨s1.heap.objs.size, [s1.heap.objs.size], _, _, H1, rfl, I1.kept (t' := s1.toks) fun b o e => Heap.get?_push_of_some _ e, turn_list a _, ⟨_, Heap.get?_push_size _ rfl, rfl, rfl⟩, fun b hb => ?_, q⟩
    have e : b = s1.heap.objs.size := by simpa using hb
    subst e
    exact I1.fpOk (Nat.le_refl _) (I1.hok.fresh (Nat.le_refl _))
  · subst e
    cases r1
    obtain ⟨its, rv, p, hz⟩ := I1.tuple hq
    refine wpAny_pyIter_tuple (show s1.heap.IsTuple a its.toArray from p) ?_
    refine ⟨s1.heap.objs.size, [s1.heap.objs.size], _, _, H1, rfl, I1.kept (t' := s1.toks) fun b o e => Heap.get?_push_of_some _ e, turn_tuple a _, ⟨_, Heap.get?_push_size _ rfl, rfl, rfl⟩, fun b hb => ?_, q⟩
    have e : b = s1.heap.objs.size := by simpa using hb
    subst e
    exact I1.fpOk (Nat.le_refl _) (I1.hok.fresh (Nat.le_refl _))
  · subst e
    obtain ⟨t, rfl⟩ := r1
    cases ha : z.cps.all (· < 128)
    · exact wpAny_pyIter_wide ha (pi_one (tk := s1.toks) I1 _ (turn_str _ z t "str_iterator" (.inr rfl)) ⟨_, Heap.get?_push_size _ rfl, rfl, rfl⟩ q)
    · exact wpAny_pyIter_ascii ha (pi_one (tk := s1.toks) I1 _ (turn_str _ z t "str_ascii_iterator" (.inl rfl)) ⟨_, Heap.get?_push_size _ rfl, rfl, rfl⟩ q)
  · subst e
    cases r1
    obtain ⟨hs, hgd, hx, es, ep, vs, hdt, hsz, kv, hm⟩ := I1.frzK hd
    refine iter_keys hs hgd hx hdt (pi_one (tk := s1.toks) I1 _ (turn_keys _ hdt) ⟨_, Heap.get?_push_size _ rfl, rfl, ?_⟩ q)
    rw [hsz] <;> rfl
theorem di_seq [LT] {X : Cx} {W : WX} {tg iter : Expr} {m : M D} (h : DE X W iter m) : DI X W tg iter (mItems m) := PI_mono (pi_seq h) fun σ H R h => by
  obtain ⟨k, s, Rp, p⟩ := h
  refine tD_bind Rp p fun d s1 k1 H1 v l1 R1 r1 p1 => ?_
  cases r1 with
  | @lst a xs ds h1 rs => exact .inl ⟨a, rfl, ⟨xs, SqL.sub R1.G h1⟩, Post.at (s := s1) (a := ds) p1 R1 _ (src_list h1 rs)⟩
  | @tup a xs ds h1 rs => exact .inr (.inl ⟨a, rfl, ⟨xs, SqT.sub R1.G h1.sq⟩, Post.at (s := s1) (a := ds) p1 R1 _ (src_tup h1.sq rs)⟩)
  | str z => exact .inr (.inr (.inl ⟨z, rfl, Post.at (s := s1) (a := signsD z) p1 R1 _ src_str⟩))
  | @dic a xs ds h1 rs =>
    obtain ⟨o, h2⟩ := h1
    exact .inr (.inr (.inr ⟨a, o, xs, rfl, R1.G _ _ h2, Post.at (s := s1) (a := ds.map fun kv => keyD kv.1) p1 R1 _ (src_keys h2 rs)⟩))
  | _ => exact p1.elim
structure Free (k : Kp) (a : Addr) : Prop where
  G : k.G a = none
  F : k.F a = none
  al : ∀ x, k.al x ≠ some a
def PostF (C : Cw) (W : WX) (k : Kp) (σ : L2.St) (r : Out MO) (Q : VK) : Prop := Post C W k σ r fun o _ k' H' => ∀ a, Free k' a → ObR C k' H' a o → Q (.ref a) H'
def tDF (C : Cw) (W : WX) (m : M MO) : TE := fun σ H Q => ∃ k s, Rep C k s σ H ∧ PostF C W k σ (m s) Q
abbrev DF [LT] (X : Cx) (W : WX) (e : Expr) (m : M MO) : Prop := PE X e (tDF X.cw W m)
section
variable {C : Cw} {W : WX} {k : Kp} {σ : L2.St} {H : Hp} {s : S}
theorem Rep.free (R : Rep C k s σ H) {p : Addr} (hp : H p = none) : Free k p := by
  refine ⟨?_, ?_, fun x e => ?_⟩
  · cases e : k.G p with
    | none => rfl
    | some u => rw [R.G _ _ e] at hp; cases hp
  · cases e : k.F p with
    | none => rfl
    | some u => rw [R.F _ _ e] at hp; cases hp
  · obtain ⟨u, q⟩ := R.live e
    rw [hp] at q
    cases q
theorem Rep.else_ (R : Rep C k s σ H) {p : Addr} (f : Free k p) (o : HO) (hk : okU (H p)) : Rep C k s σ (upd H p o) :=
  ⟨fun a u e => by rw [upd_ne (fun z => by rw [z, f.G] at e; cases e)]; exact R.G _ _ e,
   fun a u e => by rw [upd_ne (fun z => by rw [z, f.F] at e; cases e)]; exact R.F _ _ e, R.FG,
   fun x u e => by
    obtain ⟨a, h1, h2⟩ := R.ob x u e
    exact ⟨a, h1, h2.at (by rw [upd_ne (fun z => f.al x (by rw [← z]; exact h1))])⟩, R.dom, R.inj, R.sl, R.len, R.xt.to (fun a u hu e => ⟨(upd_x hk hu e).2, fun g => g⟩) (fun _ _ e => e) (fun _ _ e => e)⟩
theorem Rep.lend (R : Rep C k s σ H) {p : Addr} (f : Free k p) {o : HO} (e : H p = some o) (hk : ¬ isX o) : Rep C { k with F := upd k.F p o } s σ H :=
  R.reF (fun a u hu q => by
    rw [upd_ne (fun z => by rw [z, f.F] at q; cases q)]
    exact q) (fun a u q => by
    by_cases c : a = p
    · subst c
      rw [upd_same] at q
      cases q
      exact ⟨e, f.G, f.al⟩
    · rw [upd_ne c] at q
      refine ⟨R.F _ _ q, R.FG _ _ q, fun x z => ?_⟩
      have := (R.dom x a z).2.1
      rw [q] at this
      cases this) (fun q hq => by
    rw [upd_ne (fun z => by
      obtain ⟨ps, e2, _⟩ := R.xt.tabs q hq
      rw [z, e] at e2
      cases e2
      exact hk trivial)]
    exact (R.xt.gt q hq).2) fun a q e2 => by
    by_cases c : a = p
    · rw [c, upd_same] at e2
      cases e2
      exact hk trivial
    · rw [upd_ne c] at e2
      exact R.xt.fc a q e2
theorem Rep.back {k' : Kp} {F : Hp} {p : Addr} {o : HO} (R : Rep C k' s σ H) (hF : k'.F = upd F p o) (hp : F p = none) (hk : ¬ isX o) : Rep C { k' with F := F } s σ H ∧ Free { k' with F := F } p ∧ H p = some o := by
  have e : k'.F p = some o := by rw [hF, upd_same]
  have sub : ∀ a u, F a = some u → k'.F a = some u := fun a u q => by
    rw [hF, upd_ne (fun z => by rw [z, hp] at q; cases q)]
    exact q
  refine ⟨R.reF (fun a u hu q => ?_) (fun a u q => ?_) (fun q hq => ?_) (fun a q e2 => R.xt.fc a q (sub _ _ e2)), ⟨R.FG _ _ e, hp, fun x z => ?_⟩, R.F _ _ e⟩
  · rw [hF] at q
    by_cases c : a = p
    · rw [c, upd_same] at q
      cases q
      exact absurd hu hk
    · rw [upd_ne c] at q
      exact q
  · have q' := sub _ _ q
    refine ⟨R.F _ _ q', R.FG _ _ q', fun x z => ?_⟩
    have := (R.dom x a z).2.1
    rw [q'] at this
    cases this
  · cases c : F q.1 with
    | none => rfl
    | some u =>
      have z := sub _ _ c
      rw [(R.xt.gt q hq).2] at z
      cases z
  · have := (R.dom x p z).2.1
    rw [e] at this
    cases this
theorem Rep.fix (R : Rep C k s σ H) {p : Addr} (f : Free k p) {o : MO} (r : ObR C k H p o) (hd : o.dat = true) : ∃ u, H p = some u ∧ Mut (some u) ∧ ∀ od, ∃ k', k.le k' ∧ Rep C k' s σ (upd H p (.frz od u)) ∧ VR C k'.G k'.al (.ref p) o.d := by
  obtain ⟨u, hu⟩ := r.live
  refine ⟨u, hu, ObR_mut r u hu, fun od => ?_⟩
  have le : k.le { k with G := upd k.G p (.frz od u) } := ⟨fun a w e => by
    show upd k.G p (.frz od u) a = some w
    rw [upd_ne (ne_of_none e f.G)]
    exact e, rfl, fun _ _ h => h, fun _ _ h => h⟩
  refine ⟨{ k with G := upd k.G p (.frz od u) }, le, ⟨fun a w e => ?_, fun a w e => ?_, fun a w e => ?_, fun x w e => ?_, fun x a e => ?_, R.inj, fun i t e => ?_, R.len, R.xt.to (fun b w hw e => ?_) (fun _ _ e => e) le.G⟩, ?_⟩
  · by_cases c : a = p
    · have e' : upd k.G p (.frz od u) a = some w := e
      rw [c, upd_same] at e'
      rw [c, upd_same]
      exact e'
    · have e' : upd k.G p (.frz od u) a = some w := e
      rw [upd_ne c] at e' ⊢
      exact R.G _ _ e'
  · rw [upd_ne (fun z => by rw [z, f.F] at e; cases e)]
    exact R.F _ _ e
  · show upd k.G p (.frz od u) a = none
    rw [upd_ne (fun z => by rw [z, f.F] at e; cases e)]
    exact R.FG _ _ e
  · obtain ⟨a, h1, h2⟩ := R.ob x w e
    exact ⟨a, h1, (h2.up le).at (upd_ne fun z => f.al x (by rw [← z]; exact h1))⟩
  · obtain ⟨h1, h2, h3⟩ := R.dom x a e
    refine ⟨?_, h2, h3⟩
    show upd k.G p (.frz od u) a = none
    rw [upd_ne (fun z => f.al x (by rw [← z]; exact e))]
    exact h1
  · obtain ⟨v, q, r⟩ := R.sl i t e
    exact ⟨v, q, r.up le fun _ z => z⟩
  · have z := upd_x (o := .frz od u) r.ok hw e
    exact ⟨z.2, fun g => by show upd k.G p (.frz od u) b = none; rw [upd_ne z.1]; exact g⟩
  · cases o with
    | lams ds => cases hd
    | lst ds =>
      obtain ⟨vs, q, rs⟩ := r
      rw [hu] at q
      cases q
      exact .lst (.inl (.inr ⟨od, upd_same⟩)) (rs.up le)
    | dic ds =>
      obtain ⟨vs, q, rs⟩ := r
      rw [hu] at q
      cases q
      exact .dic ⟨od, upd_same⟩ (rs.mono le.G le.al)
theorem Rep.setOwn (R : Rep C k s σ H) {p : Addr} (f : Free k p) {o : MO} (r : ObR C k H p o) (i : Nat) : ∃ k', k.le k' ∧ Rep C k' (s.put i (.own o)) (σ.set i (some (.ref p))) H ∧ ∀ b, b ≠ p → Free k b → Free k' b := by
  obtain ⟨R', le⟩ := R.setUn i (some (.ref p))
  by_cases hl : i < s.rho.length
  · have f' : ∀ x, (delK k.al (.inr i)) x ≠ some p := fun x z => f.al x (delK_some z).2
    let al2 : Nat ⊕ Nat → Option Addr := fun x => if x = .inr i then some p else delK k.al (.inr i) x
    have al2_ne : ∀ x, x ≠ .inr i → al2 x = delK k.al (.inr i) x := fun x h => if_neg h
    have al2_i : al2 (.inr i) = some p := if_pos rfl
    have le2 : Kp.le { k with al := delK k.al (.inr i) } { k with al := al2 } := ⟨fun _ _ e => e, rfl, fun n a e => by
      show al2 (.inl n) = some a
      rw [al2_ne _ (by intro z; cases z)]
      exact e, fun _ _ e => e⟩
    have obi : S.ob (s.put i (.own o)) (.inr i) = some o := by
      show (match (s.rho.set i (Slot.own o))[i]? with | some (.own o) => some o | _ => none) = some o
      rw [List.getElem?_set_self hl]
    have obn : ∀ x, x ≠ .inr i → S.ob (s.put i (.own o)) x = S.ob (s.put i .un) x := fun x hx => by
      rw [show S.ob (s.put i (.own o)) x = s.ob x from S.ob_set x hx, show S.ob (s.put i .un) x = s.ob x from S.ob_set x hx]
    refine ⟨{ k with al := al2 }, le.trans le2, ⟨R'.G, R'.F, R'.FG, fun x u e => ?_, fun x a e => ?_, fun x y a e1 e2 => ?_, fun j t e => ?_, ?_, R'.xt.tabs, R'.xt.gt, R'.xt.fc, R'.xt.lams⟩, fun b hb f => ⟨f.G, f.F, fun x z => ?_⟩⟩
    · by_cases hx : x = .inr i
      · subst hx
        rw [obi] at e
        cases e
        exact ⟨p, al2_i, (r.up le).up le2⟩
      · rw [obn x hx] at e
        obtain ⟨a, h1, h2⟩ := R'.ob x u e
        exact ⟨a, (al2_ne x hx).trans h1, h2.up le2⟩
    · by_cases hx : x = .inr i
      · subst hx
        have e' : al2 (.inr i) = some a := e
        rw [al2_i] at e'
        cases e'
        exact ⟨f.G, f.F, o, obi⟩
      · have e' : al2 x = some a := e
        rw [al2_ne x hx] at e'
        obtain ⟨h1, h2, u, h3⟩ := R'.dom x a e'
        exact ⟨h1, h2, u, by rw [obn x hx]; exact h3⟩
    · have e1' : al2 x = some a := e1
      have e2' : al2 y = some a := e2
      by_cases hx : x = .inr i
      · by_cases hy : y = .inr i
        · rw [hx, hy]
        · rw [hx, al2_i] at e1'
          rw [al2_ne y hy] at e2'
          cases e1'
          exact absurd e2' (f' y)
      · by_cases hy : y = .inr i
        · rw [hy, al2_i] at e2'
          rw [al2_ne x hx] at e1'
          cases e2'
          exact absurd e1' (f' x)
        · rw [al2_ne x hx] at e1'
          rw [al2_ne y hy] at e2'
          exact R'.inj x y a e1' e2'
    · have e' : (s.rho.set i (Slot.own o))[j]? = some t := e
      by_cases hj : i = j
      · subst hj
        rw [List.getElem?_set_self hl] at e'
        cases e'
        exact ⟨some (.ref p), by rw [List.getElem?_set_self (by rw [← R.len]; exact hl)], p, rfl, al2_i⟩
      · rw [List.getElem?_set_ne hj] at e'
        obtain ⟨w, h1, h2⟩ := R'.sl j t (by show (s.rho.set i Slot.un)[j]? = some t; rw [List.getElem?_set_ne hj]; exact e')
        exact ⟨w, h1, h2.up le2 fun a ha => (al2_ne _ (fun z => hj (Sum.inr.inj z).symm)).trans ha⟩
    · show (s.rho.set i (Slot.own o)).length = (σ.set i (some (.ref p))).length
      rw [List.length_set, List.length_set]
      exact R.len
    · have z' : al2 x = some b := z
      by_cases hx : x = .inr i
      · rw [hx, al2_i] at z'
        exact hb (Option.some.inj z').symm
      · rw [al2_ne x hx] at z'
        exact f.al x (delK_some z').2
  · refine ⟨_, le, ?_, fun b hb f => ⟨f.G, f.F, fun x z => f.al x (delK_some z).2⟩⟩
    have e : s.put i (.own o) = s.put i .un := by
      unfold S.put
      rw [List.set_eq_of_length_le (by omega), List.set_eq_of_length_le (by omega)]
    rw [e]
    exact R'
theorem Rep.okAt (R : Rep C k s σ H) {i : Nat} {o : MO} (hi : s.rho[i]? = some (.own o)) {p : Addr} (hp : k.al (.inr i) = some p) : okU (H p) := by
  obtain ⟨b, h1, h2⟩ := R.ob (.inr i) o (by show (match s.rho[i]? with | some (.own o) => some o | _ => none) = some o; rw [hi])
  rw [hp] at h1
  cases h1
  exact h2.ok
theorem Rep.setOb (R : Rep C k s σ H) {i : Nat} {o o' : MO} {u : HO} (hi : s.rho[i]? = some (.own o)) {p : Addr} (hp : k.al (.inr i) = some p) (r : ObR C k (upd H p u) p o') : Rep C k (s.put i (.own o')) σ (upd H p u) := by
  have hl : i < s.rho.length := (List.getElem?_eq_some_iff.mp hi).1
  obtain ⟨h1, h2, h3⟩ := R.dom _ _ hp
  have obi : S.ob (s.put i (.own o')) (.inr i) = some o' := by
    show (match (s.rho.set i (Slot.own o'))[i]? with | some (.own o) => some o | _ => none) = some o'
    rw [List.getElem?_set_self hl]
  have obn : ∀ x, x ≠ .inr i → S.ob (s.put i (.own o')) x = s.ob x := fun x hx => S.ob_set x hx
  refine ⟨fun a w e => by rw [upd_ne (fun z => by rw [z, h1] at e; cases e)]; exact R.G _ _ e, fun a w e => by rw [upd_ne (fun z => by rw [z, h2] at e; cases e)]; exact R.F _ _ e, R.FG, fun x w e => ?_, fun x a e => ?_, R.inj, fun j t e => ?_, ?_, R.xt.to (fun a w hw e => ⟨(upd_x (R.okAt hi hp) hw e).2, fun g => g⟩) (fun _ _ e => e) (fun _ _ e => e)⟩
  · by_cases hx : x = .inr i
    · subst hx
      rw [obi] at e
      cases e
      exact ⟨p, hp, r⟩
    · rw [obn x hx] at e
      obtain ⟨a, q1, q2⟩ := R.ob x w e
      refine ⟨a, q1, q2.at ?_⟩
      rw [upd_ne (fun z => hx (R.inj x (.inr i) p (by rw [← z]; exact q1) hp))]
  · obtain ⟨q1, q2, w, q3⟩ := R.dom x a e
    by_cases hx : x = .inr i
    · subst hx
      exact ⟨q1, q2, o', obi⟩
    · exact ⟨q1, q2, w, by rw [obn x hx]; exact q3⟩
  · have e' : (s.rho.set i (Slot.own o'))[j]? = some t := e
    by_cases hj : i = j
    · subst hj
      rw [List.getElem?_set_self hl] at e'
      cases e'
      obtain ⟨v, q1, a, q2, q3⟩ := R.sl i _ hi
      exact ⟨v, q1, a, q2, q3⟩
    · rw [List.getElem?_set_ne hj] at e'
      exact R.sl j t e'
  · show (s.rho.set i (Slot.own o')).length = σ.length
    rw [List.length_set]
    exact R.len
end
def mOb (m : M MO) : M D := do let o ← m; if o.dat = true then M.pure o.d else stuck
def mOwn (i : Nat) (m : M MO) : M Fl := do let o ← m; fun s => .ok .next (s.put i (.own o))
section
variable [LT] {X : Cx} {W : WX} {pos pos' : Pos} {e : Expr} {es : List Expr} {m : M MO} {ms : M (List D)} {x : Str}
theorem tDF_bind {C : Cw} {k : Kp} {s : S} {σ : L2.St} {H : Hp} {m : M MO} {β : Type} {f : MO → M β} {Qb : β → S → Kp → Hp → Prop} (R : Rep C k s σ H) (h : Post C W k σ ((m >>= f) s) Qb) {Q : VK}
    (hq : ∀ o s' k' H' a, k.le k' → Rep C k' s' σ H' → Free k' a → ObR C k' H' a o → Post C W k' σ (f o s') Qb → Q (.ref a) H') : tDF C W m σ H Q :=
  ⟨k, s, R, h.bind.imp fun d s' k' H' l R' p a fr ob => hq d s' k' H' a l R' fr ob p⟩
theorem de_of (h : DF X W e m) : DE X W e (mOb m) := PE_mono (pe_lk h) fun σ H Q h => by
  obtain ⟨k, s, R, p⟩ := h
  refine tDF_bind R p fun o s1 k1 H1 a l1 R1 fr ob p1 => ?_
  by_cases c : o.dat = true
  · simp only [c, if_pos] at p1
    obtain ⟨u, hu, mu, fz⟩ := R1.fix fr ob c
    refine .inr ⟨a, u, rfl, hu, mu, fun od => ?_⟩
    obtain ⟨k2, l2, R2, rv⟩ := fz od
    exact p1 _ k2 l2 R2 _ rv
  · simp only [c] at p1
    exact p1.elim
theorem ds_own (i : Nat) (hN : X.N.Nodup) (hi : X.N[i]? = some x) (hx : Loc X.env.scope x) (he : DF X W e m) (hs : swapsWith e (some (.Name x pos')) pos.line X.env = pure false := by rfl) (hf : X.fn x = true ∨ X.env.scope.names.lookup x = some .local := by first | exact .inl rfl | exact .inr rfl | assumption) :
    DS X W (.Assign [.Name x pos'] e pos) (mOwn i m) := PS_mono (ps_set hN hi hx he hs hf) fun D σ H h => by
  obtain ⟨k, s, R, p⟩ := h
  refine ⟨k, s, R, (PostS.bind p).imp fun o s1 k1 H1 l1 R1 p1 a fr ob => ?_⟩
  obtain ⟨k2, l2, R2, _⟩ := R1.setOwn fr ob i
  exact p1 _ _ _ l2 R2
def mLstF (r : M (List D)) : M MO := do let xs ← r; if xs.length ≤ sizeLine then M.pure (.lst xs) else stuck
theorem df_lst (h : DA X W es ms) : DF X W (.List es pos) (mLstF ms) := PE_mono (pe_lst h) fun σ H Q h => by
  obtain ⟨k, s, R, p⟩ := h
  refine tDA_bind R p fun ds s1 k1 H1 v l1 R1 r1 p1 => ?_
  by_cases c : ds.length ≤ sizeLine
  · simp only [c, if_pos] at p1
    exact ⟨by rw [r1.len]; exact c, fun q hq => p1 _ k1 (.refl _) (R1.else_ (R1.free hq) _ (by rw [hq]; trivial)) q (R1.free hq) ⟨_, upd_same, r1⟩⟩
  · simp only [c] at p1
    exact p1.elim
end
end DL
namespace DL
open PySem PySem.Spec PyProof.Rows L2
variable [FrI]
def S.wipe (s : S) : List Nat → S
  | [] => s
  | v :: vs => (S.wipe s vs).put v .un
def mWipe (vs : List Nat) : M Unit := fun s => .ok () (s.wipe vs)
def S.rest (s0 : S) (vs : List Nat) (s : S) : S := vs.foldl (fun s v => s.put v ((s0.rho[v]?).getD .un)) s
def isOwn : Slot → Bool
  | .own _ => true
  | _ => false
def noOwn (s : S) (vs : List Nat) : Bool := vs.all fun v => match s.rho[v]? with
  | some t => !isOwn t
  | none => true
def mLcL (vs : List Nat) (f : D → M Unit) (t : M Bool) (e : M D) : List D → List D → M (List D)
  | [], acc => M.pure acc
  | d :: ds, acc => do
    f d
    let b ← t
    if b = true then do
      let y ← e
      if acc.length < sizeLine then do
        mWipe vs
        mLcL vs f t e ds (acc ++ [y])
      else stuck
    else do
      mWipe vs
      mLcL vs f t e ds acc
def lcEnd (s0 : S) (vs : List Nat) : Out (List D) → Out MO
  | .ok acc s => .ok (.lst acc) (s0.rest vs s)
  | _ => .stuck
def mLc (vs : List Nat) (items : M (List D)) (f : D → M Unit) (t : M Bool) (e : M D) : M MO := do
  let ds ← items
  fun s => if noOwn s vs = true then lcEnd s vs (mLcL vs f t e ds [] (s.wipe vs)) else .stuck
abbrev W0 : WX := fun _ _ _ _ => False
section
variable {C : Cw} {W : WX} {k : Kp} {σ : L2.St} {H : Hp} {s : S}
theorem Rep.wipe (R : Rep C k s σ H) : ∀ vs : List Nat, ∃ k', k.le k' ∧ Rep C k' (s.wipe vs) (L2.wipe σ vs) H
  | [] => ⟨k, .refl k, R⟩
  | v :: vs => by
    obtain ⟨k1, l1, R1⟩ := R.wipe vs
    obtain ⟨R2, l2⟩ := R1.setUn v none
    exact ⟨_, l1.trans l2, R2⟩
theorem wipe_at {σ : L2.St} {i : Nat} : ∀ {vs : List Nat}, i ∉ vs → (L2.wipe σ vs)[i]? = σ[i]?
  | [], _ => rfl
  | v :: vs, h => by
    show ((L2.wipe σ vs).set v none)[i]? = σ[i]?
    rw [List.getElem?_set_ne (fun z => h (by rw [z]; exact List.mem_cons_self)), wipe_at fun z => h (List.mem_cons_of_mem _ z)]
theorem Rep.restA {k0 : Kp} {s0 : S} {σ0 : L2.St} {H0 : Hp} (R0 : Rep C k0 s0 σ0 H0) : ∀ (vs : List Nat) {k : Kp} {s : S} {σ : L2.St} {H : Hp}, k0.le k → (∀ v ∈ vs, ∀ t, s0.rho[v]? = some t → isOwn t = false) → Rep C k s σ H → σ.length = σ0.length →
    ∃ k' σ', k.le k' ∧ Rep C k' (s0.rest vs s) σ' H ∧ σ'.length = σ0.length ∧ (∀ i, i ∈ vs → σ'[i]? = σ0[i]?) ∧ (∀ i, i ∉ vs → σ'[i]? = σ[i]?) ∧ ∀ a, Free k a → Free k' a
  | [], k, s, σ, H, l, _, R, hl => ⟨k, σ, .refl k, R, hl, fun _ z => by simp at z, fun _ _ => rfl, fun _ h => h⟩
  | v :: vs, k, s, σ, H, l, hn, R, hl => by
    have fr : ∀ a, Free k a → Free { k with al := delK k.al (.inr v) } a := fun a h => ⟨h.G, h.F, fun x z => h.al x (delK_some z).2⟩
    have step : ∃ k1, k.le k1 ∧ Rep C k1 (s.put v ((s0.rho[v]?).getD .un)) (σ.set v ((σ0[v]?).getD none)) H ∧ ∀ a, Free k a → Free k1 a := by
      cases e : s0.rho[v]? with
      | none =>
        obtain ⟨R2, l2⟩ := R.setUn v ((σ0[v]?).getD none)
        exact ⟨_, l2, R2, fr⟩
      | some t =>
        have ht := hn v List.mem_cons_self t e
        obtain ⟨w, h1, h2⟩ := R0.sl v t e
        cases t with
        | un =>
          obtain ⟨R2, l2⟩ := R.setUn v ((σ0[v]?).getD none)
          exact ⟨_, l2, R2, fr⟩
        | own o => exact absurd ht (by intro z; cases z)
        | lam id =>
          obtain ⟨R2, l2⟩ := R.setSl (t0 := .lam id) (i := v) (fun o z => by cases z) (by obtain ⟨a, q, r⟩ := h2; exact ⟨a, q, l.lam _ _ r⟩)
          rw [h1]
          exact ⟨_, l2, R2, fr⟩
        | fnv id cap =>
          obtain ⟨R2, l2⟩ := R.setSl (t0 := .fnv id cap) (i := v) (fun o z => by cases z) (by obtain ⟨f, L, c', cl, ws, q, w⟩ := h2; exact ⟨f, L, c', cl, ws, q, w.up l⟩)
          rw [h1]
          exact ⟨_, l2, R2, fr⟩
        | val d =>
          obtain ⟨x, h3, h4⟩ := h2
          subst h3
          obtain ⟨R2, l2⟩ := R.setVal (h4.up l) v
          rw [h1]
          exact ⟨_, l2, R2, fr⟩
    obtain ⟨k1, l1, R1, f1⟩ := step
    obtain ⟨k2, σ2, l2, R2, hl2, hin, hout, f2⟩ := Rep.restA R0 vs (l.trans l1) (fun w hw => hn w (List.mem_cons_of_mem _ hw)) R1 (by rw [List.length_set]; exact hl)
    refine ⟨k2, σ2, l1.trans l2, R2, hl2, fun i hi => ?_, fun i hi => ?_, fun a h => f2 a (f1 a h)⟩
    · by_cases c : i ∈ vs
      · exact hin i c
      · have : i = v := by
          rcases List.mem_cons.mp hi with z | z
          · exact z
          · exact absurd z c
        subst this
        rw [hout i c]
        by_cases c2 : i < σ.length
        · rw [List.getElem?_set_self c2, List.getElem?_eq_getElem (by omega)]
          rfl
        · rw [List.getElem?_eq_none (by rw [List.length_set]; omega), List.getElem?_eq_none (by omega)]
    · rw [hout i (fun z => hi (List.mem_cons_of_mem _ z)), List.getElem?_set_ne (fun z => hi (by rw [z]; exact List.mem_cons_self))]
theorem Rep.restW {k0 : Kp} {s0 : S} {σ0 : L2.St} {H0 : Hp} (R0 : Rep C k0 s0 σ0 H0) {vs : List Nat} (l : k0.le k) (hn : noOwn s0 vs = true) (R : Rep C k s (L2.wipe σ0 vs) H) : ∃ k', k.le k' ∧ Rep C k' (s0.rest vs s) σ0 H ∧ ∀ a, Free k a → Free k' a := by
  obtain ⟨k', σ', l', R', hl, hin, hout, hf⟩ := R0.restA vs l (fun v hv t e => by
    have := List.all_eq_true.mp hn v hv
    rw [e] at this
    simpa using this) R (wipe_length _ _)
  have : σ' = σ0 := by
    refine List.ext_getElem? fun i => ?_
    by_cases c : i ∈ vs
    · exact hin i c
    · rw [hout i c, wipe_at c]
  subst this
  exact ⟨k', l', R', hf⟩
end
abbrev gDc (C : Cw) (vs : List Nat) (f : D → M Unit) : TG := fun v σ H Q => ∃ k s d, Rep C k s σ H ∧ VR C k.G k.al v d ∧ PostS C W0 k (toS (f d) s) { nx := fun σ' H' => L2.wipe σ' vs = L2.wipe σ vs → Q σ' H', rt := fun _ _ => False }
def PGc [LT] (X : Cx) (vs : List Nat) (tg : Expr) (f : D → M Unit) : Prop := PG X tg (gDc X.cw vs f)
def PGsc [LT] (X : Cx) (vs : List Nat) (tgs : List Expr) (fs : List (D → M Unit)) : Prop := PGs X tgs (fun ws σ H Q => ∃ k s ds, Rep X.cw k s σ H ∧ VRs X.cw k.G k.al ws ds ∧ PostS X.cw W0 k (toS (mPuts fs ds) s) { nx := fun σ' H' => L2.wipe σ' vs = L2.wipe σ vs → Q σ' H', rt := fun _ _ => False })
theorem wipe_set {σ : L2.St} {i : Nat} {w : Option V} : ∀ {vs : List Nat}, i ∈ vs → L2.wipe (σ.set i w) vs = L2.wipe σ vs := by
  intro vs hi
  refine List.ext_getElem? fun j => ?_
  have len : ∀ (σ : L2.St) (vs : List Nat), (L2.wipe σ vs).length = σ.length := wipe_length
  by_cases c : j ∈ vs
  · have none_at : ∀ (σ : L2.St) (vs : List Nat), j ∈ vs → j < σ.length → (L2.wipe σ vs)[j]? = some none := by
      intro σ vs
      induction vs with
      | nil => intro z; simp at z
      | cons v vs ih =>
        intro hj hl
        show ((L2.wipe σ vs).set v none)[j]? = some none
        by_cases e : v = j
        · rw [e, List.getElem?_set_self (by rw [wipe_length]; exact hl)]
        · rw [List.getElem?_set_ne e]
          exact ih ((List.mem_cons.mp hj).resolve_left fun z => e z.symm) hl
    by_cases hl : j < σ.length
    · rw [none_at _ _ c (by rw [List.length_set]; exact hl), none_at _ _ c hl]
    · rw [List.getElem?_eq_none (by rw [len, List.length_set]; omega), List.getElem?_eq_none (by rw [len]; omega)]
  · rw [wipe_at c, wipe_at c, List.getElem?_set_ne (fun z => c (by rw [← z]; exact hi))]
theorem wipe_wipe {σ : L2.St} : ∀ {ws vs : List Nat}, (∀ v ∈ ws, v ∈ vs) → L2.wipe (L2.wipe σ ws) vs = L2.wipe σ vs
  | [], _, _ => rfl
  | w :: ws, vs, h => by
    show L2.wipe ((L2.wipe σ ws).set w none) vs = L2.wipe σ vs
    rw [wipe_set (h w List.mem_cons_self), wipe_wipe fun v hv => h v (List.mem_cons_of_mem _ hv)]
section
variable [LT] {X : Cx} {pos : Pos} {x : Str} {vs : List Nat}
theorem pgc_name (i : Nat) (hv : i ∈ vs) (hN : X.N.Nodup) (hi : X.N[i]? = some x) (hx : Loc X.env.scope x) (hf : X.fn x = true ∨ X.env.scope.names.lookup x = some .local := by first | exact .inl rfl | exact .inr rfl | assumption) : PGc X vs (.Name x pos) (mPut i) :=
  PG_mono (pg_name hN hi hx hf) fun v σ H Q h => by
    obtain ⟨k, s, d, R, r, p⟩ := h
    obtain ⟨R2, l2⟩ := R.setVal r i
    exact p _ _ _ l2 R2 (wipe_set hv)
theorem pgsc_nil : PGsc X vs [] [] := PGs_mono pgs_nil fun ws σ H Q h => by
  obtain ⟨k, s, ds, R, r, p⟩ := h
  cases r with
  | nil => exact ⟨rfl, PostS.next p R rfl⟩
  | cons _ _ => exact p.elim
theorem pgsc_cons {tg : Expr} {tgs : List Expr} {f : D → M Unit} {fs : List (D → M Unit)} (h1 : PGc X vs tg f) (h2 : PGsc X vs tgs fs) (hs : (assignEach (tg :: tgs) X.env).map (·.2) = assign tg X.env :: (assignEach tgs X.env).map (·.2) := by rfl) : PGsc X vs (tg :: tgs) (f :: fs) :=
  PGs_mono (pgs_cons h1 h2 hs) fun ws σ H Q h => by
    obtain ⟨k, s, ds, R, r, p⟩ := h
    cases r with
    | nil => exact p.elim
    | @cons v d ws ds r1 r2 =>
      refine ⟨v, ws, rfl, k, s, d, R, r1, ?_⟩
      have p' : PostS X.cw W0 k (toS (M.bind (f d) (fun _ => mPuts fs ds)) s) { nx := fun σ' H' => L2.wipe σ' vs = L2.wipe σ vs → Q σ' H', rt := fun _ _ => False } := p
      unfold toS M.bind at p'
      unfold toS
      cases e : f d s with
      | stuck => rw [e] at p'; exact p'
      | exc x s' => rw [e] at p'; exact p'
      | ok g s' =>
        rw [e] at p'
        intro σ' H' k' l R' hw
        refine ⟨k', s', ds, R', r2.up l, ?_⟩
        rw [hw]
        exact PostS.up p' l
theorem pgc_tup {es : List Expr} {kk : Nat} {fs : List (D → M Unit)} (hc : X.calm = true) (h : PGsc X vs es fs) (hn : (assignEach es X.env).length = fs.length := by rfl) (hst : (assignEach es X.env).findIdx? (·.1) = none := by rfl) : PGc X vs (.Tuple es kk pos) (mUnp fs) :=
  PG_mono (pg_tup hc h hn hst) fun v σ H Q hq => by
    obtain ⟨k, s, d, R, r, p⟩ := hq
    cases r with
    | @tup a xs ds h1 rs =>
      unfold mUnp at p
      by_cases c : ds.length = fs.length
      · simp only [c, if_pos] at p
        exact ⟨a, xs, rfl, SqT.sub R.G h1.sq, by rw [rs.len]; exact c, k, s, ds, R, rs, p⟩
      · simp only [c] at p
        exact p.elim
    | @tmp a xs ds h1 rs =>
      unfold mUnp at p
      by_cases c : ds.length = fs.length
      · simp only [c, if_pos] at p
        exact ⟨a, xs, rfl, SqT.sub R.G h1, by rw [rs.len]; exact c, k, s, ds, R, rs, p⟩
      · simp only [c] at p
        exact p.elim
    | _ => exact p.elim
abbrev DTs [LT] (X : Cx) (W : WX) (ifs : List Expr) (m : M Bool) : Prop := PTs X ifs (tDB X.cw W m)
theorem PTs_mono {ifs : List Expr} {t t' : TT} (h : PTs X ifs t) (f : ∀ σ H Q, t' σ H Q → t σ H Q) : PTs X ifs t' := ⟨fun pins s σ H Q I q => h.run pins s σ H Q I (f _ _ _ q)⟩
theorem dts_nil {W : WX} : DTs X W [] (M.pure true) := PTs_mono pts_nil fun σ H Q h => by
  obtain ⟨k, s, R, p⟩ := h
  exact Post.at (s := s) (a := true) p R
theorem dts_one {W : WX} {c : Expr} {m : M Bool} (h : DT X W c m) : DTs X W [c] m := pts_one h
end
def PostL (r : Out (List D)) (T : List D → S → Prop) : Prop := match r with
  | .ok acc s => T acc s
  | _ => False
theorem PostL.bind {C : Cw} {k : Kp} {σ : L2.St} {α : Type} {m : M α} {f : α → M (List D)} {s : S} {T : List D → S → Prop} (h : PostL ((m >>= f) s) T) : Post C W0 k σ (m s) fun a s' _ _ => PostL (f a s') T := by
  have e : (m >>= f) s = M.bind m f s := rfl
  rw [e] at h
  unfold M.bind at h
  cases q : m s with
  | ok a s' => rw [q] at h; exact fun H' k' l R => h
  | exc x s' => rw [q] at h; exact h.elim
  | stuck => rw [q] at h; exact h.elim
theorem PostL.toS {C : Cw} {k : Kp} {m : M Unit} {f : Unit → M (List D)} {s : S} {T : List D → S → Prop} (h : PostL ((m >>= f) s) T) {D : L2.St → Hp → Prop} (hq : ∀ s' σ' H' k', k.le k' → Rep C k' s' σ' H' → PostL (f () s') T → D σ' H') :
    PostS C W0 k (toS m s) { nx := D, rt := fun _ _ => False } := by
  have e : (m >>= f) s = M.bind m f s := rfl
  rw [e] at h
  unfold M.bind at h
  unfold DL.toS
  cases q : m s with
  | ok a s' => rw [q] at h; exact fun σ' H' k' l R => hq s' σ' H' k' l R h
  | exc x s' => rw [q] at h; exact h.elim
  | stuck => rw [q] at h; exact h.elim
section
variable [LT] {X : Cx} {W : WX} {pos : Pos}
theorem rd_lc {C : Cw} {vs : List Nat} {items : M (List D)} {f : D → M Unit} {t : M Bool} {e : M D} {σ : L2.St} {H : Hp} {Q : VK} (h : tDF C W (mLc vs items f t e) σ H Q) :
    tLc (tDI C W items) (fun v σ H Q => ∃ k s d, Rep C k s σ H ∧ VR C k.G k.al v d ∧ PostS C W0 k (toS (f d) s) { nx := fun σ' H' => L2.wipe σ' vs = L2.wipe σ vs → Q σ' H', rt := fun _ _ => False }) (tDB C W0 t) (tD C W0 e) vs σ H Q := by
  obtain ⟨k, s, R, p⟩ := h
  refine ⟨k, s, R, p.bind.imp fun ds s1 k1 H1 l1 R1 p1 J src A hA => ?_⟩
  by_cases hn : noOwn s1 vs = true
  · rw [if_pos hn] at p1
    obtain ⟨kw, lw, Rw⟩ := R1.wipe vs
    let T : List D → S → Prop := fun acc s' => PostF C W k1 σ (.ok (.lst acc) (s1.rest vs s')) Q
    have pT : PostL (mLcL vs f t e ds [] (s1.wipe vs)) T := by
      cases q : mLcL vs f t e ds [] (s1.wipe vs) with
      | ok acc s' => rw [q] at p1; exact p1
      | exc x s' => rw [q] at p1; exact p1.elim
      | stuck => rw [q] at p1; exact p1.elim
    refine ⟨fun i m H2 => m = ds.length - i ∧ i ≤ ds.length ∧ ∃ k2 s2 xs acc, kw.le k2 ∧ Rep C k2 s2 (L2.wipe σ vs) H2 ∧ Free k2 A ∧ H2 A = some (.lst xs) ∧ VRs C k2.G k2.al xs acc ∧ PostL (mLcL vs f t e (ds.drop i) acc s2) T,
      ⟨ds.length, rfl, Nat.zero_le _, kw, s1.wipe vs, [], [], .refl _, Rw.else_ (Rw.free hA) _ (by rw [hA]; trivial), Rw.free hA, upd_same, .nil, pT⟩, ?_⟩
    rintro i m H2 ⟨rfl, hi, k2, s2, xs, acc, l2, R2, fr, eA, rv, p2⟩
    by_cases hlt : i < ds.length
    · -- lend the list
      have R2' := R2.lend fr eA (fun z => z)
      have sb : k1.sub { k2 with F := upd k2.F A (.lst xs) } := (lw.trans l2).sub.trans ⟨fun _ _ e => e, fun _ _ e => e⟩
      refine .inr ⟨src.goes _ s2 _ H2 i sb R2' hlt, fun H3 => ∃ k3 s3 xs3 acc3, kw.le k3 ∧ Rep C k3 s3 (L2.wipe σ vs) H3 ∧ Free k3 A ∧ H3 A = some (.lst xs3) ∧ VRs C k3.G k3.al xs3 acc3 ∧ PostL (mLcL vs f t e (ds.drop (i + 1)) acc3 s3) T,
        fun H3 q => ⟨ds.length - (i + 1), by omega, rfl, hlt, q⟩, fun x H3 y => ?_⟩
      obtain ⟨k3, d, l3, R3, ed, rd⟩ := src.yields _ s2 _ H2 i x H3 sb R2' hlt y
      have edr : ds.drop i = d :: ds.drop (i + 1) := by
        obtain ⟨h1, h2⟩ := List.getElem?_eq_some_iff.mp ed
        rw [List.drop_eq_getElem_cons h1, h2]
      rw [edr] at p2
      have fin : ∀ {k5 : Kp} {s5 : S} {σ5 : L2.St} {H5 : Hp}, Kp.le { k2 with F := upd k2.F A (.lst xs) } k5 → Rep C k5 s5 σ5 H5 → L2.wipe σ5 vs = L2.wipe σ vs → ∃ k6, k2.le k6 ∧ (∀ v d, VR C k5.G k5.al v d → VR C k6.G k6.al v d) ∧ Rep C k6 (s5.wipe vs) (L2.wipe σ vs) H5 ∧ Free k6 A ∧ H5 A = some (.lst xs) := by
        intro k5 s5 σ5 H5 l5 R5 hw
        obtain ⟨k6, l6, R6⟩ := R5.wipe vs
        rw [hw] at R6
        obtain ⟨R7, f7, e7⟩ := R6.back (F := k2.F) (p := A) (o := .lst xs) ((l6.F.trans l5.F)) fr.F (fun z => z)
        exact ⟨{ k6 with F := k2.F }, ⟨fun a o e => l6.G _ _ (l5.G _ _ e), rfl, fun n a e => l6.al _ _ (l5.al _ _ e), fun f i e => l6.lam _ _ (l5.lam _ _ e)⟩, fun v d h => h.mono (al := k5.al) (al' := k6.al) l6.G l6.al, R7, f7, e7⟩
      refine ⟨k3, s2, d, R3, rd, PostL.toS p2 fun s4 σ4 H4 k4 l4 R4 p4 hw0 => ?_⟩
      have hw : L2.wipe σ4 vs = L2.wipe σ vs := hw0.trans (wipe_wipe fun v hv => hv)
      refine ⟨hw, ?_⟩
      refine ⟨k4, s4, R4, p4.bind.imp fun b s5 k5 H5 l5 R5 p5 => ?_⟩
      have l35 := (l3.trans l4).trans l5
      cases b with
      | false =>
        obtain ⟨k6, l6, hv, R6, f6, e6⟩ := fin l35 R5 hw
        exact ⟨k6, s5.wipe vs, xs, acc, l2.trans l6, R6, f6, e6, rv.up l6, p5⟩
      | true =>
        refine ⟨k5, s5, R5, (PostL.bind p5).imp fun y s6 k6 H6 l6 R6 p6 v rv6 => ?_⟩
        obtain ⟨k7, l7, hv, R7, f7, e7⟩ := fin (l35.trans l6) R6 hw
        by_cases c : acc.length < sizeLine
        · rw [if_pos c] at p6
          exact ⟨xs, e7, by rw [rv.len]; exact c, k7, s6.wipe vs, xs ++ [v], acc ++ [y], l2.trans l7, R7.else_ f7 _ (by rw [e7]; exact fun z => z), f7, upd_same, (rv.up l7).app (.cons (hv _ _ rv6) .nil), p6⟩
        · rw [if_neg c] at p6
          exact p6.elim
    · have e : i = ds.length := by omega
      subst e
      rw [List.drop_length] at p2
      refine .inl ⟨src.stops k2 s2 _ H2 (lw.trans l2).sub R2, ?_⟩
      have p3 : PostF C W k1 σ (.ok (.lst acc) (s1.rest vs s2)) Q := p2
      obtain ⟨k3, l3, R3, hf⟩ := R1.restW (lw.trans l2) hn R2
      have fr3 : Free k3 A := hf A fr
      exact p3 H2 k3 ((lw.trans l2).trans l3) R3 A fr3 ⟨xs, eA, rv.up l3⟩
  · rw [if_neg hn] at p1
    exact p1.elim
end
end DL
namespace DL
open PySem PySem.Spec PyProof.Rows L2
variable [FrI]
def mApp (f : List D → M D) (a : M (List D)) : M D := do let xs ← a; f xs
def HopN (C : Cw) (W : WX) (f : List D → M D) (r : List V → Hp → VK → Prop) : Prop := ∀ (k : Kp) (s : S) (σ : L2.St) (H : Hp) (xs : List V) (ds : List D) (Q : VK), Rep C k s σ H → VRs C k.G k.al xs ds → PostE C W k σ (f ds s) Q → r xs H Q
section
variable [LT] {X : Cx} {W : WX} {pos p : Pos} {x : Str} {e : Expr} {es : List Expr} {ms : M (List D)} {id T : String} {r : List V → Hp → VK → Prop} {f : List D → M D} {g : List D → M MO}
theorem rd_app (hr : HopN X.cw W f r) {σ : L2.St} {H : Hp} {Q : VK} (h : tD X.cw W (mApp f ms) σ H Q) : tCB r (tDA X.cw W ms) σ H Q := by
  obtain ⟨k, s, R, p⟩ := h
  exact tDA_bind R p fun ds s1 k1 H1 v l1 R1 r1 p1 => hr k1 s1 σ H1 v ds Q R1 r1 p1
theorem de_callB (hc : CallR X (.builtin id) r) (hr : HopN X.cw W f r) (hm : X.mg x = none) (hv : bootBuiltins x = some (.builtin id)) (ha : DA X W (e :: es) ms) (hg : Gl X x := by rfl) (hn : x ≠ "__name__" := by decide) (hdb : (x == ("__debug__" : Str)) = false := by decide)
    (he : starEach (e :: es) X.env = (false, eval e X.env) :: starEach es X.env := by rfl) (hpl : (backTo pos (starEach es X.env)).any (·.1) = false := by rfl) : DE X W (.Call (.Name x p) (e :: es) [] pos) (mApp f ms) :=
  PE_mono (pe_callB hc hg hm hv ha hn hdb he hpl) fun _ _ _ h => rd_app hr h
theorem de_callT (hc : CallR X (.type T) r) (hr : HopN X.cw W f r) (hm : X.mg x = none) (hv : bootBuiltins x = some (.type T)) (ha : DA X W (e :: es) ms) (hg : Gl X x := by rfl) (hn : x ≠ "__name__" := by decide) (hdb : (x == ("__debug__" : Str)) = false := by decide)
    (he : starEach (e :: es) X.env = (false, eval e X.env) :: starEach es X.env := by rfl) (hpl : (backTo pos (starEach es X.env)).any (·.1) = false := by rfl) : DE X W (.Call (.Name x p) (e :: es) [] pos) (mApp f ms) :=
  PE_mono (pe_callTy hc hg hm hv ha hn hdb he hpl) fun _ _ _ h => rd_app hr h
end
def absB : List D → M D
  | [.int i] => M.pure (.int (if i < 0 then -i else i))
  | _ => stuck
def intB : List D → M D
  | [.int i] => M.pure (.int i)
  | [.bl k] => M.pure (.int (if k then 1 else 0))
  | _ => stuck
def lenB : List D → M D
  | [.str y] => if y.length ≤ sizeLine then M.pure (.int y.length) else stuck
  | [.tup ds] => M.pure (.int ds.length)
  | [.lst ds] => M.pure (.int ds.length)
  | _ => stuck
section
variable {C : Cw} {W : WX}
theorem h_abs : HopN C W absB (fun xs H Q => ∃ i, xs = [.int i] ∧ Q (.int (if i < 0 then -i else i)) H) := by
  intro k s σ H xs ds Q R r p
  cases r with
  | nil => exact p.elim
  | cons r1 t =>
    cases t with
    | cons _ _ => cases r1 <;> exact p.elim
    | nil =>
      cases r1 with
      | int i => exact ⟨i, rfl, PostE.ret p R (.int _)⟩
      | _ => exact p.elim
theorem h_int : HopN C W intB (fun xs H Q => (∃ i, xs = [.int i] ∧ Q (.int i) H) ∨ ∃ k, xs = [.bl k] ∧ Q (.int (if k then 1 else 0)) H) := by
  intro k s σ H xs ds Q R r p
  cases r with
  | nil => exact p.elim
  | cons r1 t =>
    cases t with
    | cons _ _ => cases r1 <;> exact p.elim
    | nil =>
      cases r1 with
      | int i => exact .inl ⟨i, rfl, PostE.ret p R (.int _)⟩
      | bl i => exact .inr ⟨i, rfl, PostE.ret p R (.int _)⟩
      | _ => exact p.elim
theorem h_len : HopN C W lenB (fun xs H Q => ∃ x n, xs = [x] ∧ LenV C.K x H n ∧ Q (.int n) H) := by
  intro k s σ H xs ds Q R r p
  cases r with
  | nil => exact p.elim
  | cons r1 t =>
    cases t with
    | cons _ _ => cases r1 <;> exact p.elim
    | nil =>
      cases r1 with
      | str y =>
        unfold lenB at p
        by_cases c : y.length ≤ sizeLine
        · simp only [c, if_pos] at p
          exact ⟨_, _, rfl, ⟨c, rfl⟩, PostE.ret p R (.int _)⟩
        · simp only [c] at p
          exact p.elim
      | tup h1 r1 => exact ⟨_, _, rfl, .inr ⟨_, SqT.sub R.G h1.sq, rfl⟩, by rw [r1.len]; exact PostE.ret p R (.int _)⟩
      | lst h1 r1 => exact ⟨_, _, rfl, .inl ⟨_, SqL.sub R.G h1, rfl⟩, by rw [r1.len]; exact PostE.ret p R (.int _)⟩
      | _ => exact p.elim
end
section
variable [LT] {X : Cx} {W : WX} {pos p : Pos} {e : Expr} {es : List Expr} {ms : M (List D)}
theorem de_abs (hm : X.mg "abs" = none) (ha : DA X W [e] ms) (hg : Gl X "abs" := by rfl) (he : starEach [e] X.env = (false, eval e X.env) :: starEach [] X.env := by rfl) : DE X W (.Call (.Name "abs" p) [e] [] pos) (mApp absB ms) := de_callB call_abs h_abs hm (by kernel_rfl) ha hg (he := he)
theorem de_int1 (hm : X.mg "int" = none) (ha : DA X W [e] ms) (hg : Gl X "int" := by rfl) (he : starEach [e] X.env = (false, eval e X.env) :: starEach [] X.env := by rfl) : DE X W (.Call (.Name "int" p) [e] [] pos) (mApp intB ms) := de_callT call_int1 h_int hm (by kernel_rfl) ha hg (he := he)
theorem de_len (hm : X.mg "len" = none) (ha : DA X W [e] ms) (hg : Gl X "len" := by rfl) (he : starEach [e] X.env = (false, eval e X.env) :: starEach [] X.env := by rfl) : DE X W (.Call (.Name "len" p) [e] [] pos) (mApp lenB ms) := de_callB call_len h_len hm (by kernel_rfl) ha hg (he := he)
end
end DL
namespace DL
open PySem PySem.Spec PyProof.Rows L2
variable [FrI]
section
variable {X : Cx} {pins : List (Addr × Obj)} {σ : L2.St} {H : Hp} {s : Shared}
end
section
variable {X : Cx} {x n : Str} {c : Value} {i : Nat} {body suite : List Stmt} {b₀ : Stmt} {np pos pos' : Pos} {tb : WX → TS} {ts : TS} {Wout : WX}
end
structure ExcK (X : Gs) (x : Str) : Prop where
  mg : X.mg x = some (.ref (He.ga X.K x))
  inn : PySem.W.excIn X.K (He.ga X.K x) He.veBase "ValueError.__new__" = true
  keep : PySem.W.keepIn X.K (.ref (He.ga X.K x)) = true
  sub : PySem.W.subIn X.K (.ref (He.ga X.K x)) (.type "BaseException") = some true
  typ : PySem.W.typeIn X.K (.ref (He.ga X.K x)) = some (.type "type")
section
variable [LT] {X : Cx} {W : WX} {pos pos' p np : Pos} {x n : Str} {e : Expr} {m ms : M Fl} {me : M D} {i : Nat} {body suite : List Stmt} {b₀ : Stmt} {mt : Str → Option Bool}
def mExc (c : Str) (m : M D) : M D := do let _ ← m; M.pure (.err c [])
theorem de_exc (E : ExcK (gsOf X) x) (he : DE X W e me) (hg : Gl X x := by rfl) (hs : starEach [e] X.env = (false, eval e X.env) :: starEach [] X.env := by rfl) (hdb : (x == ("__debug__" : Str)) = false := by decide) :
    DE X W (.Call (.Name x p) [e] [] pos) (mExc x me) :=
  PE_mono (pe_exc1 PySem.F.excBase_ValueError E.inn E.mg E.keep hg he hs hdb) fun σ H Q h => by
    obtain ⟨k, s, R, p⟩ := h
    refine tD_bind R p fun d s1 k1 H1 v l1 R1 r1 p1 a na => ?_
    obtain ⟨R2, l2⟩ := R1.alloc na (ExO (.ref (He.ga X.K x)) a)
    exact p1 _ _ l2 R2 _ (.err (φ := _) (by show (upd k1.G a (ExO (.ref (He.ga X.K x)) a)) a = some (.ext _); exact upd_same) (fun h q => by
      obtain ⟨oe, vs, q1, q2, q3, _⟩ := q
      exact ⟨oe, vs, q1, q2, q3⟩) .nil)
end
inductive Ty where
  | b (T : String)
  | own (c : Str)
def D.kind : D → Option String
  | .non => some "NoneType"
  | .bl _ => some "bool"
  | .int _ => some "int"
  | .str _ => some "str"
  | .tup _ => some "tuple"
  | .lst _ => some "list"
  | .dic _ => some "dict"
  | .kdic _ => some "dict"
  | _ => none
def isiO (sup : Str → Ty → Option Bool) (t : Ty) : D → Option Bool
  | .err c [] => sup c t
  | d => match t, d.kind with
    | .b T, some n => kitB n T
    | _, _ => none
def mIsi (sup : Str → Ty → Option Bool) (t : Ty) (m : M D) : M D := do let d ← m; ofO ((isiO sup t d).map D.bl)
def Ty.val (K : PySem.W.Frag) : Ty → Value
  | .b T => .type T
  | .own c => .ref (He.ga K c)
def Ty.v (K : PySem.W.Frag) : Ty → V
  | .b T => .ty T
  | .own c => .ref (He.ga K c)
structure SupOk (K : PySem.W.Frag) (sup : Str → Ty → Option Bool) : Prop where
  ok : ∀ c t r, sup c t = some r → ExcC K (He.ga K c) ∧ PySem.W.kitOne K (.ref (He.ga K c)) (t.val K) = some r
theorem VR.tyx {C : Cw} {G H : Hp} {al : Nat ⊕ Nat → Option Addr} (hG : ∀ a o, G a = some o → H a = some o) {v : V} {d : D} {n : String} (h : VR C G al v d) (e : d.kind = some n) : TyX C.K H v (.type n) := by
  cases h with
  | non => cases e; exact .base .non
  | bl b => cases e; exact .base (.bl b)
  | int b => cases e; exact .base (.int b)
  | str b => cases e; exact .base (.str b)
  | tup s r =>
    cases e
    rcases SqT.sub hG s.sq with (s | ⟨o, s⟩) | ⟨o, _, _, s, c, _⟩
    · exact .base (.tup s)
    · exact .fTuple s
    · exact .kTuple s c
  | lst s r =>
    cases e
    rcases SqL.sub hG s with (s | ⟨o, s⟩) | ⟨o, _, _, s, c, _⟩
    · exact .base (.lst s)
    · exact .base (.frz s)
    · exact .kList s c
  | dic s r =>
    cases e
    obtain ⟨o, s⟩ := SqD.sub hG s
    exact .fDict s
  | kdic s r =>
    cases e
    obtain ⟨⟨o, s, c⟩, _⟩ := s
    exact .kDict s c
  | _ => cases e
theorem isiO_data (sup : Str → Ty → Option Bool) (t : Ty) (d : D) (hd : d.kind ≠ none) : isiO sup t d = match t, d.kind with
    | .b T, some n => kitB n T
    | _, _ => none := by
  cases d with
  | err c fs => exact absurd rfl hd
  | _ => rfl
theorem isiO_kind {sup : Str → Ty → Option Bool} {t : Ty} {d : D} {b : Bool} (h : isiO sup t d = some b) : (∃ c, d = .err c [] ∧ sup c t = some b) ∨ ∃ T n, t = .b T ∧ d.kind = some n ∧ kitB n T = some b := by
  by_cases hd : d.kind = none
  · cases d with
    | err c fs =>
      cases fs with
      | nil => exact .inl ⟨c, rfl, h⟩
      | cons f fs => cases t <;> cases h
    | loc n => cases t <;> cases h
    | con n => cases t <;> cases h
    | fn n c => cases t <;> cases h
    | tmp n => cases t <;> cases h
    | _ => cases hd
  · rw [isiO_data sup t d hd] at h
    cases t with
    | own c => cases h
    | b T =>
      cases q : d.kind with
      | none => exact absurd q hd
      | some n =>
        rw [q] at h
        exact .inr ⟨T, n, rfl, rfl, h⟩
section
variable [LT] {X : Cx} {W : WX} {pos p p2 : Pos} {x : Str} {e : Expr} {m : M D} {sup : Str → Ty → Option Bool} {t : Ty}
end
end DL
namespace DL
open PySem PySem.Spec PyProof.Rows L2
variable [FrI]
inductive BR (C : Cw) (k : Kp) (H : Hp) : V → D → Prop
  | of {v : V} {d : D} : VR C k.G k.al v d → BR C k H v d
  | lst {a : Addr} {vs : List V} {ds : List D} : H a = some (.lst vs) → VRs C k.G k.al vs ds → BR C k H (.ref a) (.lst ds)
  | dic {a : Addr} {vs : List (Key × V)} {ds : List (Key × D)} : H a = some (.dK vs) → VRk C k.G k.al vs ds → BR C k H (.ref a) (.dic ds)
def S.see (s : S) : D → D
  | .loc n => match s.st[n]? with
    | some (.lst ds) => .lst ds
    | some (.dic ds) => .dic ds
    | _ => .loc n
  | d => d
section
variable {C : Cw} {W : WX} {k : Kp} {σ : L2.St} {H : Hp} {s : S}
theorem BR.ob {a : Addr} {o : MO} (h : ObR C k H a o) (hd : o.dat = true) : BR C k H (.ref a) o.d := by
  cases o with
  | lst ds => obtain ⟨vs, e, r⟩ := h; exact .lst e r
  | dic ds => obtain ⟨vs, e, r⟩ := h; exact .dic e r
  | lams ds => cases hd
theorem Rep.stAt (R : Rep C k s σ H) {n : Nat} {a : Addr} {o : MO} (ha : k.al (.inl n) = some a) (e : s.st[n]? = some o) (hd : o.dat = true) : ObR C k H a o := by
  obtain ⟨b, h1, h2⟩ := R.ob (.inl n) o (by
    show (match s.st[n]? with | some (.lst ds) => some (MO.lst ds) | some (.dic ds) => some (MO.dic ds) | _ => none) = some o
    rw [e]
    cases o with
    | lams ids => cases hd
    | _ => rfl)
  rw [ha] at h1
  cases h1
  exact h2
theorem BR.see (R : Rep C k s σ H) {v : V} {d : D} (h : VR C k.G k.al v d) : BR C k H v (s.see d) := by
  cases h with
  | @loc n a e =>
    cases q : s.st[n]? with
    | none =>
      have z : s.see (.loc n) = .loc n := by simp only [S.see, q]
      rw [z]
      exact .of (.loc e)
    | some o =>
      cases o with
      | lst ds =>
        have z : s.see (.loc n) = .lst ds := by simp only [S.see, q]
        rw [z]
        exact BR.ob (R.stAt e q rfl) rfl
      | dic ds =>
        have z : s.see (.loc n) = .dic ds := by simp only [S.see, q]
        rw [z]
        exact BR.ob (R.stAt e q rfl) rfl
      | lams ds =>
        have z : s.see (.loc n) = .loc n := by simp only [S.see, q]
        rw [z]
        exact .of (.loc e)
  | non => exact .of .non
  | bl b => exact .of (.bl b)
  | int b => exact .of (.int b)
  | str b => exact .of (.str b)
  | tup a b => exact .of (.tup a b)
  | tmp a b => exact .of (.tmp a b)
  | kdic a b => exact .of (.kdic a b)
  | lst a b => exact .of (.lst a b)
  | dic a b => exact .of (.dic a b)
  | con => exact .of .con
  | err a b c => exact .of (.err a b c)
theorem BR.dp (hG : ∀ a o, k.G a = some o → H a = some o) {v : V} {d : D} {p : PyData} (h : BR C k H v d) (e : d.py = some p) : Dp C.K H v p := by
  cases h with
  | of r => exact r.dp hG e
  | lst e1 r =>
    unfold D.py at e
    rename_i vs ds
    cases q : D.pys ds with
    | none => rw [q] at e; cases e
    | some ps => rw [q] at e; cases e; exact .lst (.inl (.inl e1)) (r.dp hG q)
  | dic e1 r => unfold D.py at e; cases e
theorem hop_eqB {x y : V} {d e : D} {Q : VK} (R : Rep C k s σ H) (r1 : BR C k H x d) (r2 : BR C k H y e) (p : PostE C W k σ (eqD d e s) Q) : rEqD C.K x y H Q := by
  unfold eqD eqO at p
  cases q1 : d.py with
  | none => rw [q1] at p; exact p.elim
  | some dp =>
    cases q2 : e.py with
    | none => rw [q1, q2] at p; exact p.elim
    | some ep =>
      rw [q1, q2] at p
      by_cases c : (SeqAt.shaped dp && SeqAt.shaped ep) = true
      · simp only [c, if_pos] at p
        obtain ⟨c1, c2⟩ := Bool.and_eq_true_iff.mp c
        exact ⟨dp, ep, r1.dp R.G q1, r2.dp R.G q2, c1, c2, PostE.ret p R (.bl _)⟩
      · simp only [c] at p
        exact p.elim
theorem hop_neB {x y : V} {d e : D} {Q : VK} (R : Rep C k s σ H) (r1 : BR C k H x d) (r2 : BR C k H y e) (p : PostE C W k σ (neD d e s) Q) : rNeD C.K x y H Q := by
  unfold neD eqO at p
  cases q1 : d.py with
  | none => rw [q1] at p; exact p.elim
  | some dp =>
    cases q2 : e.py with
    | none => rw [q1, q2] at p; exact p.elim
    | some ep =>
      rw [q1, q2] at p
      by_cases c : (SeqAt.shaped dp && SeqAt.shaped ep) = true
      · simp only [c, if_pos] at p
        obtain ⟨c1, c2⟩ := Bool.and_eq_true_iff.mp c
        exact ⟨dp, ep, r1.dp R.G q1, r2.dp R.G q2, c1, c2, PostE.ret p R (.bl _)⟩
      · simp only [c] at p
        exact p.elim
end
def rT0 (K : PySem.W.Frag) : R2 := fun x y H Q => ∃ a b xs, x = .ref a ∧ y = .ref b ∧ SqT K H a xs ∧ SqT K H b [] ∧ Q (.bl xs.isEmpty) H
theorem op_eqT0 {X : Cx} (hu : X.A.units + 64 < cLine) : OpR X (compareOp .Eq) (rT0 X.K) := by
  intro pins s σ H x y v u Q I rx ry h
  obtain ⟨a, b, xs, rfl, rfl, ha, hb, q⟩ := h
  cases rx
  cases ry
  obtain ⟨its, r1, p1, _⟩ := I.tuple ha
  obtain ⟨its2, r2, p2, _⟩ := I.tuple hb
  cases r2
  refine SeqAt.eq_tupleAt (e := fun _ => true) p1 p2 (by omega) (fun j h1 h2 => ?_) ⟨.bl xs.isEmpty, H, I, ?_, q⟩
  · simp at h2
  · show Value.bool _ = Value.bool _
    congr 1
    cases r1 with
    | nil => rfl
    | cons _ _ => simp
def rEqA (K : PySem.W.Frag) : R2 := fun x y H Q => rEqD K x y H Q ∨ rT0 K x y H Q
theorem op_eqA {X : Cx} (hu : X.A.units + 64 < cLine) : OpR X (compareOp .Eq) (rEqA X.K) := (op_eqD hu).or (op_eqT0 hu)
def eqS (d e : D) : M D := match d, e with
  | .tup ds, .tup [] => M.pure (.bl ds.isEmpty)
  | d, e => fun s => eqD (s.see d) (s.see e) s
theorem eqS_cases (d e : D) : (∃ ds, d = .tup ds ∧ e = .tup []) ∨ eqS d e = fun s => eqD (s.see d) (s.see e) s := by
  unfold eqS
  split
  · exact .inl ⟨_, rfl, rfl⟩
  · exact .inr rfl
def neS (d e : D) : M D := fun s => neD (s.see d) (s.see e) s
theorem hop_eqS {C : Cw} {W : WX} : Hop C W eqS (rEqA C.K) := by
  intro k s σ H x y d e Q R r1 r2 p
  rcases eqS_cases d e with ⟨ds, rfl, rfl⟩ | h
  · cases r1 with
    | @tup a xs _ h1 rs =>
      cases r2 with
      | @tup b ys _ h2 rs2 =>
        cases rs2
        refine .inr ⟨a, b, xs, rfl, rfl, SqT.sub R.G h1.sq, SqT.sub R.G h2.sq, ?_⟩
        have e : xs.isEmpty = ds.isEmpty := by cases rs <;> rfl
        rw [e]
        exact PostE.ret (s := s) p R (.bl _)
  · rw [h] at p
    exact .inl (hop_eqB R (.see R r1) (.see R r2) p)
theorem hop_neS {C : Cw} {W : WX} : Hop C W neS (rNeD C.K) := fun _ _ _ _ _ _ _ _ _ R r1 r2 p => hop_neB R (.see R r1) (.see R r2) p
def HopPk (C : Cw) (W : WX) (f : D → D → M D) (r : R2) : Prop := ∀ (k : Kp) (s : S) (σ : L2.St) (H : Hp) (x y : V) (d e : D) (Q : VK), Rep C k s σ H → BR C k H x d → VR C k.G k.al y e → PostE C W k σ (f d e s) Q → r x y H Q
theorem hpk_ix {C : Cw} {W : WX} : HopPk C W ixD (rIxAll C) := by
  intro k s σ H x y d e Q R r1 r2 p
  cases r1 with
  | of r => exact hop_ix k s σ H x y d e Q R r r2 p
  | @lst a xs ds h1 rs =>
    unfold ixD at p
    cases r2 with
    | int j =>
      cases q : atI ds j with
      | none => simp only [q] at p; exact p.elim
      | some d' =>
        simp only [q] at p
        obtain ⟨v, e1, rv⟩ := rs.ix q
        exact .inl (.inl ⟨a, xs, j, v, rfl, rfl, .inl (.inl h1), e1, PostE.ret (s := s) p R rv⟩)
    | _ => exact p.elim
  | @dic a xs ds h1 rs =>
    unfold ixD at p
    cases r2 with
    | int i =>
      rcases rs.look (.inl i) with ⟨h3, h4⟩ | ⟨v, d', h3, h4, rv⟩
      · simp only [keyO, h4] at p; exact p.elim
      · simp only [keyO, h4] at p
        exact .inr ⟨a, xs, .inl i, v, rfl, rfl, .inl (.inl h1), h3, PostE.ret (s := s) p R rv⟩
    | str i =>
      rcases rs.look (.inr i) with ⟨h3, h4⟩ | ⟨v, d', h3, h4, rv⟩
      · simp only [keyO, h4] at p; exact p.elim
      · simp only [keyO, h4] at p
        exact .inr ⟨a, xs, .inr i, v, rfl, rfl, .inl (.inl h1), h3, PostE.ret (s := s) p R rv⟩
    | _ => exact p.elim
def ixS (d e : D) : M D := fun s => ixD (s.see d) e s
theorem hop_ixS {C : Cw} {W : WX} : Hop C W ixS (rIxAll C) := fun k s σ H x y d e Q R r1 r2 p => hpk_ix k s σ H x y (s.see d) e Q R (.see R r1) r2 p
section
variable [LT] {X : Cx} {W : WX} {pos p : Pos} {x : Str} {e b : Expr} {mb : M D} {f : D → D → M D} {r : R2}
theorem de_ixS {a : Expr} {ma : M D} (ha : DE X W a ma) (hb : DE X W b mb) (hs : PlainIx b := by exact fun _ _ => rfl) : DE X W (.Subscript a b pos) (mBin ixS ma mb) := PE_mono (pe_ix ix_all ha hb hs) fun _ _ _ h => rd_bin hop_ixS h
end
end DL
namespace DL
open PySem PySem.Spec PyProof.Rows L2
variable [FrI]
section
variable {C : Cw} {W : WX} {k : Kp} {σ : L2.St} {H : Hp} {s : S}
def obSt (st : List MO) (n : Nat) : Option MO := match st[n]? with
  | some (.lst ds) => some (.lst ds)
  | some (.dic ds) => some (.dic ds)
  | _ => none
theorem ob_inl (s : S) (n : Nat) : s.ob (.inl n) = obSt s.st n := rfl
theorem obSt_of {st : List MO} {n : Nat} {o : MO} (e : st[n]? = some o) (hd : o.dat = true) : obSt st n = some o := by
  unfold obSt
  rw [e]
  cases o with
  | lams ids => cases hd
  | _ => rfl
theorem Rep.setSt (R : Rep C k s σ H) {n : Nat} {o o' : MO} {u : HO} (hi : s.st[n]? = some o) (hd : o.dat = true) (hd' : o'.dat = true) {p : Addr} (hp : k.al (.inl n) = some p) (r : ObR C k (upd H p u) p o') : Rep C k { s with st := s.st.set n o' } σ (upd H p u) := by
  have hl : n < s.st.length := (List.getElem?_eq_some_iff.mp hi).1
  obtain ⟨h1, h2, h3⟩ := R.dom _ _ hp
  have obi : S.ob { s with st := s.st.set n o' } (.inl n) = some o' := obSt_of (by show (s.st.set n o')[n]? = some o'; rw [List.getElem?_set_self hl]) hd'
  have obn : ∀ x, x ≠ .inl n → S.ob { s with st := s.st.set n o' } x = s.ob x := fun x hx => by
    cases x with
    | inr i => rfl
    | inl m =>
      rw [ob_inl, ob_inl]
      unfold obSt
      rw [List.getElem?_set_ne (fun z => hx (by rw [z]))]
  refine ⟨fun a w e => by rw [upd_ne (fun z => by rw [z, h1] at e; cases e)]; exact R.G _ _ e, fun a w e => by rw [upd_ne (fun z => by rw [z, h2] at e; cases e)]; exact R.F _ _ e, R.FG, fun x w e => ?_, fun x a e => ?_, R.inj, R.sl, R.len,
    R.xt.to (fun a w hw e => ⟨(upd_x ((R.stAt hp hi hd).ok) hw e).2, fun g => g⟩) (fun _ _ e => e) (fun _ _ e => e)⟩
  · by_cases hx : x = .inl n
    · subst hx
      rw [obi] at e
      cases e
      exact ⟨p, hp, r⟩
    · rw [obn x hx] at e
      obtain ⟨a, q1, q2⟩ := R.ob x w e
      refine ⟨a, q1, q2.at ?_⟩
      rw [upd_ne (fun z => hx (R.inj x (.inl n) p (by rw [← z]; exact q1) hp))]
  · obtain ⟨q1, q2, w, q3⟩ := R.dom x a e
    by_cases hx : x = .inl n
    · subst hx
      exact ⟨q1, q2, o', obi⟩
    · exact ⟨q1, q2, w, by rw [obn x hx]; exact q3⟩
theorem Rep.newSt (R : Rep C k s σ H) {p : Addr} (f : Free k p) {o : MO} (r : ObR C k H p o) (hd : o.dat = true) : ∃ k', k.le k' ∧ Rep C k' { s with st := s.st ++ [o] } σ H ∧ k'.al (.inl s.st.length) = some p := by
  let al2 : Nat ⊕ Nat → Option Addr := fun x => if x = .inl s.st.length then some p else k.al x
  have al2_ne : ∀ x, x ≠ .inl s.st.length → al2 x = k.al x := fun x h => if_neg h
  have al2_i : al2 (.inl s.st.length) = some p := if_pos rfl
  have nal : k.al (.inl s.st.length) = none := by
    cases q : k.al (.inl s.st.length) with
    | none => rfl
    | some a =>
      obtain ⟨_, _, w, h3⟩ := R.dom _ _ q
      rw [ob_inl] at h3
      unfold obSt at h3
      rw [List.getElem?_eq_none (Nat.le_refl _)] at h3
      cases h3
  have le : k.le { k with al := al2 } := ⟨fun _ _ e => e, rfl, fun n a e => by
    show al2 (.inl n) = some a
    rw [al2_ne _ (fun z => by rw [z, nal] at e; cases e)]
    exact e, fun _ _ e => e⟩
  have obi : S.ob { s with st := s.st ++ [o] } (.inl s.st.length) = some o := obSt_of (by simp) hd
  have obn : ∀ x, x ≠ .inl s.st.length → S.ob { s with st := s.st ++ [o] } x = s.ob x := fun x hx => by
    cases x with
    | inr i => rfl
    | inl m =>
      rw [ob_inl, ob_inl]
      unfold obSt
      have hm : m ≠ s.st.length := fun z => hx (by rw [z])
      by_cases c : m < s.st.length
      · rw [List.getElem?_append_left c]
      · rw [List.getElem?_eq_none (by rw [List.length_append, List.length_singleton]; omega), List.getElem?_eq_none (by omega)]
  refine ⟨{ k with al := al2 }, le, ⟨R.G, R.F, R.FG, fun x w e => ?_, fun x a e => ?_, fun x y a e1 e2 => ?_, fun j t e => ?_, R.len, R.xt.tabs, R.xt.gt, R.xt.fc, R.xt.lams⟩, al2_i⟩
  · by_cases hx : x = .inl s.st.length
    · subst hx
      rw [obi] at e
      cases e
      exact ⟨p, al2_i, r.up le⟩
    · rw [obn x hx] at e
      obtain ⟨a, q1, q2⟩ := R.ob x w e
      exact ⟨a, (al2_ne x hx).trans q1, q2.up le⟩
  · have e' : al2 x = some a := e
    by_cases hx : x = .inl s.st.length
    · subst hx
      rw [al2_i] at e'
      cases e'
      exact ⟨f.G, f.F, o, obi⟩
    · rw [al2_ne x hx] at e'
      obtain ⟨q1, q2, w, q3⟩ := R.dom x a e'
      exact ⟨q1, q2, w, by rw [obn x hx]; exact q3⟩
  · have e1' : al2 x = some a := e1
    have e2' : al2 y = some a := e2
    by_cases hx : x = .inl s.st.length
    · by_cases hy : y = .inl s.st.length
      · rw [hx, hy]
      · rw [hx, al2_i] at e1'
        rw [al2_ne y hy] at e2'
        cases e1'
        exact absurd e2' (f.al y)
    · by_cases hy : y = .inl s.st.length
      · rw [hy, al2_i] at e2'
        rw [al2_ne x hx] at e1'
        cases e2'
        exact absurd e1' (f.al x)
      · rw [al2_ne x hx] at e1'
        rw [al2_ne y hy] at e2'
        exact R.inj x y a e1' e2'
  · obtain ⟨v, q1, q2⟩ := R.sl j t e
    exact ⟨v, q1, q2.up le fun a ha => (al2_ne _ (by intro z; cases z)).trans ha⟩
theorem Rep.move (R : Rep C k s σ H) {i : Nat} {o : MO} (hi : s.rho[i]? = some (.own o)) (hd : o.dat = true) :
    ∃ k' v, k.le k' ∧ Rep C k' { rho := s.rho.set i (.val (.loc s.st.length)), st := s.st ++ [o] } σ H ∧ σ[i]? = some (some v) ∧ VR C k'.G k'.al v (.loc s.st.length) := by
  have so : s.ob (.inr i) = some o := by
    show (match s.rho[i]? with | some (.own o) => some o | _ => none) = some o
    rw [hi]
  obtain ⟨a, ha, r⟩ := R.ob _ _ so
  obtain ⟨ga, fa, _⟩ := R.dom _ _ ha
  obtain ⟨v, hv, hs⟩ := R.sl i _ hi
  obtain ⟨a', e1, e2⟩ := hs
  rw [ha] at e2
  cases e2
  subst e1
  obtain ⟨R1, l1⟩ := R.setUn i (some (.ref a))
  have es : σ.set i (some (.ref a)) = σ := by
    refine List.ext_getElem? fun j => ?_
    by_cases c : i = j
    · subst c
      rw [List.getElem?_set_self (List.getElem?_eq_some_iff.mp hv).1, hv]
    · rw [List.getElem?_set_ne c]
  rw [es] at R1
  have f1 : Free { k with al := delK k.al (.inr i) } a := ⟨ga, fa, fun x z => by
    obtain ⟨z1, z2⟩ := delK_some z
    exact z1 (R.inj x (.inr i) a z2 ha)⟩
  obtain ⟨k2, l2, R2, e2⟩ := R1.newSt f1 (r.up l1) hd
  have rv : VR C k2.G k2.al (.ref a) (.loc s.st.length) := .loc e2
  obtain ⟨R3, l3⟩ := R2.setVal rv i
  rw [es] at R3
  refine ⟨_, .ref a, (l1.trans l2).trans l3, ?_, hv, rv.up l3⟩
  have z : ({ s.put i .un with st := s.st ++ [o] } : S).put i (.val (.loc s.st.length)) = { rho := s.rho.set i (.val (.loc s.st.length)), st := s.st ++ [o] } := by
    unfold S.put
    simp only [List.set_set]
  rw [← z]
  exact R3
end
def mMove (i : Nat) : M D := fun s => match s.rho[i]? with
  | some (.own (.lst ds)) => .ok (.loc s.st.length) { rho := s.rho.set i (.val (.loc s.st.length)), st := s.st ++ [.lst ds] }
  | some (.own (.dic ds)) => .ok (.loc s.st.length) { rho := s.rho.set i (.val (.loc s.st.length)), st := s.st ++ [.dic ds] }
  | _ => .stuck
def mNew (m : M MO) : M D := do let o ← m; if o.dat = true then (fun s => .ok (.loc s.st.length) { s with st := s.st ++ [o] }) else stuck
section
variable [LT] {X : Cx} {W : WX} {pos p : Pos} {x : Str} {e : Expr} {m : M MO}
theorem de_move (i : Nat) {x : Str} (hN : X.N[i]? = some x) (hv : Vis X.env.scope x := by first | exact Or.inl rfl | exact Or.inr (Or.inl rfl) | exact Or.inr (Or.inr rfl)) (hd : (x == ("__debug__" : Str)) = false := by decide)
    (hcd : (x == ("__classdict__" : Str)) = false := by decide) : DE X W (.Name x pos) (mMove i) := PE_mono (pe_var hN hv hd hcd) fun σ H Q h => by
  obtain ⟨k, s, R, p⟩ := h
  unfold mMove at p
  cases e : s.rho[i]? with
  | none => rw [e] at p; exact p.elim
  | some t =>
    cases t with
    | own o =>
      rw [e] at p
      cases o with
      | lams o => exact p.elim
      | lst o =>
        obtain ⟨k', v, l, R', hv, r⟩ := R.move e rfl
        exact ⟨v, hv, p _ _ l R' _ r⟩
      | dic o =>
        obtain ⟨k', v, l, R', hv, r⟩ := R.move e rfl
        exact ⟨v, hv, p _ _ l R' _ r⟩
    | _ => rw [e] at p; exact p.elim
theorem de_new (h : DF X W e m) : DE X W e (mNew m) := PE_mono h fun σ H Q h => by
  obtain ⟨k, s, R, p⟩ := h
  refine tDF_bind R p fun o s1 k1 H1 a l1 R1 fr ob p1 => ?_
  by_cases c : o.dat = true
  · simp only [c, if_pos] at p1
    obtain ⟨k2, l2, R2, e2⟩ := R1.newSt fr ob c
    exact p1 H1 k2 l2 R2 _ (.loc e2)
  · simp only [c] at p1
    exact p1.elim
end
def mPairs : List (Key × M D) → M (List (Key × D))
  | [] => M.pure []
  | (k, m) :: r => do let d ← m; let ps ← mPairs r; M.pure ((k, d) :: ps)
def mDictF (kms : List (Key × M D)) : M MO := do let ps ← mPairs kms; if kms.length ≤ 15 ∧ (kms.map (·.1)).Nodup then M.pure (.dic ps) else stuck
def tDP (C : Cw) (W : WX) (m : M (List (Key × D))) (σ : L2.St) (H : Hp) (Q : List (V × V) → Hp → Prop) : Prop := ∃ k s, Rep C k s σ H ∧ Post C W k σ (m s) fun ds _ k' H' => ∀ vs, VRk C k'.G k'.al vs ds → Q (vs.map fun kv => (kV kv.1, kv.2)) H'
abbrev trsD (C : Cw) (W : WX) (kms : List (Key × M D)) : List (TE × TE) := kms.map fun km => (tC (kV km.1), tD C W km.2)
theorem VRk.up {C : Cw} {k k' : Kp} {v : List (Key × V)} {d : List (Key × D)} (h : VRk C k.G k.al v d) (l : k.le k') : VRk C k'.G k'.al v d := h.mono l.G l.al
theorem VRk.len {C : Cw} {G : Hp} {al : Nat ⊕ Nat → Option Addr} : ∀ {vs : List (Key × V)} {ds : List (Key × D)}, VRk C G al vs ds → vs.length = ds.length
  | _, _, .nil => rfl
  | _, _, .cons _ t => by rw [List.length_cons, List.length_cons, VRk.len t]
theorem VRk.keys {C : Cw} {G : Hp} {al : Nat ⊕ Nat → Option Addr} : ∀ {vs : List (Key × V)} {ds : List (Key × D)}, VRk C G al vs ds → vs.map (·.1) = ds.map (·.1)
  | _, _, .nil => rfl
  | _, _, .cons _ t => by rw [List.map_cons, List.map_cons, VRk.keys t]
theorem Post.ret_ {α : Type} {C : Cw} {W : WX} {k : Kp} {σ : L2.St} {H : Hp} {s : S} {a : α} {Q : α → S → Kp → Hp → Prop} (h : Post C W k σ (.ok a s) Q) (R : Rep C k s σ H) : Q a s k H := h H k (.refl k) R
theorem rd_pairs {C : Cw} {W : WX} : ∀ (kms : List (Key × M D)) {σ : L2.St} {H : Hp} {Q : List (V × V) → Hp → Prop}, tDP C W (mPairs kms) σ H Q → tPairs (trsD C W kms) σ H Q
  | [], σ, H, Q, ⟨k, s, R, p⟩ => Post.ret_ (s := s) (a := []) p R [] .nil
  | (kk, m) :: r, σ, H, Q, ⟨k, s, R, p⟩ => by
    show tD C W m σ H _
    refine tD_bind R p fun d s1 k1 H1 v l1 R1 r1 p1 => rd_pairs r ⟨k1, s1, R1, p1.bind.imp fun ps s2 k2 H2 l2 R2 p2 vs rv => ?_⟩
    exact Post.ret_ (s := s2) (a := (kk, d) :: ps) p2 R2 ((kk, v) :: vs) (.cons (r1.up l2) rv)
theorem mergeK_nodup : ∀ (kvs acc : List (Key × V)), ((acc ++ kvs).map (·.1)).Nodup → mergeK acc kvs = acc ++ kvs
  | [], acc, _ => by simp [mergeK]
  | (k, v) :: r, acc, h => by
    have hn : valV acc k = none := by
      unfold valV
      have : acc.find? (fun kv => decide (kv.1 = k)) = none := by
        refine List.find?_eq_none.mpr fun kv hm e => ?_
        have e' : kv.1 = k := by simpa using e
        rw [List.map_append, List.nodup_append] at h
        exact h.2.2 kv.1 (List.mem_map_of_mem hm) k (by simp) e'
      rw [this]
      rfl
    have e : mergeK acc ((k, v) :: r) = mergeK (putK acc k v) r := rfl
    rw [e, putK_new v hn, mergeK_nodup r (acc ++ [(k, v)]) (by simpa using h)]
    simp
section
variable [LT] {X : Cx} {W : WX} {pos p : Pos} {x : Str} {e : Expr} {m : M D}
abbrev DPs [LT] (X : Cx) (W : WX) (pos : Pos) (keys : List (Option Expr)) (values : List Expr) (kms : List (Key × M D)) : Prop := PPs X pos keys values (trsD X.cw W kms)
theorem dps_nil : DPs X W pos [] [] [] := pps_nil
theorem dps_str {z : Str} {u : Nat} {ks : List (Option Expr)} {vs : List Expr} {kms : List (Key × M D)} (he : DE X W e m) (hr : DPs X W pos ks vs kms) : DPs X W pos (some (.Constant (.str z) u p) :: ks) (e :: vs) ((.inr z, m) :: kms) := pps_cons pe_str he hr
theorem df_dict {keys : List (Option Expr)} {values : List Expr} {kms : List (Key × M D)} (h : DPs X W pos keys values kms) (hall : keys.all (·.isSome) = true := by rfl) (hl : keys.length = values.length := by rfl) (h0 : keys ≠ [] := by intro z; cases z)
    (h15 : keys.length ≤ 15 := by decide) : DF X W (.Dict keys values pos) (mDictF kms) := PE_mono (pe_disp h hall hl h0 h15) fun σ H Q hq => by
  obtain ⟨k, s, R, p⟩ := hq
  intro a ha
  have f0 := R.free ha
  have R1 := R.else_ f0 (.dK []) (by rw [ha]; trivial)
  have R2 := R1.lend (o := .dK []) f0 upd_same (fun z => z)
  have p2 : PostF X.cw W k σ (mDictF kms s) Q := p
  unfold mDictF at p2
  refine rd_pairs kms ⟨_, s, R2, ?_⟩
  have p3 := Post.bind p2
  cases e : mPairs kms s with
  | stuck => rw [e] at p3; exact p3.elim
  | exc y s' =>
    rw [e] at p3
    intro c dx H' k' l R' xr
    have hk : k'.F = upd k.F a (.dK []) := l.F
    obtain ⟨R3, f3, e3⟩ := R'.back hk f0.F (fun z => z)
    exact p3 c dx H' { k' with F := k.F } ⟨l.G, rfl, l.al, l.lam⟩ R3 xr
  | ok ps s' =>
    rw [e] at p3
    intro H' k' l R' vs rv
    have hk : k'.F = upd k.F a (.dK []) := l.F
    obtain ⟨R3, f3, e3⟩ := R'.back hk f0.F (fun z => z)
    have p4 := p3 H' { k' with F := k.F } ⟨l.G, rfl, l.al, l.lam⟩ R3
    have hlen : ∀ {kms : List (Key × M D)} {s s' : S} {ps : List (Key × D)}, mPairs kms s = .ok ps s' → ps.map (·.1) = kms.map (·.1) := by
      intro kms
      induction kms with
      | nil => intro s s' ps e; cases e; rfl
      | cons km r ih =>
        intro s s' ps e
        obtain ⟨kk, m⟩ := km
        have e' : M.bind m (fun d => M.bind (mPairs r) fun ps => M.pure ((kk, d) :: ps)) s = .ok ps s' := e
        unfold M.bind at e'
        cases q : m s with
        | stuck => rw [q] at e'; cases e'
        | exc _ _ => rw [q] at e'; cases e'
        | ok d s1 =>
          rw [q] at e'
          simp only at e'
          cases q2 : mPairs r s1 with
          | stuck => rw [q2] at e'; cases e'
          | exc _ _ => rw [q2] at e'; cases e'
          | ok ps2 s2 =>
            rw [q2] at e'
            cases e'
            rw [List.map_cons, List.map_cons, ih q2]
    have kk := hlen e
    by_cases c : kms.length ≤ 15 ∧ (kms.map (·.1)).Nodup
    · simp only [if_pos c] at p4
      have hl2 : vs.length = kms.length := by
        rw [rv.len]
        have := congrArg List.length kk
        simpa using this
      refine ⟨e3, vs, rfl, by rw [hl2]; exact c.1, ?_⟩
      rw [mergeK_nodup vs [] (by rw [List.nil_append, rv.keys, kk]; exact c.2), List.nil_append]
      exact p4 _ _ (.refl _) (R3.else_ f3 _ (by rw [e3]; exact fun z => z)) a f3 ⟨vs, upd_same, rv⟩
    · simp only [if_neg c] at p4
      exact p4.elim
end
def putD (kvs : List (Key × D)) (k : Key) (v : D) : List (Key × D) :=
  if (kvs.any fun kv => decide (kv.1 = k)) = true then kvs.map (fun kv => if kv.1 = k then (kv.1, v) else kv) else kvs ++ [(k, v)]
theorem VRk.app {C : Cw} {G : Hp} {al : Nat ⊕ Nat → Option Addr} : ∀ {vs ws : List (Key × V)} {ds es : List (Key × D)}, VRk C G al vs ds → VRk C G al ws es → VRk C G al (vs ++ ws) (ds ++ es)
  | _, _, _, _, .nil, s => s
  | _, _, _, _, .cons h t, s => .cons h (VRk.app t s)
theorem VRk.put {C : Cw} {G : Hp} {al : Nat ⊕ Nat → Option Addr} {vs : List (Key × V)} {ds : List (Key × D)} {k : Key} {v : V} {d : D} (h : VRk C G al vs ds) (r : VR C G al v d) : VRk C G al (putK vs k v) (putD ds k d) := by
  have h1 : (vs.any fun kv => decide (kv.1 = k)) = ds.any fun kv => decide (kv.1 = k) := by
    have e1 : ∀ {β : Type} (l : List (Key × β)), (l.any fun kv => decide (kv.1 = k)) = (l.map (·.1)).any fun x => decide (x = k) := fun l => by rw [List.any_map]; rfl
    rw [e1, e1, h.keys]
  have h2 : ∀ {vs : List (Key × V)} {ds : List (Key × D)}, VRk C G al vs ds → VRk C G al (vs.map (fun kv => if kv.1 = k then (kv.1, v) else kv)) (ds.map (fun kv => if kv.1 = k then (kv.1, d) else kv)) := by
    intro vs
    induction vs with
    | nil => intro ds h; cases h; exact .nil
    | cons kv vs ih =>
      intro ds h
      cases h with
      | @cons k' v' d' _ ds h t =>
        rw [List.map_cons, List.map_cons]
        by_cases c : k' = k
        · simp only [c, if_pos]
          exact .cons r (ih t)
        · simp only [c, if_neg, not_false_eq_true]
          exact .cons h (ih t)
  unfold putK putD
  rw [h1]
  by_cases c : (ds.any fun kv => decide (kv.1 = k)) = true
  · rw [if_pos c, if_pos c]
    exact h2 h
  · rw [if_neg c, if_neg c]
    exact h.app (.cons r .nil)
def dput (n : Nat) (k : Key) (v : D) : M Fl := fun s => match s.st[n]? with
  | some (.dic kvs) => if kvs.length < sizeLine then .ok .next { s with st := s.st.set n (.dic (putD kvs k v)) } else .stuck
  | _ => .stuck
def mDPut (md mi mv : M D) : M Fl := do
  let v ← mv; let d ← md; let i ← mi
  match d, keyO i with
  | .loc n, some k => dput n k v
  | _, _ => stuck
theorem keyO_v {C : Cw} {G : Hp} {al : Nat ⊕ Nat → Option Addr} {v : V} {d : D} {k : Key} (r : VR C G al v d) (e : keyO d = some k) : v = kV k := by
  cases r <;> cases e <;> rfl
section
variable [LT] {X : Cx} {W : WX} {pos p pos' : Pos} {x : Str} {o i value : Expr} {md mi mv : M D}
theorem ds_dput (hu : X.A.units + 1 < cLine) (ho : DE X W o md) (hi : DE X W i mi) (hv : DE X W value mv) (hs : swapsWith value (some (.Subscript o i pos')) pos.line X.env = pure false := by rfl) : DS X W (.Assign [.Subscript o i pos'] value pos) (mDPut md mi mv) :=
  PS_mono (ps_dput hu ho hi hv hs) fun D σ H h => by
    obtain ⟨k, s, R, p⟩ := h
    refine ⟨k, s, R, (PostS.bind p).imp fun dv s1 k1 H1 l1 R1 p1 v rv => ?_⟩
    refine ⟨k1, s1, R1, (PostS.bind p1).imp fun dd s2 k2 H2 l2 R2 p2 d rd => ?_⟩
    refine ⟨k2, s2, R2, (PostS.bind p2).imp fun di s3 k3 H3 l3 R3 p3 y ry => ?_⟩
    cases dd with
    | loc n =>
      cases rd with
      | @loc n a ea =>
        cases q : keyO di with
        | none => simp only [q] at p3; exact p3.elim
        | some kk =>
          simp only [q] at p3
          unfold dput at p3
          cases q2 : s3.st[n]? with
          | none => simp only [q2] at p3; exact p3.elim
          | some ob =>
            cases ob with
            | dic kvs =>
              simp only [q2] at p3
              by_cases c : kvs.length < sizeLine
              · rw [if_pos c] at p3
                have ea3 := l3.al _ _ ea
                obtain ⟨vs, e1, rk⟩ := R3.stAt ea3 q2 rfl
                have rv3 := (rv.up l2).up l3
                refine ⟨a, _, rfl, .inl ⟨vs, kk, e1, keyO_v ry q, by rw [rk.len]; exact c, rfl⟩, ?_⟩
                exact p3 _ _ _ (.refl _) (R3.setSt q2 rfl rfl ea3 ⟨_, upd_same, rk.put rv3⟩)
              · rw [if_neg c] at p3
                exact p3.elim
            | _ => simp only [q2] at p3; exact p3.elim
    | _ => exact p3.elim
end
abbrev Lm := List D → List D → Option (D × List D)
def MethR (C : Cw) (f : Lm) (r : V → List V → Hp → VK → Prop) : Prop := ∀ (k : Kp) (H : Hp) (l : Addr) (vs xs : List V) (ds es : List D) (d : D) (ds' : List D) (Q : VK), (∀ a o, k.G a = some o → H a = some o) → H l = some (.lst vs) → VRs C k.G k.al vs ds → VRs C k.G k.al xs es → f es ds = some (d, ds') →
  (∀ v vs', VR C k.G k.al v d → VRs C k.G k.al vs' ds' → Q v (upd H l (.lst vs'))) → r (.ref l) xs H Q
def mFullL (j : Nat) : M Unit := fun s => match s.rho[j]? with
  | some (.own (.lst _)) => .ok () s
  | _ => .stuck
def meO (i : Nat) (f : Lm) (xs : List D) : M D := fun s => match s.rho[i]? with
  | some (.own (.lst ds)) => match f xs ds with
    | some (d, ds') => .ok d (s.put i (.own (.lst ds')))
    | none => .stuck
  | _ => .stuck
def mMeO (i : Nat) (f : Lm) (a : M (List D)) : M D := do
  let _ ← mFullL i
  let xs ← a
  meO i f xs
def mIsL (n : Nat) : M Unit := fun s => match s.st[n]? with
  | some (.lst _) => .ok () s
  | _ => .stuck
def meL (f : Lm) (d : D) (xs : List D) : M D := match d with
  | .loc n => fun s => match s.st[n]? with
    | some (.lst ds) => match f xs ds with
      | some (d, ds') => .ok d { s with st := s.st.set n (.lst ds') }
      | none => .stuck
    | _ => .stuck
  | _ => stuck
def isL (d : D) : M Unit := match d with
  | .loc n => mIsL n
  | _ => stuck
def mMeL (f : Lm) (o : M D) (a : M (List D)) : M D := do let d ← o; let _ ← isL d; let xs ← a; meL f d xs
def appendL : Lm
  | [y], ds => if ds.length < sizeLine then some (.non, ds ++ [y]) else none
  | _, _ => none
def popAtL : Lm
  | [.int i], ds => if -(2 ^ 63) ≤ i ∧ i < 2 ^ 63 then match seqIndex? i ds.length with
      | some k => match ds[k]? with
        | some y => some (y, ds.eraseIdx k)
        | none => none
      | none => none
    else none
  | _, _ => none
theorem VRs.eraseIdx_ {C : Cw} {G : Hp} {al : Nat ⊕ Nat → Option Addr} : ∀ {vs : List V} {ds : List D} (n : Nat), VRs C G al vs ds → VRs C G al (vs.eraseIdx n) (ds.eraseIdx n)
  | _, _, _, .nil => .nil
  | _, _, 0, .cons _ t => t
  | _, _, n + 1, .cons h t => .cons h (VRs.eraseIdx_ n t)
section
variable {C : Cw}
theorem me_append : MethR C appendL rAppend := by
  intro k H l vs xs ds es d ds' Q hG hl rv ra e q
  cases ra with
  | nil => cases e
  | cons r1 t =>
    cases t with
    | cons _ _ => cases e
    | nil =>
      unfold appendL at e
      simp only at e
      split at e
      · rename_i c
        cases e
        exact ⟨l, vs, _, rfl, rfl, hl, by rw [rv.len]; exact c, q _ _ .non (rv.app (.cons r1 .nil))⟩
      · cases e
theorem me_popAt : MethR C popAtL rPopAt := by
  intro k H l vs xs ds es d ds' Q hG hl rv ra e q
  cases ra with
  | nil => cases e
  | cons r1 t =>
    cases t with
    | cons _ _ => cases r1 <;> cases e
    | nil =>
      cases r1 with
      | int i =>
        unfold popAtL at e
        simp only at e
        split at e
        · rename_i c
          split at e
          · rename_i kk c2
            split at e
            · rename_i y c3
              cases e
              obtain ⟨v, e1, r1⟩ := rv.at' c3
              exact ⟨l, vs, i, kk, v, rfl, rfl, hl, c.1, c.2, by rw [rv.len]; exact c2, e1, q _ _ r1 (rv.eraseIdx_ kk)⟩
            · cases e
          · cases e
        · cases e
      | _ => cases e
end
section
variable [LT] {X : Cx} {W : WX} {apos cpos p : Pos} {x name : Str} {id : String} {o e : Expr} {es : List Expr} {mo : M D} {ma : M (List D)} {f : Lm} {r : V → List V → Hp → VK → Prop}
theorem rd_meO {i : Nat} (hf : MethR X.cw f r) {σ : L2.St} {H : Hp} {Q : VK} (h : tD X.cw W (mMeO i f ma) σ H Q) : tBM X.K "list" r (tVar i) (tDA X.cw W ma) σ H Q := by
  obtain ⟨k, s, R, p⟩ := h
  have p' : PostE X.cw W k σ (M.bind (mFullL i) (fun _ => M.bind ma fun xs => meO i f xs) s) Q := p
  unfold M.bind at p'
  unfold mFullL at p'
  cases q0 : s.rho[i]? with
  | none => simp only [q0] at p'; exact p'.elim
  | some t =>
    cases t with
    | own ob =>
      cases ob with
      | lst ds0 =>
        simp only [q0] at p'
        obtain ⟨w, hw, a, e1, e2⟩ := R.sl i _ q0
        subst e1
        refine ⟨_, hw, ?_, ?_⟩
        · obtain ⟨b, h3, vs, h4, _⟩ := R.ob (.inr i) _ (by show (match s.rho[i]? with | some (.own o) => some o | _ => none) = some _; rw [q0])
          rw [e2] at h3
          cases h3
          exact .inl ⟨rfl, vs, .inl (.inl h4)⟩
        · refine tDA_bind (m := ma) (f := fun xs => meO i f xs) R p' fun xs s2 k2 H2 us l2 R2 r2 p2 => ?_
          unfold meO at p2
          cases q2 : s2.rho[i]? with
          | none => simp only [q2] at p2; exact p2.elim
          | some t =>
            cases t with
            | own ob =>
              cases ob with
              | lst ds =>
                simp only [q2] at p2
                cases q3 : f xs ds with
                | none => simp only [q3] at p2; exact p2.elim
                | some dd =>
                  obtain ⟨d, ds'⟩ := dd
                  simp only [q3] at p2
                  obtain ⟨w3, hw3, a3, e3, e4⟩ := R2.sl i _ q2
                  rw [hw] at hw3
                  cases hw3
                  cases e3
                  obtain ⟨b, h3, vs, e5, rk⟩ := R2.ob (.inr i) _ (by show (match s2.rho[i]? with | some (.own o) => some o | _ => none) = some _; rw [q2])
                  rw [e4] at h3
                  cases h3
                  refine hf k2 H2 a vs us ds xs d ds' Q R2.G e5 rk r2 q3 fun v vs' rv rvs => ?_
                  exact p2 _ _ (.refl _) (R2.setOb q2 e4 ⟨vs', upd_same, rvs⟩) v rv
              | _ => simp only [q2] at p2; exact p2.elim
            | _ => simp only [q2] at p2; exact p2.elim
      | _ => simp only [q0] at p'; exact p'.elim
    | _ => simp only [q0] at p'; exact p'.elim
theorem rd_meL (hf : MethR X.cw f r) {σ : L2.St} {H : Hp} {Q : VK} (h : tD X.cw W (mMeL f mo ma) σ H Q) : tBM X.K "list" r (tD X.cw W mo) (tDA X.cw W ma) σ H Q := by
  obtain ⟨k, s, R, p⟩ := h
  refine tD_bind R p fun d s1 k1 H1 v l1 R1 r1 p1 => ?_
  cases r1 with
  | @loc n a ea =>
    have p1' : PostE X.cw W k1 σ (M.bind (mIsL n) (fun _ => M.bind ma fun xs => meL f (.loc n) xs) s1) Q := p1
    unfold M.bind at p1'
    unfold mIsL at p1'
    cases q0 : s1.st[n]? with
    | none => simp only [q0] at p1'; exact p1'.elim
    | some ob =>
      cases ob with
      | lst ds0 =>
        simp only [q0] at p1'
        obtain ⟨vs, e1, _⟩ := R1.stAt ea q0 rfl
        refine ⟨.inl ⟨rfl, vs, .inl (.inl e1)⟩, ?_⟩
        refine tDA_bind (m := ma) (f := fun xs => meL f (.loc n) xs) R1 p1' fun xs s2 k2 H2 us l2 R2 r2 p2 => ?_
        unfold meL at p2
        simp only at p2
        cases q2 : s2.st[n]? with
        | none => simp only [q2] at p2; exact p2.elim
        | some ob =>
          cases ob with
          | lst ds =>
            simp only [q2] at p2
            cases q3 : f xs ds with
            | none => simp only [q3] at p2; exact p2.elim
            | some dd =>
              obtain ⟨d, ds'⟩ := dd
              simp only [q3] at p2
              have ea2 := l2.al _ _ ea
              obtain ⟨vs, e5, rk⟩ := R2.stAt ea2 q2 rfl
              refine hf k2 H2 a vs us ds xs d ds' Q R2.G e5 rk r2 q3 fun v vs' rv rvs => ?_
              exact p2 _ _ (.refl _) (R2.setSt q2 rfl rfl ea2 ⟨vs', upd_same, rvs⟩) v rv
          | _ => simp only [q2] at p2; exact p2.elim
      | _ => simp only [q0] at p1'; exact p1'.elim
  | _ => exact p1.elim
theorem de_meL (slot : PySem.Slot "list" name id) (hty : typeOf (.builtin id) = pure (.type "method_descriptor")) (hm : MtR X id r) (hf : MethR X.cw f r) (ho : DE X W o mo) (ha : DA X W (e :: es) ma)
    (hbase : attributeBase o name X.env (eval o X.env) = eval o X.env := by rfl)
    (hfew : ((backTo cpos (starEach (e :: es) X.env)).all (fun x => !x.1) && (backToKw cpos (keywordEach [] X.env)).all (fun x => x.1.isSome)
      && decide ((e :: es).length + ([] : List Keyword).length + (if ([] : List Keyword).isEmpty then 0 else 1) < 30)) = true := by rfl)
    (hline : (apos.endLine == cpos.line) = true := by rfl) (hs : starEach (e :: es) X.env = (false, eval e X.env) :: starEach es X.env := by rfl) (hplain : (backTo cpos (starEach es X.env)).any (·.1) = false := by rfl) :
    DE X W (.Call (.Attribute o name apos) (e :: es) [] cpos) (mMeL f mo ma) :=
  PE_mono (pe_bm PySem.F.plainAttrs_list slot hty hm ho ha hbase hfew hline hs hplain) fun _ _ _ h => rd_meL hf h
theorem de_meO (i : Nat) (slot : PySem.Slot "list" name id) (hty : typeOf (.builtin id) = pure (.type "method_descriptor")) (hm : MtR X id r) (hf : MethR X.cw f r) (hN : X.N[i]? = some x) (ha : DA X W (e :: es) ma)
    (hbase : attributeBase (.Name x p) name X.env (eval (.Name x p) X.env) = eval (.Name x p) X.env := by rfl)
    (hfew : ((backTo cpos (starEach (e :: es) X.env)).all (fun x => !x.1) && (backToKw cpos (keywordEach [] X.env)).all (fun x => x.1.isSome)
      && decide ((e :: es).length + ([] : List Keyword).length + (if ([] : List Keyword).isEmpty then 0 else 1) < 30)) = true := by rfl)
    (hline : (apos.endLine == cpos.line) = true := by rfl) (hs : starEach (e :: es) X.env = (false, eval e X.env) :: starEach es X.env := by rfl) (hplain : (backTo cpos (starEach es X.env)).any (·.1) = false := by rfl)
    (hvi : Vis X.env.scope x := by first | exact Or.inl rfl | exact Or.inr (Or.inl rfl) | exact Or.inr (Or.inr rfl)) (hd : (x == ("__debug__" : Str)) = false := by decide) (hcd : (x == ("__classdict__" : Str)) = false := by decide) :
    DE X W (.Call (.Attribute (.Name x p) name apos) (e :: es) [] cpos) (mMeO i f ma) :=
  PE_mono (pe_bm PySem.F.plainAttrs_list slot hty hm (pe_var hN hvi hd hcd) ha hbase hfew hline hs hplain) fun _ _ _ h => rd_meO hf h
end
end DL
namespace DL
open PySem PySem.Spec PyProof.Rows L2
variable [FrI]
abbrev BlkA (X : Cx) (scope : Scope) (P : Cx → Prop) : Prop := ∀ (s : Shared) (H : Hp) (C : Addr) (cl : List (Str × Addr)) (fp : List Addr), P (X.blk s H scope (compEnvC scope cl C X.env) fp)
section
variable [LT] {X : Cx} {W : WX} {pos spos py : Pos} {elt tg iter : Expr} {ifs : List Expr} {scope : Scope} {items : M (List D)} {f : D → M Unit} {t : M Bool} {e : M D} {y : Str}
theorem df_lc (own : List (Str × Nat)) (hN : X.N.Nodup) (hi : DI X W tg iter items) (hg : BlkA X scope fun Y => PGc Y (own.map (·.2)) tg f) (ht : BlkA X scope fun Y => DTs Y W0 ifs t) (he : BlkA X scope fun Y => DE Y W0 elt e)
    (ok : blkC X.N X.env.scope scope own = true := by rfl) (hc : X.calm = true := by rfl) (hs : ∀ x, foldedSetIterable iter X.env x = pure x := by intro _; rfl) : DF X W (.ListComp elt [⟨tg, iter, ifs, 0⟩] scope pos) (mLc (own.map (·.2)) items f t e) :=
  PE_mono (pe_lc (g := gDc X.cw (own.map fun q : Str × Nat => q.2) f) (tt := tDB X.cw W0 t) (te := tD X.cw W0 e) hc hN hi (blkOk_by ok) hg ht he hs) fun σ H Q h => rd_lc h
theorem ds_lc (i : Nat) (own : List (Str × Nat)) (hN : X.N.Nodup) (hy : X.N[i]? = some y) (hi : DI X W tg iter items) (hg : BlkA X scope fun Y => PGc Y (own.map (·.2)) tg f) (ht : BlkA X scope fun Y => DTs Y W0 ifs t) (he : BlkA X scope fun Y => DE Y W0 elt e)
    (hyl : X.env.scope.names.lookup y = some .local := by rfl) (hsw : swapsWith (.ListComp elt [⟨tg, iter, ifs, 0⟩] scope pos) (some (.Name y py)) spos.line X.env = pure true := by rfl)
    (ok : blkC X.N X.env.scope scope own = true := by rfl) (hc : X.calm = true := by rfl) (hs : ∀ x, foldedSetIterable iter X.env x = pure x := by intro _; rfl) :
    DS X W (.Assign [.Name y py] (.ListComp elt [⟨tg, iter, ifs, 0⟩] scope pos) spos) (mOwn i (mLc (own.map (·.2)) items f t e)) :=
  PS_mono (ps_setLc (g := gDc X.cw (own.map fun q : Str × Nat => q.2) f) (tt := tDB X.cw W0 t) (te := tD X.cw W0 e) hc hN hy hyl hsw hi (blkOk_by ok) hg ht he hs) fun D σ H h => by
    obtain ⟨k, s, R, p⟩ := h
    refine rd_lc (W := W) (items := items) (f := f) (t := t) (e := e) ⟨k, s, R, (PostS.bind p).imp fun o s1 k1 H1 l1 R1 p1 a fr ob => ?_⟩
    obtain ⟨k2, l2, R2, _⟩ := R1.setOwn fr ob i
    exact p1 _ _ _ l2 R2
end
end DL
namespace DL
open PySem PySem.Spec PyProof.Rows L2
variable [FrI]
section
variable [LT] {X : Cx} {W : WX} {pos p : Pos} {x : Str} {d : D} {e a b : Expr} {m ma mb mc : M D} {k : Nat}
theorem hu_65 {A : Around} (hr : RoomG k A) : A.units + 65 < cLine := by have := hr.room.un; omega
theorem hu_64 {A : Around} (hr : RoomG k A) : A.units + 64 < cLine := by have := hr.room.un; omega
theorem hu_1 {A : Around} (hr : RoomG k A) : A.units + 1 < cLine := by have := hr.room.un; omega
theorem tk0 : Takes X W0 := LamX.takes0
def negD : D → M D
  | .int i => M.pure (.int (-i))
  | _ => stuck
def mNeg (m : M D) : M D := do let x ← m; negD x
theorem de_neg (h : DE X W e m) : DE X W (.UnaryOp .USub e pos) (mNeg m) := PE_mono (pe_un un_neg h) fun σ H Q h => by
  obtain ⟨k, s, R, p⟩ := h
  refine tD_bind R p fun d s1 k1 H1 v l1 R1 r1 p1 => ?_
  cases r1 with
  | int i => exact ⟨i, rfl, PostE.ret (s := s1) p1 R1 (.int _)⟩
  | _ => exact p1.elim
end
abbrev DO2 := D ⊕ MO
def DO2.slot : DO2 → Slot
  | .inl d => .val d
  | .inr o => .own o
def PostV (C : Cw) (W : WX) (k : Kp) (σ : L2.St) (r : Out DO2) (Q : VK) : Prop := Post C W k σ r fun t _ k' H' => match t with
  | .inl d => ∀ v, VR C k'.G k'.al v d → Q v H'
  | .inr o => ∀ a, Free k' a → ObR C k' H' a o → Q (.ref a) H'
def tDV (C : Cw) (W : WX) (m : M DO2) : TE := fun σ H Q => ∃ k s, Rep C k s σ H ∧ PostV C W k σ (m s) Q
abbrev DV [LT] (X : Cx) (W : WX) (e : Expr) (m : M DO2) : Prop := PE X e (tDV X.cw W m)
def mVal (m : M D) : M DO2 := do let d ← m; M.pure (.inl d)
def mParV (i j : Nat) (a b : M DO2) : M Fl := do let x ← a; let y ← b; fun s => .ok .next ((s.put i x.slot).put j y.slot)
section
variable [LT] {X : Cx} {W : WX} {pos p : Pos} {x y : Str} {e a b : Expr} {m : M D} {mo : M MO} {ma mb : M DO2}
theorem dv_val (h : DE X W e m) : DV X W e (mVal m) := PE_mono h fun σ H Q h => by
  obtain ⟨k, s, R, p⟩ := h
  exact tD_bind R p fun d s1 k1 H1 v l1 R1 r1 p1 => Post.ret_ (s := s1) (a := (.inl d : DO2)) p1 R1 v r1
theorem ds_parV {i j : Nat} {px py pt : Pos} {kt k2 pt2} (hN : X.N.Nodup) (hi : X.N[i]? = some x) (hj : X.N[j]? = some y) (hij : i ≠ j) (ha : DV X W a ma) (hb : DV X W b mb)
    (hx : X.env.scope.names.lookup x = some .local := by rfl) (hy : X.env.scope.names.lookup y = some .local := by rfl)
    (hw : swappedStores [.Tuple [.Name x px, .Name y py] kt pt] (.Tuple [a, b] k2 pt2) X.env = pure (some [x, y]) := by rfl)
    (hs : swapsWithSole [.Tuple [.Name x px, .Name y py] kt pt] (.Tuple [a, b] k2 pt2) pos.line X.env = pure false := by rfl) (hc : X.calm = true := by rfl)
    (h1 : starEach [a, b] X.env = (false, eval a X.env) :: starEach [b] X.env := by rfl) (h2 : starEach [b] X.env = (false, eval b X.env) :: starEach [] X.env := by rfl) :
    DS X W (.Assign [.Tuple [.Name x px, .Name y py] kt pt] (.Tuple [a, b] k2 pt2) pos) (mParV i j ma mb) :=
  PS_mono (ps_par hc hN hi hj hij hx hy (pa_cons ha (pa_cons hb pa_nil h2) h1) hw hs) fun D σ H h => by
    obtain ⟨k, s, R, p⟩ := h
    refine ⟨k, s, R, (PostS.bind p).imp fun t1 s1 k1 H1 l1 R1 p1 => ?_⟩
    have fin : ∀ {t2 : DO2} {s2 : S} {k2 k3 : Kp} {H2 : Hp} {v w : V}, k1.le k2 → k2.le k3 → PostS X.cw W k2 (.ok .next ((s2.put i t1.slot).put j t2.slot)) D → Rep X.cw k3 (s2.put i t1.slot) (σ.set i (some v)) H2 →
        (match t2 with | .inl d => VR X.cw k3.G k3.al w d | .inr o => ∃ a, w = .ref a ∧ Free k3 a ∧ ObR X.cw k3 H2 a o) → D.nx ((σ.set i (some v)).set j (some w)) H2 := by
      intro t2 s2 k2 k3 H2 v w l l' p R r
      cases t2 with
      | inl d =>
        obtain ⟨R4, l4⟩ := R.setVal r j
        exact p _ _ _ (l'.trans l4) R4
      | inr o =>
        obtain ⟨a, rfl, f, ob⟩ := r
        obtain ⟨k4, l4, R4, _⟩ := R.setOwn f ob j
        exact p _ _ _ (l'.trans l4) R4
    cases t1 with
    | inl d1 =>
      intro v rv
      refine ⟨k1, s1, R1, (PostS.bind p1).imp fun t2 s2 k2 H2 l2 R2 p2 => ?_⟩
      obtain ⟨R3, l3⟩ := R2.setVal (rv.up l2) i
      cases t2 with
      | inl d2 => exact fun w rw' => ⟨_, _, rfl, fin (t2 := .inl d2) l2 l3 p2 R3 (rw'.up l3)⟩
      | inr o2 => exact fun a2 f2 ob2 => ⟨_, _, rfl, fin (t2 := .inr o2) l2 l3 p2 R3 ⟨a2, rfl, ⟨f2.G, f2.F, fun x z => f2.al x (delK_some z).2⟩, ob2.up l3⟩⟩
    | inr o1 =>
      intro a1 f1 ob1
      obtain ⟨u1, hu1⟩ := ob1.live
      have nx : ¬ isX u1 := by have z := ob1.ok; rw [hu1] at z; exact z
      refine ⟨_, s1, R1.lend f1 hu1 nx, ?_⟩
      have step : ∀ {s2 : S} {k2 : Kp} {H2 : Hp}, Kp.le { k1 with F := upd k1.F a1 u1 } k2 → Rep X.cw k2 s2 σ H2 → ∃ k3 : Kp, k3 = { k2 with F := k1.F } ∧ k1.le k3 ∧ ∃ k4, k3.le k4 ∧ Rep X.cw k4 (s2.put i (.own o1)) (σ.set i (some (.ref a1))) H2 ∧ ∀ b, b ≠ a1 → Free k3 b → Free k4 b := by
        intro s2 k2 H2 l2 R2
        obtain ⟨R3, f3, e3⟩ := R2.back (F := k1.F) (p := a1) (o := u1) l2.F f1.F nx
        have l3 : k1.le { k2 with F := k1.F } := ⟨l2.G, rfl, l2.al, l2.lam⟩
        obtain ⟨k4, l4, R4, g4⟩ := R3.setOwn f3 ((ob1.up l3).at (by rw [e3, hu1])) i
        exact ⟨_, rfl, l3, k4, l4, R4, g4⟩
      have p1' := PostS.bind (σ := σ) p1
      cases q : mb s1 with
      | stuck => rw [q] at p1'; exact p1'.elim
      | exc x s2 =>
        rw [q] at p1'
        intro c dx H2 k2 l2 R2 xr
        obtain ⟨R3, f3, e3⟩ := R2.back (F := k1.F) (p := a1) (o := u1) l2.F f1.F nx
        exact p1' c dx H2 { k2 with F := k1.F } ⟨l2.G, rfl, l2.al, l2.lam⟩ R3 xr
      | ok t2 s2 =>
        rw [q] at p1'
        intro H2 k2 l2 R2
        obtain ⟨k3, e3, l3, k4, l4, R4, g4⟩ := step l2 R2
        subst e3
        obtain ⟨R5, _, _⟩ := R2.back (F := k1.F) (p := a1) (o := u1) l2.F f1.F nx
        have p2 := p1' H2 { k2 with F := k1.F } l3 R5
        have k2F : k2.F = upd k1.F a1 u1 := l2.F
        have k2a : k2.F a1 = some u1 := by rw [k2F, upd_same]
        cases t2 with
        | inl d2 =>
          intro w rw'
          exact ⟨_, _, rfl, fin (t2 := .inl d2) l3 l4 p2 R4 (VR.mono (G := k2.G) (al := k2.al) l4.G l4.al rw')⟩
        | inr o2 =>
          intro a2 f2 ob2
          have hne : a2 ≠ a1 := fun z => by
            have := f2.F
            rw [z, k2a] at this
            cases this
          refine ⟨_, _, rfl, fin (t2 := .inr o2) l3 l4 p2 R4 ⟨a2, rfl, g4 a2 hne ⟨f2.G, ?_, f2.al⟩, ?_⟩⟩
          · show k1.F a2 = none
            have := f2.F
            rw [k2F, upd_ne hne] at this
            exact this
          · refine ObR.up (k := { k2 with F := k1.F }) ?_ l4
            cases o2 <;> exact ob2
end
end DL
namespace DL
open PySem PySem.Spec PyProof.Rows L2 NdefX
structure LOk (P : Program) (w : World) (K : PySem.W.Frag) (mg : Str → Option Value) (base : Heap) (CX : CXT) (k : Nat) (L : LamSpec) (ps : List Str) (sp : List V → Sp) : Prop where
  run : ∀ (f c' : Addr) (cl : List (Str × Addr)) (A : Around) (outer : List Env) (s : Shared) (H : Hp) (us : List Value) (vs ws : List V) (Q : VK) (E : XK), RoomG k A → Env0 P w K mg base A outer s H → H f = some (LamO f L cl c') → H c' = some (LamX.CodeO c' L.qual) →
    CellsAt cl L.fr (ws.map some) s.heap H → Vals vs us → vs.length = ps.length → sp ws vs H Q E → codeAny (model P w) A (.call (.ref f) ⟨us, []⟩) (CR CX outer P w H s Q E) s
def spL [LT] (P : Program) (w : World) (K : PySem.W.Frag) (g : List D → Fd) (ws : List V) : Sp := fun vs H Q E => ∃ k st cap ds, @Rep fr0 (cwOf P w K) k ⟨[], st⟩ [] H ∧ (∀ f, k.lam f = none) ∧ VRs (cwOf P w K) k.G k.al ws cap ∧ VRs (cwOf P w K) k.G k.al vs ds ∧ PostD (cwOf P w K) E k (g cap ds st) Q
section
variable [LT] {P : Program} {w : World} {K : PySem.W.Frag} {mg : Str → Option Value} {base : Heap} {n : Nat} {N ps : List Str} {L : LamSpec} {m : M D}
end
section
open Classical
variable {P : Program} {w : World} {K : PySem.W.Frag} {mg : Str → Option Value} {base : Heap} {A : Around} {outer : List Env} {s s' : Shared} {H H' : Hp} {cs : Addr → Prop} {Q : VK} {E : XK}
end
structure LamsOk [LT] (g : Gs) (n : Nat) (gl : Nat → List D → Fd) (np : Nat → Nat) : Prop where
  ok : ∀ id L, LT.lam id = some L → ∃ ps : List Str, ps.length = np id ∧ LOk g.P g.w g.K g.mg g.base (L2.CX g.P g.w) n L ps (spL g.P g.w g.K (gl id))
section
variable [FrI] [LT] {X : Cx} {W : WX} {n : Nat} {gl : Nat → List D → Fd} {np : Nat → Nat} {pins : List (Addr × Obj)} {σ : L2.St} {H : Hp} {s : Shared} {k : Kp} {s0 : S} {f c' : Addr} {id : Nat} {cap : List D} {L : LamSpec} {cl : List (Str × Addr)} {ws vs : List V} {us : List Value} {ds : List D} {Q : VK}
end
section
variable [FrI] [LT] {X : Cx} {W : WX} {n : Nat} {gl : Nat → List D → Fd} {np : Nat → Nat} {p pos : Pos} {x : Str} {e : Expr} {es : List Expr} {ms : M (List D)}
end
end DL
namespace DL
open PySem PySem.Spec PyProof.Rows L2 NdefX
section
variable {X : Cx} {pins : List (Addr × Obj)} {σ : L2.St} {H : Hp} {s : Shared}
end
section
variable [FrI]
end
inductive Arg where
  | d (x : D)
  | l (id : Nat)
def ArgC (C : Cw) (k : Kp) (v : V) : Arg → Prop
  | .d x => VR C k.G k.al v x
  | .l id => ∃ f, v = .ref f ∧ k.lam f = some id
inductive ArgCs (C : Cw) (k : Kp) : List V → List Arg → Prop
  | nil : ArgCs C k [] []
  | cons {v : V} {a : Arg} {vs : List V} {as : List Arg} : ArgC C k v a → ArgCs C k vs as → ArgCs C k (v :: vs) (a :: as)
theorem ArgC.up {C : Cw} {k k' : Kp} {v : V} {a : Arg} (h : ArgC C k v a) (l : k.le k') : ArgC C k' v a := by
  cases a with
  | d x => exact VR.up (k := k) h l
  | l id => obtain ⟨f, e, q⟩ := h; exact ⟨f, e, l.lam _ _ q⟩
theorem ArgCs.up {C : Cw} {k k' : Kp} : ∀ {vs : List V} {as : List Arg}, ArgCs C k vs as → k.le k' → ArgCs C k' vs as
  | _, _, .nil, _ => .nil
  | _, _, .cons h t, l => .cons (h.up l) (t.up l)
theorem ArgCs.len {C : Cw} {k : Kp} : ∀ {vs : List V} {as : List Arg}, ArgCs C k vs as → vs.length = as.length
  | _, _, .nil => rfl
  | _, _, .cons _ t => by rw [List.length_cons, List.length_cons, t.len]
section
variable [FrI]
variable [LT] {X : Cx} {W : WX} {pos p : Pos} {x : Str} {e : Expr} {es : List Expr} {m : M D} {ma : M Arg} {ms : M (List Arg)}
end
end DL
namespace DL
open PySem PySem.Spec PyProof.Rows L2 NdefX
section
variable {P : Program} {w : World} {K : PySem.W.Frag} {mg : Str → Option Value} {base : Heap} {A : Around} {outer : List Env} {s s' : Shared} {H Hc : Hp} {cs : Addr → Prop} {Q : VK} {E : XK}
end
section
variable [LT] {X : Cx} {W : WX} {pins : List (Addr × Obj)} {σ : L2.St} {H : Hp} {s : Shared} {k : Kp} {s0 : S} {jsl : Nat → List Nat}
end
end DL
namespace DL
open PySem PySem.Spec PyProof.Rows L2
variable [FrI]
section
variable {C : Cw} {W : WX} {k : Kp} {σ : L2.St} {H : Hp} {s : S}
theorem Rep.drop (R : Rep C k s σ H) {i : Nat} {o : MO} (hi : s.rho[i]? = some (.own o)) : ∃ k' a, k.le k' ∧ Rep C k' (s.put i .un) σ H ∧ σ[i]? = some (some (.ref a)) ∧ Free k' a ∧ ObR C k' H a o := by
  obtain ⟨a, ha, r⟩ := R.ob (.inr i) o (by show (match s.rho[i]? with | some (.own o) => some o | _ => none) = some o; rw [hi])
  obtain ⟨ga, fa, _⟩ := R.dom _ _ ha
  obtain ⟨v, hv, a', e1, e2⟩ := R.sl i _ hi
  rw [ha] at e2
  cases e2
  subst e1
  obtain ⟨R1, l1⟩ := R.setUn i (some (.ref a))
  have es : σ.set i (some (.ref a)) = σ := by
    refine List.ext_getElem? fun j => ?_
    by_cases c : i = j
    · subst c
      rw [List.getElem?_set_self (List.getElem?_eq_some_iff.mp hv).1, hv]
    · rw [List.getElem?_set_ne c]
  rw [es] at R1
  exact ⟨_, a, l1, R1, hv, ⟨ga, fa, fun x z => by
    obtain ⟨z1, z2⟩ := delK_some z
    exact z1 (R.inj x (.inr i) a z2 ha)⟩, r.up l1⟩
end
section
variable [LT] {X : Cx} {W : WX} {pos p : Pos} {x : Str} {tg iter e : Expr} {es : List Expr} {items : M (List Nat)} {body : List Stmt} {mb : M Fl} {ms : M (List Arg)} {mo : M MO}
end
end DL
namespace DL
open PySem PySem.Spec PyProof.Rows L2
variable [FrI]
section
variable [LT] {X : Cx} {W : WX} {apos cpos p : Pos} {x : Str} {e : Expr} {es : List Expr} {ma : M (List Arg)}
end
end DL
namespace DL
open PySem PySem.Spec PyProof.Rows L2
variable [FrI]
theorem PostL.imp {r : Out (List D)} {T T' : List D → S → Prop} (h : PostL r T) (f : ∀ a s, T a s → T' a s) : PostL r T' := by
  cases r with
  | ok a s => exact f a s h
  | _ => exact h
theorem PostL.split {m : M (List D)} {g : List D → M (List D)} {s : S} {T : List D → S → Prop} (h : PostL ((m >>= g) s) T) : PostL (m s) fun a s' => PostL (g a s') T := by
  have e : (m >>= g) s = M.bind m g s := rfl
  rw [e] at h
  unfold M.bind at h
  cases q : m s with
  | ok a s' => rw [q] at h; exact h
  | exc x s' => rw [q] at h; exact h.elim
  | stuck => rw [q] at h; exact h.elim
section
variable [LT] {X : Cx} {W : WX} {pos : Pos}
variable {spos py : Pos} {elt tg iter tg1 iter1 : Expr} {ifs ifs1 : List Expr} {scope : Scope} {items items1 : M (List D)} {f f1 : D → M Unit} {t t1 : M Bool} {e : M D} {y : Str}
end
end DL
namespace DL
open PySem PySem.Spec PyProof.Rows L2
variable [FrI]
def enumF : Nat → List D → List D
  | _, [] => []
  | i, d :: r => .tmp [.int (i : Nat), d] :: enumF (i + 1) r
theorem enumF_len : ∀ (ds : List D) (j : Nat), (enumF j ds).length = ds.length
  | [], _ => rfl
  | d :: r, j => by show (enumF (j + 1) r).length + 1 = _; rw [enumF_len r]; rfl
theorem enumF_at : ∀ (ds : List D) (j i : Nat), (enumF j ds)[i]? = ds[i]?.map fun d => D.tmp [.int ((j + i : Nat) : Int), d]
  | [], _, _ => by simp [enumF]
  | d :: r, j, 0 => by simp [enumF]
  | d :: r, j, i + 1 => by
    show (enumF (j + 1) r)[i]? = _
    rw [enumF_at r (j + 1) i]
    have e : j + 1 + i = j + (i + 1) := by omega
    rw [e]
    rfl
theorem src_enum {C : Cw} {k : Kp} {a : Addr} {xs : List V} {ds : List D} (h : SqL C.K k.G a xs) (r : VRs C k.G k.al xs ds) : Src C (Ite C.K a) k (enumF 0 ds) := by
  refine ⟨fun k' s σ H i l R hi => ?_, fun k' s σ H l R => ?_, fun k' s σ H i x H' l R hi y => ?_⟩
  · rw [enumF_len, ← r.len] at hi
    exact ⟨xs, xs[i], SqL.sub R.G (SqL.sub l.G h), by rw [List.getElem?_eq_getElem]⟩
  · rw [enumF_len, ← r.len]
    exact ⟨xs, SqL.sub R.G (SqL.sub l.G h), Nat.le_refl _⟩
  · obtain ⟨T, x0, rfl, hT, rfl, hx⟩ := y
    have hx0 := hx xs (SqL.sub R.G (SqL.sub l.G h))
    obtain ⟨d, e, rv⟩ := r.at hx0
    obtain ⟨R', l'⟩ := R.alloc hT (.tup [.int (i : Nat), x0])
    refine ⟨_, .tmp [.int (i : Nat), d], l', R', by rw [enumF_at, e]; simp, .tmp (.inl (.inl upd_same)) (.cons (.int _) (.cons ?_ .nil))⟩
    exact (rv.mono l.G l.al).mono l'.G l'.al
end DL
namespace DL
open PySem PySem.Spec PyProof.Rows L2
variable [FrI]
end DL
namespace DL
namespace CS
open PySem PySem.Spec PyProof.Rows L2
abbrev fresh (w : World) : Obj := { cls := .type "set", dict := none, data := .set #[] 0 (.fresh 0 0 (!w.params.followText "set-order")) }
def Turn (P : Program) (w : World) (a : Addr) (J : Nat → Heap → Prop) (i : Nat) (v : Value) : Prop :=
  ∀ (A : Around) (E : Value → Shared → Prop) (s : Shared) (Q : Bool → Shared → Prop), J i s.heap →
    (∀ (b : Bool) (h' : Heap), Heap.SameBut a s.heap h' → J (i + 1) h' → Q b { s with heap := h', toks := s.toks + 1 }) → wpAny (model P w) A (setAdd a v) Q E s
section
variable {prog : Program} {w : World} {A : Around} {R : Result → Shared → Prop} {I : Addr} {fp wr : List Addr} {G : Array GenState → Array GenState → Prop} {n : Nat} {P : Nat → Value → Prop} {St : Nat → Shared → Prop}
theorem loop (W : WalksS prog w A.in1 I fp wr G n P St) (S : Addr) (hSf : S ∉ fp) (J : Nat → Heap → Prop) (hJ : ∀ i h h', J i h → (∀ o, h.get? S = some o → h'.get? S = some o) → J i h')
    (hT : ∀ i v, i < n → P i v → Turn prog w S J i v) :
    ∀ (k i : Nat) (s : Shared), n - i = k → i ≤ n → St i s → J i s.heap →
      (∀ s', Moved (S :: wr) G s s' → J n s'.heap → R (.ok (.ret .none)) s') →
      codeAny (model prog w) A (.builtin "set.update.loop" ⟨[.ref S, .ref I], []⟩) R s := by
  have hSw : S ∉ wr := fun h => hSf (W.sub _ h)
  have hsub : ∀ b ∈ wr, b ∈ S :: wr := fun b hb => List.mem_cons_of_mem _ hb
  intro k
  induction k with
  | zero =>
    intro i s hk hi hst hS hR
    have hin : i = n := by omega
    subst hin
    refine codeAny_builtin PyProof.Rows.F.entry_set_update_loop ?_
    rw [Around.under_plainId PyProof.Rows.F.plain_set_update_loop _]
    show wpAny _ A.in1 (pyNext (.ref I) >>= _) _ _ s
    refine wpAny_bind (W.done s _ _ hst fun s' hm => ?_)
    show wpAny _ A.in1 (ret Value.none) _ _ s'
    exact wpAny_pure (hR s' (hm.mono hsub) (hJ _ _ _ hS fun o e => hm.heap S _ hSw e))
  | succ k ih =>
    intro i s hk hi hst hS hR
    have hlt : i < n := by omega
    refine codeAny_builtin PyProof.Rows.F.entry_set_update_loop ?_
    rw [Around.under_plainId PyProof.Rows.F.plain_set_update_loop _]
    show wpAny _ A.in1 (pyNext (.ref I) >>= _) _ _ s
    refine wpAny_bind (W.item i s _ _ hlt hst fun v s' hP hst' hm => ?_)
    have hS' : J i s'.heap := hJ _ _ _ hS fun o e => hm.heap S _ hSw e
    show wpAny _ A.in1 (holding [v] (setAdd S v) >>= _) _ _ s'
    refine wpAny_bind (wpAny_holding ?_)
    refine hT i v hlt hP _ _ s' _ hS' fun b h' hsb hS2 => ?_
    refine wpAny_pure ⟨plainId_quiet PyProof.Rows.F.plain_set_update_loop _, ih (i + 1) _ (by omega) hlt (W.frame _ s' _ _ hst' ?_ fun b hb o e => ?_) hS2 fun s'' hm'' hS'' => ?_⟩
    · exact Nat.le_succ _
    · rw [hsb.2 b (fun h : b = S => hSf (by rw [← h]; exact hb))]; exact e
    · refine hR s'' (Moved.trans W.gtrans ((hm.mono hsub).then_heap (Nat.le_succ _) fun b o hb e => ?_) hm'') hS''
      rw [hsb.2 b (fun h : b = S => hb (by rw [h]; exact List.mem_cons_self))]; exact e
end
section
variable {prog : Program} {w : World} {A : Around} {E : Value → Shared → Prop} {s : Shared}
theorem new_led (a : Value) {Q₁ : Value → Shared → Prop} (h : Q₁ (.ref s.heap.objs.size) { s with heap := s.heap.push (fresh w) }) :
    codeAny (model prog w) A (.call (.builtin "set.__new__") ⟨[.type "set", a], []⟩) (wants Q₁ E) s := by
  refine codeAny_of_tree ?_
  show wpAny _ A.in1 (do checkBuiltinCall "set.__new__" ⟨[.type "set", a], []⟩; again (.builtin "set.__new__" ⟨[.type "set", a], []⟩)) _ _ s
  refine wpAny_bind (wpAny_of_eq (PySem.F.newCall_set_1 a) (wpAny_pure ⟨plainId_quiet PySem.F.plain_set_new _, codeAny_builtin PySem.F.entry_set_new ?_⟩))
  rw [Around.under_plainId PySem.F.plain_set_new _]
  unfold Builtin.«set.__new__» Builtin.Frozenset.newClass
  have hsub := sub_set_self
  obtain ⟨hp, g, d, tk, os⟩ := s
  dsimp only
  wp_walk
  refine wpAny_askSetting (wpAny_pure ?_)
  dsimp only
  simp only [newObj]
  refine wpAny_bind (wpAny_alloc (wpAny_pure ?_))
  exact wpAny_pure h
set_option maxHeartbeats 6400000 in
theorem call_from {l : Addr} {items : Array Value} {Q : Value → Shared → Prop} (J : Nat → Heap → Prop)
    (hh : A.handled = none) (hl : s.heap.IsList l items ∨ s.heap.IsTuple l items)
    (hJ : ∀ i h h', J i h → (∀ o, h.get? s.heap.objs.size = some o → h'.get? s.heap.objs.size = some o) → J i h')
    (h0 : ∀ h : Heap, h.get? s.heap.objs.size = some (fresh w) → J 0 h)
    (hT : ∀ i v, i < items.size → items[i]? = some v → Turn prog w s.heap.objs.size J i v)
    (h : ∀ (h' : Heap) (tk : Nat), J items.size h' →
      (∀ b o, b < s.heap.objs.size → s.heap.get? b = some o → h'.get? b = some o) → Q (.ref s.heap.objs.size) { s with heap := h', toks := tk }) :
    wpAny (model prog w) A (call (.type "set") [.ref l]) Q E s := by
  obtain ⟨c, tl, hmro⟩ := PySem.F.called_set.mro
  have hmade := PySem.F.called_set.made
  have hsub := PySem.F.called_set.sub
  refine wpAny_call (codeAny_of_tree ?_)
  show wpAny _ _ (callAny (.type "set") _) _ _ _
  refine wpAny_pure ⟨Code.quiet_builtin _ (by decide +kernel), codeAny_builtin PySem.F.entry_type_call ?_⟩
  rw [Around.under_plain (weight_type_call_type "set" [.ref l] []) rfl]
  have h1 := PySem.F.called_set.notType
  have h2 := PySem.F.called_set.canCreate
  have hct := PySem.F.typeCall_set_1 (.ref l)
  repeat (any_goals (first | assumption | wp_step))
  refine codeAny_mono (new_led (.ref l) (E := E) (Q₁ := fun obj s₁ => obj = .ref s.heap.objs.size ∧ s₁ = { s with heap := s.heap.push (fresh w) }) ⟨rfl, rfl⟩) fun r s₁ hr => ?_
  cases r with
  | error e => exact hr
  | ok fl =>
    cases fl with
    | ret obj =>
      obtain ⟨rfl, rfl⟩ := hr
      have hS : (s.heap.push (fresh w)).get? s.heap.objs.size = some (fresh w) := Heap.get?_push_size _ rfl
      have hT' : Shared.TypeIs { s with heap := s.heap.push (fresh w) } (.ref s.heap.objs.size) "set" := ⟨_, hS, rfl⟩
      have hli := PySem.F.called_set.init.lookup
      have hbi := PySem.F.called_set.init.bind (.ref s.heap.objs.size)
      repeat (any_goals (first | assumption | wp_step))
      refine codeAny_mono (codeAny_call_builtin (R := wants (fun r s₂ => r = .none ∧ ∃ h' tk, s₂ = { s with heap := h', toks := tk } ∧ J items.size h' ∧
          (∀ b o, b < s.heap.objs.size → s.heap.get? b = some o → h'.get? b = some o)) E) PySem.F.called_set.init.plain PySem.F.entry_set_init (check_set_init_1 hT' ?_)) fun r₂ s₂ hr₂ => ?_
      · have hlS : l < s.heap.objs.size := by
          rcases hl with ⟨ol, hol, _⟩ | ⟨ol, hol, _⟩ <;> exact Heap.lt_size hol
        have hh3 : A.in1.in1.in1.handled = none := by simp [hh]
        have hneI : l ≠ (s.heap.push (fresh w)).objs.size := by
          rw [Heap.size_push]; exact Nat.ne_of_lt (Nat.lt_succ_of_lt hlS)
        have hSf : s.heap.objs.size ∉ [(s.heap.push (fresh w)).objs.size, l] := by
          rw [Heap.size_push]; simp only [List.mem_cons, List.mem_singleton, List.not_mem_nil, or_false, not_or]
          exact ⟨Nat.ne_of_lt (Nat.lt_succ_self _), Nat.ne_of_gt hlS⟩
        rcases hl with hl | hl
        · obtain ⟨ol, hol, hcl, nl, hdl⟩ := hl
          obtain ⟨ocls, odict, odata, oslots⟩ := ol
          simp only at hcl hdl
          subst hcl; subst hdl
          have hol' : (s.heap.push (fresh w)).get? l = some { cls := .type "list", dict := odict, data := .seq items nl, slots := oslots } := Heap.get?_push_of_some _ hol
          have hsls := PySem.F.sub_list_set
          have hslf := PySem.F.sub_list_frozenset
          have hne : (Value.type "list" == Value.type "dict") = false := by decide
          have hl1 : (s.heap.push (fresh w)).IsList l items := ⟨_, hol', rfl, nl, rfl⟩
          unfold Builtin.«set.__init__» noKeywords Builtin.Frozenset.updateFrom
          generalize hPI : pyIter = PI
          wp_walk
          subst hPI
          refine wpAny_pyIter_list hl1 ?_
          refine wpAny_bind (wpAny_runValue ?_)
          refine loop ((Walks.list hh3 _ l hneI items).toS) s.heap.objs.size hSf J hJ (fun i v hi hv => hT i v hi hv) (items.size - 0) 0 _ (by omega) (Nat.zero_le _)
            ⟨⟨_, Heap.get?_push_size _ rfl, rfl, rfl⟩, (hl1.push _)⟩ (h0 _ (Heap.get?_push_of_some _ hS)) ?hR
          intro s' hm hS'
          obtain ⟨h', g', d', tk', os'⟩ := s'
          have eg : g' = s.gens := hm.gens
          have ed : d' = s.drawn := hm.drawn
          have eo : os' = s.os := hm.os
          subst eg; subst ed; subst eo
          show wpAny _ _ _ _ _ _
          refine wpAny_pure ?_
          show wpAny _ _ (ret Value.none) _ _ _
          refine wpAny_pure ⟨rfl, h', tk', rfl, hS', fun b o hb e => ?_⟩
          have hb1 : b ≠ s.heap.objs.size := Nat.ne_of_lt hb
          have hb2 : b ≠ (s.heap.push (fresh w)).objs.size := by
            rw [Heap.size_push]; exact Nat.ne_of_lt (Nat.lt_succ_of_lt hb)
          exact hm.heap b o (by simp only [List.mem_cons, List.mem_singleton, List.not_mem_nil, or_false, not_or]; exact ⟨hb1, hb2⟩) (Heap.get?_push_of_some _ (Heap.get?_push_of_some _ e))
        · obtain ⟨ol, hol, hcl, nl, hdl⟩ := hl
          obtain ⟨ocls, odict, odata, oslots⟩ := ol
          simp only at hcl hdl
          subst hcl; subst hdl
          have hol' : (s.heap.push (fresh w)).get? l = some { cls := .type "tuple", dict := odict, data := .seq items nl, slots := oslots } := Heap.get?_push_of_some _ hol
          have hsls := PySem.F.sub_tuple_set
          have hslf := PySem.F.sub_tuple_frozenset
          have hne : (Value.type "tuple" == Value.type "dict") = false := by decide
          have hl1 : (s.heap.push (fresh w)).IsTuple l items := ⟨_, hol', rfl, nl, rfl⟩
          unfold Builtin.«set.__init__» noKeywords Builtin.Frozenset.updateFrom
          generalize hPI : pyIter = PI
          wp_walk
          subst hPI
          refine wpAny_pyIter_tuple hl1 ?_
          refine wpAny_bind (wpAny_runValue ?_)
          refine loop ((Walks.tuple hh3 _ l hneI items).toS) s.heap.objs.size hSf J hJ (fun i v hi hv => hT i v hi hv) (items.size - 0) 0 _ (by omega) (Nat.zero_le _)
            ⟨⟨_, Heap.get?_push_size _ rfl, rfl, rfl⟩, (hl1.push _)⟩ (h0 _ (Heap.get?_push_of_some _ hS)) ?hR2
          intro s' hm hS'
          obtain ⟨h', g', d', tk', os'⟩ := s'
          have eg : g' = s.gens := hm.gens
          have ed : d' = s.drawn := hm.drawn
          have eo : os' = s.os := hm.os
          subst eg; subst ed; subst eo
          show wpAny _ _ _ _ _ _
          refine wpAny_pure ?_
          show wpAny _ _ (ret Value.none) _ _ _
          refine wpAny_pure ⟨rfl, h', tk', rfl, hS', fun b o hb e => ?_⟩
          have hb1 : b ≠ s.heap.objs.size := Nat.ne_of_lt hb
          have hb2 : b ≠ (s.heap.push (fresh w)).objs.size := by
            rw [Heap.size_push]; exact Nat.ne_of_lt (Nat.lt_succ_of_lt hb)
          exact hm.heap b o (by simp only [List.mem_cons, List.mem_singleton, List.not_mem_nil, or_false, not_or]; exact ⟨hb1, hb2⟩) (Heap.get?_push_of_some _ (Heap.get?_push_of_some _ e))
      · cases r₂ with
        | error e => exact hr₂
        | ok fl₂ =>
          cases fl₂ with
          | ret r =>
            obtain ⟨rfl, h', tk, rfl, hS', hk'⟩ := hr₂
            repeat (any_goals (first | assumption | wp_step))
            exact h _ _ hS' hk'
          | _ => exact hr₂.elim
    | _ => exact hr.elim
end
end CS
end DL
namespace DL
open PySem PySem.Spec PyProof.Rows L2
section
variable {α : Type} [DecidableEq α]
def ddC (k : α) (acc : List α) : List α := if k ∈ acc then acc else k :: acc
def ddF (ks : List α) : List α := ks.foldl (fun acc k => if k ∈ acc then acc else k :: acc) []
theorem ddF_snoc (ks : List α) (k : α) : ddF (ks ++ [k]) = ddC k (ddF ks) := by
  unfold ddF
  rw [List.foldl_append]
  rfl
theorem ddF_take {ks : List α} {i : Nat} {k : α} (h : ks[i]? = some k) : ddF (ks.take (i + 1)) = ddC k (ddF (ks.take i)) := by
  obtain ⟨hi, e⟩ := List.getElem?_eq_some_iff.mp h
  rw [List.take_succ_eq_append_getElem hi, e, ddF_snoc]
theorem ddF_len_le : ∀ (ks acc : List α), (ks.foldl (fun acc k => if k ∈ acc then acc else k :: acc) acc).length ≤ acc.length + ks.length
  | [], acc => by simp
  | x :: xs, acc => by
    rw [List.foldl_cons]
    refine Nat.le_trans (ddF_len_le xs _) ?_
    by_cases c : x ∈ acc
    · rw [if_pos c, List.length_cons]; omega
    · rw [if_neg c, List.length_cons, List.length_cons]; omega
theorem ddF_len (ks : List α) : (ddF ks).length ≤ ks.length := by
  have := ddF_len_le ks ([] : List α)
  rw [List.length_nil, Nat.zero_add] at this
  exact this
def memB (k : α) (ks : List α) : Bool := decide (k ∈ ks)
theorem memB_iff {k : α} {ks : List α} : memB k ks = true ↔ k ∈ ks := decide_eq_true_iff
theorem memB_dd {ks : List α} {k k' : α} : memB k' (ddC k (ddF ks)) = (memB k' (ddF ks) || decide (k' = k)) := by
  unfold ddC
  by_cases c : k ∈ ddF ks
  · rw [if_pos c]
    by_cases e : k' = k
    · subst e
      rw [show memB k' (ddF ks) = true from decide_eq_true c]
      rfl
    · rw [decide_eq_false e, Bool.or_false]
  · rw [if_neg c]
    unfold memB
    rw [← Bool.decide_or]
    congr 1
    rw [List.mem_cons]
    exact propext or_comm
theorem len_dd {ks : List α} {k : α} : (ddC k (ddF ks)).length = (if memB k (ddF ks) = true then (ddF ks).length else (ddF ks).length + 1) := by
  unfold ddC
  by_cases c : k ∈ ddF ks
  · rw [if_pos c, if_pos (memB_iff.mpr c)]
  · rw [if_neg c, if_neg (fun z => c (memB_iff.mp z)), List.length_cons]
end
namespace CS
section
variable {P : Program} {w : World} {a : Addr}
def JK (P : Program) (w : World) (a : Addr) (ks : List Key) (i : Nat) (h : Heap) : Prop := h.SetOf (mixKind P w) a (fun k => memB k (ddF (ks.take i))) (ddF (ks.take i)).length
theorem jk_turn {ks : List Key} {i : Nat} {k : Key} {v : Value} (hk : ks[i]? = some k) (r : RelV (kV k) v) (hb : ks.length + 1 < scanBound) : Turn P w a (JK P w a ks) i v := by
  intro A E s Q hS hq
  unfold setAdd
  refine wpAny_holding ?_
  refine wpAny_bind ((mixKind P w).pyHash (k := k) (kV_is r) ?_)
  have hl : (ddF (ks.take i)).length + 1 < scanBound := by
    have := ddF_len (ks.take i)
    rw [List.length_take] at this
    omega
  refine wpAny_setAddHashed_of (knd := mixKind P w) (s := { s with toks := s.toks + 1 }) (kV_is r) (key_scan r) hS hl fun h' hsb hS2 => ?_
  refine hq _ _ hsb ?_
  show h'.SetOf (mixKind P w) a _ _
  rw [ddF_take hk, len_dd]
  have e : (fun k' => memB k' (ddC k (ddF (ks.take i)))) = fun k' => memB k' (ddF (ks.take i)) || decide (k' = k) := funext fun k' => memB_dd
  rw [e]
  exact hS2
theorem jk_keep {ks : List Key} (i : Nat) (h h' : Heap) (J : JK P w a ks i h) (k : ∀ o, h.get? a = some o → h'.get? a = some o) : JK P w a ks i h' := setOf_at J k
theorem jk_zero {ks : List Key} (h : Heap) (e : h.get? a = some (fresh w)) : JK P w a ks 0 h :=
  ⟨_, #[], 0, _, e, ⟨rfl, rfl, rfl⟩, rfl, (fun e he => by simp at he), (fun k => by simp [ddF, memB]), (by decide), (by rfl), rfl⟩
end
end CS
section
variable {X : Cx}
theorem set_keys {pins : List (Addr × Obj)} {σ : L2.St} {H : Hp} {s : Shared} {l : Addr} {ks : List Key} {Q : Value → Shared → Prop} (I : Inv X pins σ H s) (hc : X.calm = true)
    (hq : SqL X.K H l (ks.map kV) ∨ SqT X.K H l (ks.map kV)) (hb : ks.length + 1 < scanBound)
    (h : ∀ (h' : Heap) (tk : Nat), h'.SetOf (mixKind X.prog X.w) s.heap.objs.size (fun k => memB k (ddF ks)) (ddF ks).length → Inv X pins σ H { s with heap := h', toks := tk } → Q (.ref s.heap.objs.size) { s with heap := h', toks := tk }) :
    wpAny (model X.prog X.w) X.A (call (.type "set") [.ref l]) Q X.xe s := by
  have key : ∀ its : List Value, Vals (ks.map kV) its → (s.heap.IsList l its.toArray ∨ s.heap.IsTuple l its.toArray) → wpAny (model X.prog X.w) X.A (call (.type "set") [.ref l]) Q X.xe s := fun its r hl => by
    have len : its.toArray.size = ks.length := by rw [List.size_toArray, ← r.length, List.length_map]
    refine CS.call_from (CS.JK X.prog X.w s.heap.objs.size ks) (I.ok.hd hc) hl CS.jk_keep CS.jk_zero (fun i v hi hv => ?_) fun h' tk hS hk => ?_
    · have hi' : i < ks.length := by rw [← len]; exact hi
      obtain ⟨u, hu, ru⟩ := r.get (i := i) (x := kV ks[i]) (by simp [hi'])
      have : v = u := by
        have e : its.toArray[i]? = some u := by simpa using hu
        rw [hv] at e
        exact Option.some.inj e
      subst this
      exact CS.jk_turn (List.getElem?_eq_getElem hi') ru hb
    · unfold CS.JK at hS
      rw [len, List.take_length] at hS
      exact h h' tk hS (I.kept fun b o e => hk b o (Heap.lt_size e) e)
  rcases hq with hq | hq
  · obtain ⟨its, r, pl, hz⟩ := I.list hq
    exact key its r (.inl pl.isList)
  · obtain ⟨its, r, pl, hz⟩ := I.tuple hq
    exact key its r (.inr pl)
def tLenS (K : PySem.W.Frag) (ta : TE) : TE := fun σ H Q => ta σ H fun x H1 => ∃ l, ∃ ks : List Key, x = .ref l ∧ (SqL K H1 l (ks.map kV) ∨ SqT K H1 l (ks.map kV)) ∧ ks.length + 1 < scanBound ∧ Q (.int (ddF ks).length) H1
theorem pe_lenS {a : Expr} {ta : TE} {p p2 q pos : Pos} (hc : X.calm = true) (hg : Gl X "len") (hm : X.mg "len" = none) (hg2 : Gl X "set") (hm2 : X.mg "set" = none) (ha : PE X a ta)
    (na : starEach [a] X.env = (false, eval a X.env) :: starEach [] X.env := by rfl) : PE X (.Call (.Name "len" p) [.Call (.Name "set" p2) [a] [] q] [] pos) (tLenS X.K ta) := by
  refine ⟨fun pins s σ H Q I h => ?_⟩
  refine Call_ (ld_blt I hg hm boot_len ?_)
  refine PyProof.Rows.callWith_builtin1 (PyProof.Rows.args_cons ?_ rfl) rfl rfl
  refine Call_ (ld_blt I hg2 hm2 boot_set ?_)
  refine PyProof.Rows.callWith_type1 (PyProof.Rows.args_cons (thn (ha.run pins s σ H _ I h) fun v s1 ⟨x, H1, I1, r1, q1⟩ => PyProof.Rows.args_nil ?_) na) na rfl
  obtain ⟨l, ks, rfl, hq, hb, q1⟩ := q1
  cases r1
  refine set_keys I1 hc hq hb fun h' tk hS I2 => ?_
  refine PyProof.Rows.args_nil ?_
  obtain ⟨o, es, ep, t, ho, hex, hd, _, _, _, hf, hn⟩ := hS
  have hl := ddF_len ks
  refine call_len_set ho hex hd hf (by rw [hn]; unfold scanBound at hb; omega) ⟨.int (ddF ks).length, H1, I2.tok _, ⟨_, by rw [hn]⟩, q1⟩
end
end DL
namespace DL
open PySem PySem.Spec PyProof.Rows L2
variable [FrI]
def keysO : List D → Option (List Key)
  | [] => some []
  | d :: ds => match keyO d, keysO ds with
    | some k, some ks => some (k :: ks)
    | _, _ => none
theorem VRs.keysO {C : Cw} {G : Hp} {al : Nat ⊕ Nat → Option Addr} : ∀ {ds : List D} {vs : List V} {ks : List Key}, VRs C G al vs ds → keysO ds = some ks → vs = ks.map kV
  | [], _, _, .nil, e => by cases e; rfl
  | d :: ds, _, _, .cons h t, e => by
    unfold DL.keysO at e
    cases q : keyO d with
    | none => rw [q] at e; cases e
    | some k =>
      cases q2 : DL.keysO ds with
      | none => rw [q, q2] at e; cases e
      | some ks =>
        rw [q, q2] at e
        cases e
        rw [List.map_cons, VRs.keysO t q2]
        congr 1
        cases h <;> first | (cases q; rfl) | cases q
section
variable [LT] {X : Cx} {W : WX} {pos p p2 q apos cpos : Pos} {a e f o : Expr} {m ma mb mo : M D} {x : Str}
def mLenS (m : M D) : M D := do
  let x ← m
  match seqO x with
  | some ds => match keysO ds with
    | some ks => if ks.length + 1 < scanBound then M.pure (.int (ddF ks).length) else stuck
    | none => stuck
  | none => stuck
theorem de_lenS (hm : X.mg "len" = none) (hm2 : X.mg "set" = none) (ha : DE X W a m) (hg : Gl X "len" := by rfl) (hg2 : Gl X "set" := by rfl) (hc : X.calm = true := by rfl) (na : starEach [a] X.env = (false, eval a X.env) :: starEach [] X.env := by rfl) :
    DE X W (.Call (.Name "len" p) [.Call (.Name "set" p2) [a] [] q] [] pos) (mLenS m) :=
  PE_mono (pe_lenS hc hg hm hg2 hm2 ha na) fun σ H Q h => by
    obtain ⟨k, s, R, pp⟩ := h
    refine tD_bind R pp fun d s1 k1 H1 v l1 R1 r1 p1 => ?_
    have fin : ∀ {xs : List V} {ds : List D}, VRs X.cw k1.G k1.al xs ds → PostE X.cw W k1 σ ((match keysO ds with
        | some ks => if ks.length + 1 < scanBound then M.pure (.int (ddF ks).length) else stuck
        | none => stuck : M D) s1) Q → ∃ ks : List Key, xs = ks.map kV ∧ ks.length + 1 < scanBound ∧ Q (.int (ddF ks).length) H1 := fun {xs ds} rs p => by
      cases e : keysO ds with
      | none => rw [e] at p; exact p.elim
      | some ks =>
        rw [e] at p
        by_cases c : ks.length + 1 < scanBound
        · simp only [c, if_pos] at p
          exact ⟨ks, rs.keysO e, c, PostE.ret (s := s1) p R1 (.int _)⟩
        · simp only [c] at p
          exact p.elim
    cases r1 with
    | @tup b xs ds h1 rs =>
      obtain ⟨ks, e1, c, q⟩ := fin rs p1
      exact ⟨b, ks, rfl, .inr (e1 ▸ SqT.sub R1.G h1.sq), c, q⟩
    | @lst b xs ds h1 rs =>
      obtain ⟨ks, e1, c, q⟩ := fin rs p1
      exact ⟨b, ks, rfl, .inl (e1 ▸ SqL.sub R1.G h1), c, q⟩
    | _ => exact p1.elim
end
end DL
namespace DL
open PySem PySem.Spec PyProof.Rows L2
variable [FrI]
section
variable [LT] {X : Cx} {W : WX} {pos p : Pos} {x : Str} {e : Expr} {es : List Expr} {kws : List Keyword} {ms mk : M (List D)} {n : Nat} {ps ks : List Str} {g : Fd}
theorem run_fG {CX : CXT} {k : Nat} {f : Addr} {fd : FuncData} {sp : Sp} {E : L2.St → XK} {pins : List (Addr × Obj)} {σ : L2.St} {H : Hp} {s : Shared} {Q : VK} {us ws : List Value} {args : List Value} {kw : List (Str × Value)} {vs : List V}
    (F : FnG X.prog X.w X.K X.mg X.base CX k f fd ps sp) (hr : RoomG k X.A) (hx : ∀ σ, PassesAt CX X σ (E σ)) (I : Inv X pins σ H s) (hb : BindsTo s fd ⟨args, kw⟩ (ps.zip us)) (r : Vals vs us) (h : sp vs H Q (E σ)) :
    wpAny (model X.prog X.w) X.A (call (.ref f) args kw) (EP X pins σ Q) X.xe s := by
  refine wpAny_call (codeAny_mono (F.run X.A X.stack s H ⟨args, kw⟩ us vs Q (E σ) hr I.env0 hb r h) fun res s' hq => ?_)
  cases res with
  | error e => exact hx σ pins H s e s' I hq
  | ok fl =>
    cases fl with
    | ret u => exact I.after hq
    | next => exact False.elim hq
    | brk => exact False.elim hq
    | cont => exact False.elim hq
def mCall0 (g : Fd) : M D := runCall g []
theorem de_call0 (hc : Callee (gsOf X) n x [] g) (hr : RoomG n X.A) (tk : Takes X W) (hg : Gl X x := by rfl) (hdb : (x == ("__debug__" : Str)) = false := by decide) : DE X W (.Call (.Name x p) [] [] pos) (mCall0 g) := by
  obtain ⟨f, fd, F, hm, hk, hb⟩ := hc.ok
  refine ⟨fun pins s σ H Q I h => ?_⟩
  obtain ⟨k, s0, R, pp⟩ := h
  refine wpAny_Call_Name_kw (ld_glob I hg hm ?_ hdb)
  refine PySem.W.callWith_K0 I.kIn hk ?_
  exact run_fG (E := fun σ c d H' => W c d σ H') (us := []) (vs := []) (ws := []) F hr (fun σ => passAt_W tk σ) I (hb s [] I.kIn rfl) .nil (call_d R .nil rfl pp)
end
end DL
namespace DL
open PySem PySem.Spec PyProof.Rows L2
def keyP : Key → PyData
  | .inl i => .int i
  | .inr x => .str x
mutual
def D.pyd : D → Option PyData
  | .non => some .none
  | .bl b => some (.bool b)
  | .int i => some (.int i)
  | .str s => some (.str s)
  | .tup ds => (D.pyds ds).map .tuple
  | .lst ds => (D.pyds ds).map .list
  | .dic kvs => (D.pydk kvs).map .dict
  | _ => none
def D.pyds : List D → Option (List PyData)
  | [] => some []
  | d :: ds => match D.pyd d, D.pyds ds with
    | some p, some ps => some (p :: ps)
    | _, _ => none
def D.pydk : List (Key × D) → Option (List (PyData × PyData))
  | [] => some []
  | (k, d) :: ds => match D.pyd d, D.pydk ds with
    | some p, some ps => some ((keyP k, p) :: ps)
    | _, _ => none
end
structure BSys (base : Heap) : Prop where
  ok : ∃ o, base.get? sysModules = some o ∧ o.cls = .type "dict"
section
variable {X : Cx} {pins : List (Addr × Obj)} {σ : L2.St} {H : Hp} {s : Shared}
theorem sys_ne (B : BSys X.base) (I : Inv X pins σ H s) {a : Addr} {o : HO} (e : H a = some o) : a ≠ sysModules := fun z => by
  obtain ⟨o', h1, _⟩ := B.ok
  have := (I.bs _ _ h1).2
  rw [← z, e] at this
  cases this
theorem sys_neK (B : BSys X.base) {a : Addr} {o : Obj} (hk : X.K.lookup a = some o) (I : Inv X pins σ H s) (hc : o.cls = .type "list") : a ≠ sysModules := fun z => by
  obtain ⟨o', h1, h2⟩ := B.ok
  have h3 := I.kIn a o hk
  have h4 := I.bk _ _ h1
  rw [← z, h3] at h4
  have e := Option.some.inj h4
  rw [← e, hc] at h2
  exact absurd h2 (by decide)
section
variable [LT] {G : Hp} {al : Nat ⊕ Nat → Option Addr}
mutual
theorem VR.reads (B : BSys X.base) (I : Inv X pins σ H s) (hG : ∀ a o, G a = some o → H a = some o) : ∀ (d : D) (v : V) (u : Value) (p : PyData), VR X.cw G al v d → d.pyd = some p → RelV v u → ∃ as, Reads s.heap u p as ∧ sysModules ∉ as
  | .non, _, _, _, .non, e, r => by cases e; cases r; exact ⟨_, Reads.none, by simp⟩
  | .bl b, _, _, _, .bl _, e, r => by cases e; cases r; exact ⟨_, Reads.bool b, by simp⟩
  | .int i, _, _, _, .int _, e, r => by cases e; obtain ⟨t, rfl⟩ := r; exact ⟨_, Reads.int i t, by simp⟩
  | .str x, _, _, _, .str _, e, r => by cases e; obtain ⟨t, rfl⟩ := r; exact ⟨_, Reads.str x t, by simp⟩
  | .tup ds, _, _, _, .tup h rs, e, r => by
    unfold D.pyd at e
    cases q : D.pyds ds with
    | none => rw [q] at e; cases e
    | some ps =>
      rw [q] at e
      cases e
      cases r
      obtain ⟨its, rv, ⟨o, ho, hc, n, hd⟩, _⟩ := I.tuple (SqT.sub hG h.sq)
      obtain ⟨as, hr, hn⟩ := VRs.reads B I hG ds _ its ps rs q rv
      exact ⟨_, Reads.tuple ho hc hd hr, hn⟩
  | .lst ds, _, _, _, @VR.lst _ _ _ a _ _ h rs, e, r => by
    unfold D.pyd at e
    cases q : D.pyds ds with
    | none => rw [q] at e; cases e
    | some ps =>
      rw [q] at e
      cases e
      cases r
      have h' := SqL.sub hG h
      have ne : a ≠ sysModules := by
        rcases h' with (h2 | ⟨o, h2⟩) | ⟨o, its, n, hk, hc, _⟩
        · exact sys_ne B I h2
        · exact sys_ne B I h2
        · exact sys_neK B hk I hc
      obtain ⟨its, rv, ⟨o, n, ho, hc, _, hd⟩, _⟩ := I.list h'
      obtain ⟨as, hr, hn⟩ := VRs.reads B I hG ds _ its ps rs q rv
      exact ⟨_, Reads.list ho hc hd hr, fun z => (List.mem_cons.mp z).elim (fun w => ne w.symm) hn⟩
  | .dic ds, _, _, _, @VR.dic _ _ _ a _ _ h rs, e, r => by
    unfold D.pyd at e
    cases q : D.pydk ds with
    | none => rw [q] at e; cases e
    | some ps =>
      rw [q] at e
      cases e
      cases r
      obtain ⟨o, h2⟩ := SqD.sub hG h
      have ne : a ≠ sysModules := sys_ne B I h2
      obtain ⟨_, _, _, vs, rel, dd⟩ := I.hok a _ h2
      obtain ⟨ob, es, ep, h3, h4, h5, _, h6, _⟩ := dd
      obtain ⟨as, bs, hr1, hr2, hn1, hn2⟩ := VRk.reads B I hG ds _ vs es.toList ps rs q rel h6
      refine ⟨_, Reads.dict h3 h4.1 h5 hr1 hr2, fun z => ?_⟩
      rcases List.mem_append.mp z with z | z
      · exact (List.mem_cons.mp z).elim (fun w => ne w.symm) hn1
      · exact hn2 z
theorem VRs.reads (B : BSys X.base) (I : Inv X pins σ H s) (hG : ∀ a o, G a = some o → H a = some o) : ∀ (ds : List D) (vs : List V) (us : List Value) (ps : List PyData), VRs X.cw G al vs ds → D.pyds ds = some ps → Vals vs us → ∃ as, ReadsAll s.heap us ps as ∧ sysModules ∉ as
  | [], _, _, _, .nil, e, r => by cases e; cases r; exact ⟨_, ReadsAll.nil, by simp⟩
  | d :: ds, _, _, _, .cons h t, e, r => by
    unfold D.pyds at e
    cases q : D.pyd d with
    | none => rw [q] at e; cases e
    | some p =>
      cases q2 : D.pyds ds with
      | none => rw [q, q2] at e; cases e
      | some ps =>
        rw [q, q2] at e
        cases e
        cases r with
        | cons r1 r2 =>
          obtain ⟨as, a1, a2⟩ := VR.reads B I hG d _ _ p h q r1
          obtain ⟨bs, b1, b2⟩ := VRs.reads B I hG ds _ _ ps t q2 r2
          exact ⟨_, ReadsAll.cons a1 b1, fun z => (List.mem_append.mp z).elim a2 b2⟩
theorem VRk.reads (B : BSys X.base) (I : Inv X pins σ H s) (hG : ∀ a o, G a = some o → H a = some o) : ∀ (ds : List (Key × D)) (vs : List (Key × V)) (us : List (Key × Value)) (es : List DictEntry) (ps : List (PyData × PyData)), VRk X.cw G al vs ds → D.pydk ds = some ps → KV vs us → Pairs (mixKind X.prog X.w) es us →
    ∃ as bs, ReadsAll s.heap (es.map (·.key)) (ps.map (·.1)) as ∧ ReadsAll s.heap (es.map (·.val)) (ps.map (·.2)) bs ∧ sysModules ∉ as ∧ sysModules ∉ bs
  | [], _, _, _, _, .nil, e, r, pr => by cases e; cases r; cases pr; exact ⟨_, _, ReadsAll.nil, ReadsAll.nil, by simp, by simp⟩
  | (k, d) :: ds, _, _, _, _, .cons h t, e, r, pr => by
    unfold D.pydk at e
    cases q : D.pyd d with
    | none => rw [q] at e; cases e
    | some p =>
      cases q2 : D.pydk ds with
      | none => rw [q, q2] at e; cases e
      | some ps =>
        rw [q, q2] at e
        cases e
        cases r with
        | cons r1 r2 =>
          cases pr with
          | @cons e0 _ _ _ p1 p2 p3 =>
            obtain ⟨as, bs, c1, c2, c3, c4⟩ := VRk.reads B I hG ds _ _ _ ps t q2 r2 p3
            obtain ⟨e1, e2⟩ := r1
            obtain ⟨cs, a1, a2⟩ := VR.reads B I hG d _ _ p h q e2
            have hkey : ∃ es', Reads s.heap e0.key (keyP k) es' ∧ sysModules ∉ es' := by
              have hk : keyIs k e0.key = true := by
                have := p1
                rw [← e1] at this
                exact this
              rcases keyIs_shape hk with ⟨i, tt, rfl, h2⟩ | ⟨x, tt, rfl, h2⟩
              · rw [h2]; exact ⟨_, Reads.int i tt, by simp⟩
              · rw [h2]; exact ⟨_, Reads.str x tt, by simp⟩
            obtain ⟨es', k1, k2⟩ := hkey
            refine ⟨_, _, ReadsAll.cons k1 c1, ReadsAll.cons (by show Reads s.heap e0.val p cs; rw [p2]; exact a1) c2, fun z => (List.mem_append.mp z).elim k2 c3, fun z => (List.mem_append.mp z).elim a2 c4⟩
end
end
end
variable [FrI]
def reprD : List D → M D
  | [d] => match d with
    | .tup _ | .lst _ | .dic _ => match d.pyd with
      | some p => if p.showable = true ∧ p.depth ≤ 60 ∧ p.shown.length ≤ sizeLine then M.pure (.str p.shown) else stuck
      | none => stuck
    | _ => stuck
  | _ => stuck
def rReprD (C : Cw) : List V → Hp → VK → Prop := fun xs H Q => ∃ (a : Addr) (d : D) (p : PyData) (G : Hp) (al : Nat ⊕ Nat → Option Addr), xs = [.ref a] ∧ (∀ b o, G b = some o → H b = some o) ∧ VR C G al (.ref a) d ∧ d.pyd = some p ∧ p.showable = true ∧ p.depth ≤ 60 ∧ p.shown.length ≤ sizeLine ∧ Q (.str p.shown) H
theorem call_reprD [LT] {X : Cx} (B : BSys X.base) (hg : X.A.guards = some []) (hu : X.A.units + 65 < cLine) : CallR X (.builtin "repr") (rReprD X.cw) := by
  intro pins s σ H xs us Q I r h
  obtain ⟨a, d, p, G, al, rfl, hG, hv, hp, h1, h3, h4, q⟩ := h
  obtain ⟨u, rfl, rx⟩ := vals1 r
  obtain ⟨as, rd, hn⟩ := VR.reads B I hG d _ u p hv hp rx
  cases rx
  exact PySem.repr_of_reads' rd h1 (fun _ => hn) hg (by omega) (fun _ _ e => e) (fun h' u tk k => ⟨.str p.shown, H, I.kept k, ⟨u, rfl⟩, q⟩) h4
theorem h_reprD {C : Cw} {W : WX} : HopN C W reprD (rReprD C) := by
  intro k s σ H xs ds Q R r p
  cases r with
  | nil => exact p.elim
  | cons r1 t =>
    cases t with
    | cons _ _ => exact p.elim
    | nil =>
      have fin : ∀ {a : Addr} {d : D}, VR C k.G k.al (.ref a) d → PostE C W k σ ((match d.pyd with
          | some p => if p.showable = true ∧ p.depth ≤ 60 ∧ p.shown.length ≤ sizeLine then M.pure (.str p.shown) else stuck
          | none => stuck : M D) s) Q → rReprD C [.ref a] H Q := fun {a d} r1 p => by
        cases q : d.pyd with
        | none => simp only [q] at p; exact p.elim
        | some pd =>
          simp only [q] at p
          by_cases c : pd.showable = true ∧ pd.depth ≤ 60 ∧ pd.shown.length ≤ sizeLine
          · rw [if_pos c] at p
            exact ⟨a, d, pd, k.G, k.al, rfl, R.G, r1, q, c.1, c.2.1, c.2.2, PostE.ret p R (.str _)⟩
          · rw [if_neg c] at p
            exact p.elim
      cases r1 with
      | tup h1 r1 => exact fin (.tup h1 r1) p
      | lst h1 r1 => exact fin (.lst h1 r1) p
      | dic h1 r1 => exact fin (.dic h1 r1) p
      | _ => exact p.elim
end DL
namespace DL
open PySem PySem.Spec PyProof.Rows L2
section
open AutoSeq1 (wpAny_loadPart')
open PySem.SeqAt
theorem dict_eq_no (l : Addr) (es : Array DictEntry) (ep : Nat) (dd : Option Addr) (sl : Array (Option Value)) (b : Str) (u : Tok) :
    Meets (Builtin.«dict.__eq__» ⟨[.ref l, .str b u], []⟩) (fun _ R s => s.heap.get? l = some { cls := .type "dict", dict := dd, data := .dict es ep, slots := sl } ∧ R (.ok (.ret .notImplemented)) s) :=
  .of_wp fun prog w A R s h => by
    obtain ⟨hp, g, d, tk, os⟩ := s
    obtain ⟨hl, h⟩ := h
    have f1 := F.sub_str_dict
    wp_walk using wpAny_loadPart' hl
    exact ⟨_, rfl, h⟩
theorem str_eq_no (b : Str) (u : Tok) (l : Addr) (es : Array DictEntry) (ep : Nat) (dd : Option Addr) (sl : Array (Option Value)) :
    Meets (Builtin.«str.__eq__» ⟨[.str b u, .ref l], []⟩) (fun _ R s => s.heap.get? l = some { cls := .type "dict", dict := dd, data := .dict es ep, slots := sl } ∧ R (.ok (.ret .notImplemented)) s) :=
  .of_wp fun prog w A R s h => by
    obtain ⟨hp, g, d, tk, os⟩ := s
    obtain ⟨hl, h⟩ := h
    wp_walk using wpAny_loadPart' hl
    exact ⟨_, rfl, h⟩
theorem eqAt_dict {A : Around} {s : Shared} {l : Addr} {o : Obj} {es : Array DictEntry} {ep : Nat} (b : Str) (u : Tok) (ho : s.heap.get? l = some o) (hc : o.cls = .type "dict") (hd : o.data = .dict es ep) (hu : A.units < cLine) : EqAt A s (.ref l) (.str b u) false := fun prog w E Q h => by
  unfold eqBool
  refine wpAny_holding ?_
  refine wpAny_ite_split (fun hab => absurd (eq_of_beq hab) nofun) (fun _ => ?_)
  obtain ⟨cls, dd, data, sl⟩ := o
  simp only at hc hd
  subst hc hd
  exact wpAny_bind (rc_eq_decline_or (k := false) ⟨_, ho, rfl⟩ (typeIs_str s b u) (by decide) F.sub_str_dict F.slot_dict_eq F.slot_str_eq_refl
    (fun _ hq => call_meets F.slot_dict_eq ⟨_, ho, rfl⟩ F.entry_dict_eq (F.args_dict_eq_2 _ _) (dict_eq_no l es ep dd sl b u) ⟨ho, hq⟩)
    (fun _ hq => call_meets F.slot_str_eq_refl (typeIs_str s b u) F.entry_str_eq (F.args_str_eq_2 _ _) (str_eq_no b u l es ep dd sl) ⟨ho, hq⟩)
    (fun _ hq => wpAny_of_eq (rfl : isSame (.ref l) (.str b u) = pure false) hq) (.inr hu) (wpAny_truthy_bool h))
end
section
variable [FrI]
theorem plain_is {h : Heap} {a : Addr} {its : Array Value} (p : PlainL h a its) : h.IsList a its := by
  obtain ⟨o, n, e, hc, _, hd⟩ := p
  exact ⟨o, e, hc, n, hd⟩
def SEq (K : PySem.W.Frag) (H : Hp) (v : V) : Prop := v = .non ∨ (∃ b, v = .bl b) ∨ (∃ i, v = .int i) ∨ (∃ x, v = .str x) ∨ ∃ a, v = .ref a ∧ ((∃ xs, SqT K H a xs) ∨ (∃ xs, SqL K H a xs) ∨ ∃ kvs, SqD H a kvs)
def vIs (x : Str) : V → Bool
  | .str y => y == x
  | _ => false
def uIs (x : Str) : Value → Bool
  | .str y _ => y == x
  | _ => false
theorem SqD.cls {X : Cx} [LT] {pins : List (Addr × Obj)} {σ : L2.St} {H : Hp} {s : Shared} {a : Addr} {kvs : List (Key × V)} (I : Inv X pins σ H s) (h : SqD H a kvs) : ∃ o es ep, s.heap.get? a = some o ∧ o.cls = .type "dict" ∧ o.data = .dict es ep := by
  obtain ⟨_, vs, _, o, es, ep, e, ⟨hc, _⟩, hd, _⟩ := dk_sq I h.rd
  exact ⟨o, es, ep, e, hc, hd⟩
theorem SEq.at [LT] {X : Cx} {pins : List (Addr × Obj)} {σ : L2.St} {H : Hp} {s : Shared} {v : V} {u : Value} (I : Inv X pins σ H s) {A : Around} (hu : A.units < cLine) (h : SEq X.K H v) (r : RelV v u) (x : Str) (t : Tok) : SeqAt.EqAt A s u (.str x t) (uIs x u) ∧ uIs x u = vIs x v := by
  rcases h with rfl | ⟨b, rfl⟩ | ⟨i, rfl⟩ | ⟨y, rfl⟩ | ⟨a, rfl, h⟩
  · cases r
    exact ⟨SeqAt.EqAt.none_str x t, rfl⟩
  · cases r
    exact ⟨SeqAt.EqAt.bool_str b x t, rfl⟩
  · obtain ⟨t', rfl⟩ := r
    exact ⟨SeqAt.EqAt.int_str i t' x t, rfl⟩
  · obtain ⟨t', rfl⟩ := r
    exact ⟨SeqAt.EqAt.str_str y t' x t, rfl⟩
  · cases r
    refine ⟨?_, rfl⟩
    rcases h with ⟨xs, h⟩ | ⟨xs, h⟩ | ⟨kvs, h⟩
    · obtain ⟨its, r1, p1, _⟩ := I.tuple h
      exact SeqAt.EqAt.tuple_str x t p1 hu
    · obtain ⟨its, r1, p1, _⟩ := I.list h
      exact SeqAt.EqAt.list_str x t (plain_is p1) hu
    · obtain ⟨o, es, ep, e, hc, hd⟩ := h.cls I
      exact eqAt_dict x t e hc hd hu
def kOk : D → Bool
  | .non => true
  | .bl _ => true
  | .int _ => true
  | .str _ => true
  | .tup _ => true
  | .lst _ => true
  | .dic _ => true
  | _ => false
def isS (x : Str) : D → Bool
  | .str y => y == x
  | _ => false
theorem VR.seq {C : Cw} {k : Kp} {s : S} {σ : L2.St} {H : Hp} {v : V} {d : D} (R : Rep C k s σ H) (h : VR C k.G k.al v d) (hk : kOk d = true) : SEq C.K H v := by
  cases h with
  | non => exact .inl rfl
  | bl b => exact .inr (.inl ⟨b, rfl⟩)
  | int i => exact .inr (.inr (.inl ⟨i, rfl⟩))
  | str x => exact .inr (.inr (.inr (.inl ⟨x, rfl⟩)))
  | tup h1 _ => exact .inr (.inr (.inr (.inr ⟨_, rfl, .inl ⟨_, SqT.sub R.G h1.sq⟩⟩)))
  | lst h1 _ => exact .inr (.inr (.inr (.inr ⟨_, rfl, .inr (.inl ⟨_, SqL.sub R.G h1⟩)⟩)))
  | dic h1 _ =>
    obtain ⟨o, e⟩ := h1
    exact .inr (.inr (.inr (.inr ⟨_, rfl, .inr (.inr ⟨_, o, R.G _ _ e⟩)⟩)))
  | _ => cases hk
theorem vIs_is {C : Cw} {G : Hp} {al : Nat ⊕ Nat → Option Addr} {v : V} {d : D} (h : VR C G al v d) (hk : kOk d = true) (x : Str) : vIs x v = isS x d := by
  cases h <;> first | rfl | cases hk
theorem VRs.seq {C : Cw} {k : Kp} {s : S} {σ : L2.St} {H : Hp} (R : Rep C k s σ H) (x : Str) : ∀ {vs : List V} {ds : List D}, VRs C k.G k.al vs ds → ds.all kOk = true → (∀ v ∈ vs, SEq C.K H v) ∧ vs.any (vIs x) = ds.any (isS x)
  | _, _, .nil, _ => ⟨fun v h => (by cases h), rfl⟩
  | _, _, .cons h t, hk => by
    rw [List.all_cons, Bool.and_eq_true] at hk
    obtain ⟨h1, h2⟩ := VRs.seq R x t hk.2
    refine ⟨fun v hv => ?_, by rw [List.any_cons, List.any_cons, h2, vIs_is h hk.1]⟩
    rcases List.mem_cons.mp hv with rfl | hv
    · exact h.seq R hk.1
    · exact h1 v hv
end
end DL
namespace DL
open PySem PySem.Spec PyProof.Rows L2
abbrev ito (t : Addr) : Obj := { cls := .type "tuple_iterator", data := .fields #[.ref t, .int 0 0] }
abbrev eno (it : Addr) : Obj := { cls := .type "enumerate", data := .fields #[.none, .bool false, .ref it, rawInt 0, .none, .none] }
section
open AutoSeq1 (wpAny_loadPart')
theorem enum_newT (l : Addr) (items : Array Value) (n : Nat) (dct : Option Addr) (sl : Array (Option Value)) :
    Meets (Builtin.«enumerate.__new__» ⟨[.type "enumerate", .ref l], []⟩) (fun _ R s => s.heap.get? l = some { cls := .type "tuple", dict := dct, data := .seq items n, slots := sl } ∧
      R (.ok (.ret (.ref (s.heap.push (ito l)).objs.size))) { s with heap := (s.heap.push (ito l)).push (eno s.heap.objs.size) }) :=
  .of_wp fun prog w A R s h => by
    obtain ⟨hp, g, d, tk, os⟩ := s
    obtain ⟨hl, h⟩ := h
    have hsub := sub_enumerate
    have hL : Heap.IsTuple (Shared.heap ⟨hp, g, d, tk, os⟩) l items := ⟨_, hl, rfl, n, rfl⟩
    wp_walk using wpAny_loadPart' hl
    refine wpAny_stack_any fun st => wpAny_pure ?_
    split
    · rename_i c _ _ _ _ _
      cases (c == Value.type "enumerate")
      · wp_walk using wpAny_loadPart' hl, wpAny_pyIter_tuple hL
        exact ⟨_, rfl, h⟩
      · wp_walk using wpAny_loadPart' hl, wpAny_pyIter_tuple hL
        exact ⟨_, rfl, h⟩
    · wp_walk using wpAny_loadPart' hl, wpAny_pyIter_tuple hL
      exact ⟨_, rfl, h⟩
end
section
variable {prog : Program} {w : World} {A : Around} {E : Value → Shared → Prop} {s : Shared}
theorem call_enum_tup {l : Addr} {items : Array Value} {Q : Value → Shared → Prop} (hL : s.heap.IsTuple l items)
    (h : ∀ h', IsEnum h' (s.heap.objs.size + 1) s.heap.objs.size 0 .none → h'.IsTupleIter s.heap.objs.size l 0 →
      (∀ b o, s.heap.get? b = some o → h'.get? b = some o) → Q (.ref (s.heap.objs.size + 1)) { s with heap := h' }) :
    wpAny (model prog w) A (call (.type "enumerate") [.ref l]) Q E s := by
  obtain ⟨⟨c, dct, dt, sl⟩, hl, hc, n, hd⟩ := hL
  have hc' : c = .type "tuple" := hc
  have hd' : dt = .seq items n := hd
  subst hc' hd'
  refine callType_new F.called_enumerate (by decide) (F.typeCall_enumerate_1 _) (F.newCall_enumerate_1 _) (fun obj => F.args_object_init_2 obj _) F.entry_enumerate_new (enum_newT l items n dct sl) ⟨hl, ?_⟩
  have hz : (s.heap.push (ito l)).objs.size = s.heap.objs.size + 1 := Heap.size_push ..
  show _ ∧ _
  rw [hz]
  have he : IsEnum ((s.heap.push (ito l)).push (eno s.heap.objs.size)) (s.heap.objs.size + 1) s.heap.objs.size 0 .none := by
    have z := Heap.get?_push_size (s.heap.push (ito l)) (o := eno s.heap.objs.size) rfl
    rw [hz] at z
    exact z
  exact ⟨⟨_, he, rfl⟩, h _ he ⟨_, Heap.get?_push_of_some _ (Heap.get?_push_size _ rfl), rfl, rfl⟩ fun b o x => Heap.get?_push_of_some _ (Heap.get?_push_of_some _ x)⟩
end
def Iet (K : PySem.W.Frag) (a : Addr) : It :=
  ⟨fun i H => ∃ (xs : List V) (x : V), SqT K H a xs ∧ xs[i]? = some x, fun i H v H' => ∃ T x, v = .ref T ∧ H T = none ∧ H' = upd H T (.tup [.int (i : Nat), x]) ∧ ∀ xs, SqT K H a xs → xs[i]? = some x, fun i H => ∃ xs : List V, SqT K H a xs ∧ xs.length = i⟩
theorem turn_enumT {P : Program} {w : World} {K : PySem.W.Frag} {elts : List Expr} {kk : Nat} {tpos : Pos} (a e it : Addr) :
    Turn P w K (.Tuple elts kk tpos) (Iet K a) [e, it] e (fun i h => (∃ old, IsEnum h e it ((i : Nat) : Int) old) ∧ h.IsTupleIter it a i ∧ e ≠ it) where
  mem := by simp
  obj := fun i h st b hb => by
    obtain ⟨⟨old, he⟩, ⟨o, ho, hc, hd⟩, _⟩ := st
    have e' : b = e ∨ b = it := by simpa using hb
    rcases e' with z | z
    · rw [z]; exact ⟨_, he, fun v q => nomatch q⟩
    · rw [z]; exact ⟨o, ho, fun v q => by rw [hd] at q; cases q⟩
  keep := fun i h h' st k => let ⟨⟨old, he⟩, hi, hne⟩ := st; ⟨⟨old, k e (by simp) _ he⟩, hi.at fun o q => k it (by simp) o q, hne⟩
  item := by
    intro X hP hw hK hc i pins s σ H E I hf st hg
    subst hP hw hK
    obtain ⟨⟨old, he⟩, hit, hne⟩ := st
    obtain ⟨xs, x, hq, hx⟩ := hg
    obtain ⟨its, rv, p, hz⟩ := I.tuple hq
    obtain ⟨u, hu, ru⟩ := rv.get hx
    have hel : e < s.heap.objs.size := Heap.lt_size he
    have hil : it < s.heap.objs.size := by obtain ⟨_, q, _⟩ := hit; exact Heap.lt_size q
    have p' : s.heap.IsTuple a its.toArray := p
    have nea : e ≠ a := fun z => by
      obtain ⟨o, h1, h2, _⟩ := p'
      rw [← z, he] at h1
      cases h1
      have z2 : Value.type "enumerate" = Value.type "tuple" := h2
      injection z2 with z3
      exact absurd z3 (by decide)
    have nia : a ≠ it := fun z => by
      obtain ⟨o, h1, h2, _⟩ := p'
      obtain ⟨o', h3, h4, _⟩ := hit
      rw [z, h3] at h1
      cases h1
      rw [h2] at h4
      injection h4 with z3
      exact absurd z3 (by decide)
    have D := Draws.tuple (prog := X.prog) (w := X.w) (A := X.A.in1) (I.ok.hd hc) it a nia its.toArray
    have hlt : i < its.toArray.size := by
      rcases Nat.lt_or_ge i its.length with z | z
      · simpa using z
      · rw [List.getElem?_eq_none z] at hu; cases hu
    refine wpAny_pyNext_enum_itemD D he ⟨hit, p'⟩ hlt hne (by simp [hne, nea]) fun y h' tk hP ho hit' hT hsz hk => ?_
    have hy : y = u := by
      have z : its.toArray[i]? = some y := hP
      have z2 : its.toArray[i]? = its[i]? := by simp
      rw [z2, hu] at z
      exact (Option.some.inj z).symm
    subst hy
    refine ⟨_, rfl, wpAny_letOwnedTupleGo_enum (s := { s with heap := h', toks := tk + 1 }) ho fun h'' he' sb => ?_⟩
    have hT2 : h''.get? s.heap.objs.size = some { cls := .type "tuple", data := .seq #[.int i tk, y] } := (sb.2 _ (Nat.ne_of_gt hel)).trans hT
    have new : ObjOk X.prog X.w (upd H s.heap.objs.size (.tup [.int (i : Nat), x])) h'' s.heap.objs.size (.tup [.int (i : Nat), x]) :=
      ⟨by show 2 ≤ sizeLine; decide, [.int i tk, y], .cons ⟨_, rfl⟩ (.cons ru .nil), ⟨_, hT2, rfl, _, rfl⟩⟩
    have I1 : Inv X pins σ (upd H s.heap.objs.size (.tup [.int (i : Nat), x])) { s with heap := h'', toks := tk + 1 } :=
      I.turnedNew (ch := [e, it]) (fun b ob hb q => (sb.2 b (fun z => hb (by simp [z]))).trans (hk b ob (fun z => hb (by simp [z])) (fun z => hb (by simp [z])) q)) hf (Nat.le_refl _) new
    refine ⟨.ref s.heap.objs.size, _, I1, rfl, ⟨_, x, rfl, I.hok.fresh (Nat.le_refl _), rfl, fun ys hy => by rw [I.tuple_inj hy hq]; exact hx⟩, ⟨⟨y, ?_⟩, hit'.1.at fun o q => (sb.2 it (Ne.symm hne)).trans q, hne⟩, fun b hb => ?_⟩
    · have e1 : ((i + 1 : Nat) : Int) = (i : Int) + 1 := by omega
      rw [e1]; exact he'
    · have hb' : b < s.heap.objs.size := by
        have e' : b = e ∨ b = it := by simpa using hb
        rcases e' with z | z
        · rw [z]; exact hel
        · rw [z]; exact hil
      rw [upd_ne (Nat.ne_of_lt hb')]
      exact (hf b hb).1
  done := by
    intro X hP hw hK hc i pins s σ H E I hf st hg
    subst hP hw hK
    obtain ⟨⟨old, he⟩, hit, hne⟩ := st
    obtain ⟨xs, hq, hx⟩ := hg
    obtain ⟨its, rv, p, hz⟩ := I.tuple hq
    obtain ⟨f0, f1, f2, f3, f4, f5⟩ := hf it (by simp)
    have p' : s.heap.IsTuple a its.toArray := p
    have nia : a ≠ it := fun z => by
      obtain ⟨o, h1, h2, _⟩ := p'
      obtain ⟨o', h3, h4, _⟩ := hit
      rw [z, h3] at h1
      cases h1
      rw [h2] at h4
      injection h4 with z3
      exact absurd z3 (by decide)
    have hl : its.toArray.size = i := by
      have := rv.length
      simp
      omega
    have D := Draws.tuple (prog := X.prog) (w := X.w) (A := X.A.in1) (I.ok.hd hc) it a nia its.toArray
    exact wpAny_pyNext_enum_endD D he ⟨by rw [hl]; exact hit, p'⟩ fun h' eb => ⟨rfl, I.turned (t' := s.toks) (fun b o hb q => eb b o hb q) f0 f1 f3 f4 f5⟩
  self := fun A i s Q E st h => let ⟨⟨_, he⟩, _⟩ := st; wpAny_pyIter_enum he h
def iEnX (K : PySem.W.Frag) (ta : TA) : TI := fun σ H R => ta σ H fun vs H1 => ∃ a xs, vs = [.ref a] ∧ ((SqL K H1 a xs ∧ R (Ite K a) H1) ∨ (SqT K H1 a xs ∧ R (Iet K a) H1))
theorem pi_enumX {X : Cx} {e : Expr} {ta : TA} {p pos tpos : Pos} {elts : List Expr} {kk : Nat} (hg : Gl X "enumerate") (hm : X.mg "enumerate" = none) (ha : PA X [e] ta) (hs : starEach [e] X.env = [(false, eval e X.env)] := by rfl) :
    PI X (.Tuple elts kk tpos) (.Call (.Name "enumerate" p) [e] [] pos) (iEnX X.K ta) := by
  refine ⟨fun pins s σ H R I h => ?_⟩
  refine Call_ (ld_blt I hg hm boot_enumerate (PyProof.Rows.callWith_type1 (thn (ha.run pos pins s σ H _ I h) fun us s1 ⟨vs, H1, I1, r1, q1⟩ => ?_) hs rfl))
  obtain ⟨a, xs, ex, hq⟩ := q1
  subst ex
  cases r1 with
  | cons r rr =>
    cases rr
    cases r
    have fpo : ∀ b ∈ [s1.heap.objs.size + 1, s1.heap.objs.size], s1.heap.objs.size ≤ b := fun b hb => by
      have e' : b = s1.heap.objs.size + 1 ∨ b = s1.heap.objs.size := by simpa using hb
      omega
    rcases hq with ⟨hq, q⟩ | ⟨hq, q⟩
    · obtain ⟨its, rv, p', hz⟩ := I1.list hq
      refine call_enumerate_list p'.isList fun h' he hit hsz hk => wpAny_pyIter_enum he ?_
      have I2 : Inv X pins σ H1 { s1 with heap := h' } := I1.kept (t' := s1.toks) hk
      exact ⟨s1.heap.objs.size + 1, [s1.heap.objs.size + 1, s1.heap.objs.size], _, _, H1, rfl, I2, turn_enum a (s1.heap.objs.size + 1) s1.heap.objs.size, ⟨⟨.none, he⟩, hit, Nat.succ_ne_self _⟩, fun b hb => I1.fpOk (fpo b hb) (I1.hok.fresh (fpo b hb)), q⟩
    · obtain ⟨its, rv, p', hz⟩ := I1.tuple hq
      refine call_enum_tup (items := its.toArray) p' fun h' he hit hk => wpAny_pyIter_enum he ?_
      have I2 : Inv X pins σ H1 { s1 with heap := h' } := I1.kept (t' := s1.toks) hk
      exact ⟨s1.heap.objs.size + 1, [s1.heap.objs.size + 1, s1.heap.objs.size], _, _, H1, rfl, I2, turn_enumT a (s1.heap.objs.size + 1) s1.heap.objs.size, ⟨⟨.none, he⟩, hit, Nat.succ_ne_self _⟩, fun b hb => I1.fpOk (fpo b hb) (I1.hok.fresh (fpo b hb)), q⟩
section
variable [FrI]
theorem src_enumT {C : Cw} {k : Kp} {a : Addr} {xs : List V} {ds : List D} (h : SqT C.K k.G a xs) (r : VRs C k.G k.al xs ds) : Src C (Iet C.K a) k (enumF 0 ds) := by
  refine ⟨fun k' s σ H i l R hi => ?_, fun k' s σ H l R => ?_, fun k' s σ H i x H' l R hi y => ?_⟩
  · rw [enumF_len, ← r.len] at hi
    exact ⟨xs, xs[i], SqT.sub R.G (SqT.sub l.G h), by rw [List.getElem?_eq_getElem]⟩
  · rw [enumF_len, ← r.len]
    exact ⟨xs, SqT.sub R.G (SqT.sub l.G h), rfl⟩
  · obtain ⟨T, x0, rfl, hT, rfl, hx⟩ := y
    have hx0 := hx xs (SqT.sub R.G (SqT.sub l.G h))
    obtain ⟨d, e, rv⟩ := r.at hx0
    obtain ⟨R', l'⟩ := R.alloc hT (.tup [.int (i : Nat), x0])
    refine ⟨_, .tmp [.int (i : Nat), d], l', R', by rw [enumF_at, e]; simp, .tmp (.inl (.inl upd_same)) (.cons (.int _) (.cons ?_ .nil))⟩
    exact (rv.mono l.G l.al).mono l'.G l'.al
def mEnumX (m : M D) : M (List D) := do
  let x ← m
  match seqO x with
  | some ds => M.pure (enumF 0 ds)
  | none => stuck
theorem di_enumX [LT] {X : Cx} {W : WX} {e : Expr} {m : M D} {elts : List Expr} {kk : Nat} {p pos tpos : Pos} (hm : X.mg "enumerate" = none) (h : DE X W e m) (hg : Gl X "enumerate" := by rfl) (hs : starEach [e] X.env = [(false, eval e X.env)] := by rfl) : DI X W (.Tuple elts kk tpos) (.Call (.Name "enumerate" p) [e] [] pos) (mEnumX m) :=
  PI_mono (pi_enumX hg hm (pa_cons h pa_nil hs) hs) fun σ H R h => by
    obtain ⟨k, s, Rp, pp⟩ := h
    refine tD_bind Rp pp fun d s1 k1 H1 v l1 R1 r1 p1 => ?_
    cases r1 with
    | @lst a xs ds h1 rs => exact ⟨a, xs, rfl, .inl ⟨SqL.sub R1.G h1, Post.at (s := s1) (a := enumF 0 ds) p1 R1 _ (src_enum h1 rs)⟩⟩
    | @tup a xs ds h1 rs => exact ⟨a, xs, rfl, .inr ⟨SqT.sub R1.G h1.sq, Post.at (s := s1) (a := enumF 0 ds) p1 R1 _ (src_enumT h1.sq rs)⟩⟩
    | _ => exact p1.elim
end
end DL
namespace DL
open PySem PySem.Spec PyProof.Rows L2
variable [FrI]
section
variable {C : Cw} {W : WX}
end
end DL
namespace DL
open PySem PySem.Spec PyProof.Rows L2
variable [FrI]
section
variable {C : Cw} {W : WX}
def reprE : List D → M D
  | [.non] => M.pure (.str "None")
  | [.int i] => if i.natAbs.log2 < 1920 then M.pure (.str (toString i)) else stuck
  | ds => reprD ds
def rRepr0 : List V → Hp → VK → Prop := fun xs H Q => xs = [.non] ∧ Q (.str "None") H
theorem call_repr_non {X : Cx} : CallR X (.builtin "repr") rRepr0 := by
  intro pins s σ H xs us Q I r h
  obtain ⟨rfl, q⟩ := h
  obtain ⟨u, rfl, rx⟩ := vals1 r
  cases rx
  exact PySem.P.repr_of_none ⟨.str _, H, I.tok _, ⟨_, rfl⟩, q⟩
def rReprE (C : Cw) : List V → Hp → VK → Prop := fun xs H Q => rRepr0 xs H Q ∨ (∃ i, xs = [.int i] ∧ i.natAbs.log2 < 1920 ∧ Q (.str (toString i)) H) ∨ rReprD C xs H Q
theorem call_reprE [LT] {X : Cx} (B : BSys X.base) (hg : X.A.guards = some []) (hu : X.A.units + 65 < cLine) : CallR X (.builtin "repr") (rReprE X.cw) :=
  call_repr_non.or (SkE.call_repr_int.or (call_reprD B hg hu))
theorem h_reprE : HopN C W reprE (rReprE C) := by
  intro k s σ H xs ds Q R r p
  cases r with
  | nil => exact .inr (.inr (h_reprD k s σ H _ _ Q R .nil p))
  | cons r1 t =>
    cases t with
    | cons r2 t => exact .inr (.inr (h_reprD k s σ H _ _ Q R (.cons r1 (.cons r2 t)) (by cases r1 <;> exact p)))
    | nil =>
      cases r1 with
      | non => exact .inl ⟨rfl, PostE.ret p R (.str _)⟩
      | int i =>
        unfold reprE at p
        by_cases c : i.natAbs.log2 < 1920
        · simp only [c, if_pos] at p
          exact .inr (.inl ⟨i, rfl, c, PostE.ret p R (.str _)⟩)
        · simp only [c] at p
          exact p.elim
      | tup h1 r1 => exact .inr (.inr (h_reprD k s σ H _ _ Q R (.cons (.tup h1 r1) .nil) p))
      | lst h1 r1 => exact .inr (.inr (h_reprD k s σ H _ _ Q R (.cons (.lst h1 r1) .nil) p))
      | dic h1 r1 => exact .inr (.inr (h_reprD k s σ H _ _ Q R (.cons (.dic h1 r1) .nil) p))
      | _ => exact p.elim
theorem de_reprE [LT] {X : Cx} {W : WX} {n : Nat} {pos p : Pos} {e : Expr} {ms : M (List D)} (B : BSys X.base) (hr : RoomG n X.A) (hm : X.mg "repr" = none) (ha : DA X W [e] ms) (hg : Gl X "repr" := by rfl) (he : starEach [e] X.env = (false, eval e X.env) :: starEach [] X.env := by rfl) : DE X W (.Call (.Name "repr" p) [e] [] pos) (mApp reprE ms) := de_callB (call_reprE B hr.gd (hu_65 hr)) h_reprE hm (by kernel_rfl) ha hg (he := he)
end
end DL
namespace DL
open PySem PySem.Spec PyProof.Rows L2
section
variable {X : Cx}
end
section
variable [FrI] [LT] {X : Cx} {W : WX} {pos p : Pos} {x y z : Str} {a b c : Expr} {ma mb : M D} {mc : M DO2}
end
namespace CS
section
variable {P : Program} {w : World} {a : Addr}
end
end CS
section
variable {X : Cx}
end
section
variable [FrI] [LT] {X : Cx} {W : WX} {pos p p2 q : Pos} {a : Expr} {m : M D}
end
end DL
namespace DL
open PySem PySem.Spec PyProof.Rows L2
variable [FrI]
section
variable [LT] {X : Cx} {W : WX} {pos p : Pos} {y : Str} {a : Expr} {ma : M D} {f : D → D → M D} {r : R2}
end
section
variable [LT] {X : Cx} {W : WX} {pos p : Pos} {y x : Str} {elt tg : Expr} {ifs : List Expr} {scope : Scope} {f : D → M Unit} {t : M Bool} {e : M D}
end
end DL
namespace DL
open PySem PySem.Spec PyProof.Rows L2
namespace MinD
section
variable {prog : Program} {w : World} {A : Around} {R : Result → Shared → Prop} {I : Addr} {fp wr : List Addr} {n : Nat} {P : Nat → Value → Prop} {St : Nat → Heap → Prop} {dv : Value}
abbrev lc (I S : Addr) (dv : Value) : Code := .builtin "min.loop" ⟨[.ref I, .none, .ref S], [("default", dv)]⟩
abbrev lo (its : Array Value) (c : Nat) : Obj := { cls := .type "list", dict := none, data := .seq its c, slots := #[] }
theorem nm : (toString "min" ++ toString ".loop" : String) = "min.loop" := by decide
theorem loop (W : Walks prog w A.in1 I fp wr n P St) (bt : Nat → Nat → Bool) (hcmp : CmpOf prog w A.in1 .Lt P bt) (S : Addr) (hSf : S ∉ fp) (k : Nat) :
    ∀ (j : Nat) (s : Shared) (vb : Value) (c : Nat), n - (j + 1) = k → j + 1 ≤ n → St (j + 1) s.heap → P (argBest bt j) vb → s.heap.get? S = some (lo #[vb, vb] c) →
    (∀ v h' tk, P (argBest bt (n - 1)) v → (∀ b o, b ∉ wr → b ≠ S → s.heap.get? b = some o → h'.get? b = some o) → R (.ok (.ret v)) { s with heap := h', toks := tk }) → codeAny (model prog w) A (lc I S dv) R s := by
  have nw : S ∉ wr := fun z => hSf (W.sub _ z)
  induction k with
  | zero =>
    intro j s vb c hk hj hst hPb hS hR
    have hin : j + 1 = n := by omega
    refine codeAny_builtin F.entry_min_loop ?_
    rw [Around.under_plainId F.plain_min_loop _]
    refine wpAny_bind (m := seqItems? (.ref S)) (wpAny_seqItems hS rfl ?_)
    refine wpAny_bind (wpAny_tryCatch (W.done s _ _ (hin ▸ hst) fun h' tk kp => ?_)); have hS' := kp S _ nw hS
    refine wpAny_bind (m := updateSeq S (fun _ => #[])) (wpAny_updateSeq hS' rfl ?_)
    refine wpAny_bind (wpAny_letGo (wpAny_pure (hR vb _ tk (by rw [← hin]; exact hPb) fun b o hbw hbS e => ?_)))
    exact (Heap.get?_update_other _ _ (fun z => hbS z.symm)).trans (kp b o hbw e)
  | succ k ih =>
    intro j s vb c hk hj hst hPb hS hR
    have hlt : j + 1 < n := by omega
    refine codeAny_builtin F.entry_min_loop ?_
    rw [Around.under_plainId F.plain_min_loop _]
    refine wpAny_bind (m := seqItems? (.ref S)) (wpAny_seqItems hS rfl ?_)
    refine wpAny_bind (wpAny_tryCatch (W.item (j + 1) s _ _ hlt hst fun v h' tk hP hst' kp => wpAny_bind (m := pure v) (wpAny_pure ?_))); have hS' := kp S _ nw hS; show wpAny _ A.in1 (tryCatch (holding [v, v] (richCompare .Lt v vb >>= _)) _ >>= _) _ _ _
    refine wpAny_bind (wpAny_tryCatch (wpAny_holding (wpAny_bind (hcmp (j + 1) (argBest bt j) v vb _ _ _ hP hPb (wpAny_bind (wpAny_holding (wpAny_truthy_bool (wpAny_bind (wpAny_letGo (wpAny_pure ?_))))))))))
    have old : ∀ (f : Array Value → Array Value) (b : Addr) (o : Obj), b ≠ S → h'.get? b = some o → (h'.update S (Obj.mapSeq f)).get? b = some o := fun f b o hb e => (Heap.get?_update_other _ _ (fun z => hb z.symm)).trans e
    cases hb : bt (j + 1) (argBest bt j) with
    | true =>
      simp only [if_true]; refine wpAny_bind (wpAny_updateSeq hS' rfl (wpAny_bind (wpAny_letGo ?_))); rw [nm]
      refine wpAny_pure ⟨plainId_quiet F.plain_min_loop _, ih (j + 1) _ v _ (by omega) hlt (W.frame _ _ _ hst' fun b hbf o e => old _ b o (fun z => hSf (z ▸ hbf)) e) (by simp only [argBest, hb, if_true]; exact hP) (Heap.get?_update_self _ hS' rfl) fun v2 h2 tk2 q2 kp2 => ?_⟩
      exact hR v2 h2 tk2 q2 fun b o hbw hbS e => kp2 b o hbw hbS (old _ b o hbS (kp b o hbw e))
    | false =>
      simp only [Bool.false_eq_true, if_false]; refine wpAny_bind (wpAny_letGo ?_); rw [nm]
      refine wpAny_pure ⟨plainId_quiet F.plain_min_loop _, ih (j + 1) _ vb c (by omega) hlt hst' (by simp only [argBest, hb, Bool.false_eq_true, if_false]; exact hPb) hS' fun v2 h2 tk2 q2 kp2 => ?_⟩
      exact hR v2 h2 tk2 q2 fun b o hbw hbS e => kp2 b o hbw hbS (kp b o hbw e)
theorem first (W : Walks prog w A.in1 I fp wr n P St) (bt : Nat → Nat → Bool) (hcmp : CmpOf prog w A.in1 .Lt P bt) (S : Addr) (hSf : S ∉ fp) {s : Shared} {c : Nat} (hst : St 0 s.heap) (hS : s.heap.get? S = some (lo #[] c))
    (h0 : n = 0 → ∀ h' tk, (∀ b o, b ∉ wr → b ≠ S → s.heap.get? b = some o → h'.get? b = some o) → R (.ok (.ret dv)) { s with heap := h', toks := tk })
    (hR : 0 < n → ∀ v h' tk, P (argBest bt (n - 1)) v → (∀ b o, b ∉ wr → b ≠ S → s.heap.get? b = some o → h'.get? b = some o) → R (.ok (.ret v)) { s with heap := h', toks := tk }) : codeAny (model prog w) A (lc I S dv) R s := by
  have nw : S ∉ wr := fun z => hSf (W.sub _ z)
  refine codeAny_builtin F.entry_min_loop ?_
  rw [Around.under_plainId F.plain_min_loop _]
  refine wpAny_bind (m := seqItems? (.ref S)) (wpAny_seqItems hS rfl ?_)
  rcases Nat.eq_zero_or_pos n with hn | hn
  · refine wpAny_bind (wpAny_tryCatch (W.done s _ _ (hn ▸ hst) fun h' tk kp => ?_))
    exact wpAny_bind (m := rule _) (wpAny_rule (wpAny_pure (h0 hn h' tk fun b o hbw _ e => kp b o hbw e)))
  · refine wpAny_bind (wpAny_tryCatch (W.item 0 s _ _ hn hst fun v h' tk hP hst' kp => ?_)); have hS' := kp S _ nw hS
    refine wpAny_bind (m := pure v) (wpAny_pure (wpAny_bind (m := updateSeq S (fun _ => #[v, v])) (wpAny_updateSeq hS' rfl ?_))); rw [nm]
    have old : ∀ (f : Array Value → Array Value) (b : Addr) (o : Obj), b ≠ S → h'.get? b = some o → (h'.update S (Obj.mapSeq f)).get? b = some o := fun f b o hb e => (Heap.get?_update_other _ _ (fun z => hb z.symm)).trans e
    refine wpAny_pure ⟨plainId_quiet F.plain_min_loop _, loop W bt hcmp S hSf _ 0 _ v _ rfl hn (W.frame _ _ _ hst' fun b hbf o e => old _ b o (fun z => hSf (z ▸ hbf)) e) hP (Heap.get?_update_self _ hS' rfl) fun v2 h2 tk2 q2 kp2 => ?_⟩
    exact hR hn v2 h2 tk2 q2 fun b o hbw hbS e => kp2 b o hbw hbS (old _ b o hbS (kp b o hbw e))
end
section
variable {prog : Program} {w : World} {A : Around} {E : Value → Shared → Prop} {s : Shared} {l : Addr} {its : List Value} {ns : List Int} {Q : Value → Shared → Prop} {dv : Value}
theorem args (a d : Value) : argsOk "min" ⟨[a], [(Str.ofString "default", d)]⟩ := by unfold argsOk; kernel_rfl
theorem call_fn {id : String} {b : Builtin} {as : List Value} {kw : List (Str × Value)} (hk : builtinKind id = none) (hp : plainId id = true) (hb : entryFor table id = some b) (ha : argsOk id ⟨as, kw⟩)
    (hc : wpAny (model prog w) A.in1 (b ⟨as, kw⟩) (fun fin s' => match fin with
      | .done f => (match (Except.ok f : Result) with | .ok (.ret v) => Q v s' | .ok _ => False | .error e => E e s')
      | .again c' => c'.quiet = true ∧ codeAny (model prog w) A c' (fun r s' => match r with | .ok (.ret v) => Q v s' | .ok _ => False | .error e => E e s') s') E s) : wpAny (model prog w) A (call (.builtin id) as kw) Q E s := by
  refine wpAny_call (codeAny_call_builtin hp hb ?_)
  simp only [checkBuiltinCall, hk]
  cases q : Manifest.signature? id with
  | none => exact wpAny_pure hc
  | some sg =>
    have h2 : Bind.checkArgs id sg ⟨as, kw⟩ = pure () := by simpa only [argsOk, q] using ha
    simp only [h2]
    exact wpAny_pure hc
theorem call (hh : A.handled = none) (hl : s.heap.IsList l its.toArray) (hi : IntsAre its ns)
    (h0 : ns = [] → ∀ h' tk, (∀ b o, s.heap.get? b = some o → h'.get? b = some o) → Q dv { s with heap := h', toks := tk })
    (h : ∀ h' tk M t', (∀ b o, s.heap.get? b = some o → h'.get? b = some o) → M ∈ ns → (∀ a, a ∈ ns → M ≤ a) → Q (.int M t') { s with heap := h', toks := tk }) :
    wpAny (model prog w) A (PySem.call (.builtin "min") [.ref l] [(Str.ofString "default", dv)]) Q E s := by
  obtain ⟨xs, e⟩ := hi.allInts.items
  have hn : numsOf (intItems xs).toList = ns := by rw [← e]; exact hi.numsOf
  rw [nums_intItems] at hn; subst hn; rw [e] at hl
  refine call_fn F.kind_min F.plain_min F.entry_min (args _ _) ?_
  show wpAny _ A.in1 (Builtin.Builtins.bindParams "min" ["key", "default"] 0 ⟨[], [(Str.ofString "default", dv)]⟩ >>= _) _ _ s
  refine wpAny_bind (wpAny_of_eq (show Builtin.Builtins.bindParams "min" ["key", "default"] 0 ⟨[], [(Str.ofString "default", dv)]⟩ = pure [none, some dv] from rfl) (wpAny_bind (wpAny_pure ?_)))
  refine wpAny_bind (iter_intList hl fun s₂ e2 st hfp hlI => ?_); subst e2
  refine wpAny_bind (wpAny_newObj_type ?_); rw [nm]
  have hSf : (s.heap.push { cls := .type "list_iterator", data := .fields #[.ref l, .int 0 0] }).objs.size ∉ [s.heap.objs.size, l] := fun z => Nat.lt_irrefl _ (hfp _ z)
  have kp : ∀ (h' : Heap), (∀ b o, b ∉ [s.heap.objs.size] → b ≠ (s.heap.push { cls := .type "list_iterator", data := .fields #[.ref l, .int 0 0] }).objs.size → ((s.heap.push { cls := .type "list_iterator", data := .fields #[.ref l, .int 0 0] }).push { cls := .type "list", data := .seq #[] }).get? b = some o → h'.get? b = some o) → ∀ b o, s.heap.get? b = some o → h'.get? b = some o := fun h' k b o q => by
    have hlt := Heap.lt_size q
    refine k b o (fun z => ?_) (fun z => ?_) (Heap.get?_push_of_some _ (Heap.get?_push_of_some _ q))
    · rcases List.mem_cons.mp z with z | z
      · rw [z] at hlt; exact Nat.lt_irrefl _ hlt
      · cases z
    · have e2 : (s.heap.push { cls := .type "list_iterator", data := .fields #[.ref l, .int 0 0] }).objs.size = s.heap.objs.size + 1 := Heap.size_push ..
      rw [z, e2] at hlt; exact absurd hlt (Nat.not_lt.mpr (Nat.le_succ _))
  refine wpAny_pure ⟨plainId_quiet F.plain_min_loop _, first (Walks.list (A := A.in1) hh _ l hlI (intItems xs)) _ (CmpOf.ints_lt (numAt xs) (fun _ _ => intItems_at)) _ hSf ⟨?_, ?_⟩ (Heap.get?_push_size _ rfl) (fun n0 h' tk k => ?_) fun n0 v h' tk hP k => ?_⟩
  · exact st.1.at fun o q => Heap.get?_push_of_some _ q
  · exact st.2.push _
  · refine h0 ?_ h' tk (kp h' k)
    have : xs.size = 0 := by simpa [intItems] using n0
    rw [List.map_eq_nil_iff, ← List.length_eq_zero_iff, Array.length_toList, this]
  · obtain ⟨t, rfl⟩ := intItems_at hP
    have hs : 0 < xs.size := by simpa [intItems] using n0
    have en : (intItems xs).size - 1 = xs.size - 1 := by simp [intItems]
    rw [en]
    obtain ⟨h1, h2⟩ := argBest_lt (numAt xs) (xs.size - 1)
    refine h h' tk _ t (kp h' k) ?_ fun a ha => ?_
    · rw [numAt_eq]; exact PySem.getD_mem (by rw [List.length_map, Array.length_toList]; omega)
    · obtain ⟨j, hj, rfl⟩ := mem_getD ha
      rw [List.length_map, Array.length_toList] at hj
      rw [← numAt_eq]; exact h2 j (by omega)
end
end MinD
section
variable [FrI] [LT] {X : Cx} {W : WX} {pos p : Pos} {e e2 : Expr} {ma md : M D}
end
end DL
namespace DL
open PySem PySem.Spec PyProof.Rows L2
namespace NxG
section
variable {prog : Program} {w : World} {A : Around} {E : Value → Shared → Prop} {s : Shared}
end
section
variable {X : Cx} {pins : List (Addr × Obj)} {σ : L2.St} {H : Hp} {s : Shared}
end
end NxG
section
variable [FrI]
end
section
variable [FrI] [LT] {X : Cx} {W : WX}
end
end DL
namespace DL
open PySem PySem.Spec PyProof.Rows L2
namespace DcB
def pr (k : Bool) : Bool × Value := (k, .bool true)
def BD (P : Program) (w : World) (D : Addr) (ks : List Bool) : HO := .ext fun h => (D == sysModules) = false ∧ h.DictOf (PpSet.boolK P w) D (ks.map pr)
theorem few : ∀ {ks : List Bool}, ks.Nodup → ks.length ≤ 2
  | [], _ => Nat.zero_le _
  | [_], _ => Nat.le_succ _
  | [_, _], _ => Nat.le_refl _
  | a :: b :: c :: r, h => by
    exfalso
    simp only [List.nodup_cons, List.mem_cons, not_or] at h
    cases a <;> cases b <;> cases c <;> simp_all
theorem keys (ks : List Bool) : (ks.map pr).map (·.1) = ks := by
  rw [List.map_map]; exact List.map_id' ks
section
variable {P : Program} {w : World} {H : Hp} {h : Heap} {D : Addr} {ks : List Bool}
theorem bd_of (ok : HOk P w H h) (e : H D = some (BD P w D ks)) : (D == sysModules) = false ∧ h.DictOf (PpSet.boolK P w) D (ks.map pr) ∧ ks.length ≤ 2 := by
  obtain ⟨n, d⟩ := (show ObjOk P w H h D (BD P w D ks) from ok D _ e).1
  refine ⟨n, d, few ?_⟩
  obtain ⟨_, _, _, _, _, _, _, _, nd⟩ := d
  rw [keys] at nd
  exact nd
end
section
variable {X : Cx} {pins : List (Addr × Obj)} {σ : L2.St} {H : Hp} {s : Shared} {D : Addr} {ks : List Bool}
theorem call_len : CallR X (.builtin "len") (fun xs H Q => ∃ D ks, xs = [V.ref D] ∧ H D = some (BD X.prog X.w D ks) ∧ Q (.int (ks.length : Nat)) H) := by
  intro pins s σ H xs us Q I r h
  obtain ⟨D, ks, rfl, hD, q⟩ := h
  obtain rfl := Vals.ref1 r
  obtain ⟨n, d, l⟩ := bd_of I.hok hD
  refine call_len_dict n d (by rw [List.length_map]; omega) ⟨.int (ks.length : Nat), H, I.tok _, ⟨_, by rw [List.length_map]⟩, q⟩
end
section
variable {X : Cx} {kx tg iter : Expr} {scope : Scope} {own : List (Str × Nat)} {pos pv : Pos} {wi : TI} {g : TG} {tk : TE} {jv : Nat}
end
end DcB
def PostB2 (r : Out (List Bool)) (T : List Bool → S → Prop) : Prop := match r with
  | .ok acc s => T acc s
  | _ => False
section
variable {C : Cw} {k : Kp} {σ : L2.St}
theorem PostB2.bind {α : Type} {m : M α} {f : α → M (List Bool)} {s : S} {T : List Bool → S → Prop} (h : PostB2 ((m >>= f) s) T) {Q : α → S → Kp → Hp → Prop} [FrI] (hq : ∀ a s' k' H', PostB2 (f a s') T → k.le k' → Rep C k' s' σ H' → Q a s' k' H') : Post C W0 k σ (m s) Q := by
  have e : (m >>= f) s = M.bind m f s := rfl
  rw [e] at h
  unfold M.bind at h
  cases q : m s with
  | ok a s' => rw [q] at h; exact fun H' k' l R => hq a s' k' H' h l R
  | exc x s' => rw [q] at h; exact h.elim
  | stuck => rw [q] at h; exact h.elim
theorem PostB2.toS [FrI] {m : M Unit} {f : Unit → M (List Bool)} {s : S} {T : List Bool → S → Prop} (h : PostB2 ((m >>= f) s) T) {D : L2.St → Hp → Prop} (hq : ∀ s' σ' H' k', k.le k' → Rep C k' s' σ' H' → PostB2 (f () s') T → D σ' H') :
    PostS C W0 k (toS m s) { nx := D, rt := fun _ _ => False } := by
  have e : (m >>= f) s = M.bind m f s := rfl
  rw [e] at h
  unfold M.bind at h
  unfold DL.toS
  cases q : m s with
  | ok a s' => rw [q] at h; exact fun σ' H' k' l R => hq s' σ' H' k' l R h
  | exc x s' => rw [q] at h; exact h.elim
  | stuck => rw [q] at h; exact h.elim
end
section
variable [FrI] {C : Cw} {k : Kp} {s : S} {σ : L2.St} {H : Hp}
end
section
variable [FrI] [LT] {X : Cx} {W : WX}
end
end DL
namespace OiX
open PySem PySem.Spec PySem.W PySem.Calls PyProof.Rows L2
abbrev bodyOf (lit sf P f : Str) (j : Nat) (p0 p1 p2 p3 p4 p5 p6 p7 p8 p9 : Pos) : List Stmt :=
  [.Expr (.Call (.Attribute (.Call (.Name "super" p0) [] [] p1) "__init__" p2) [.Constant (.str lit) j p3] [] p4) p5, .Assign [.Attribute (.Name sf p6) f p7] (.Name P p8) p9]
structure Fn (prog : Program) (K : Frag) (C fI : Addr) (fd : FuncData) (lit f : Str) : Prop where
  cls : OexC K C
  ini : findIn K (.ref C) "__init__" = some (some (.ref fI))
  typ : typeIn K (.ref fI) = some (.type "function")
  lk : ∃ oc od osl, K.lookup fI = some ⟨oc, od, .func fd, osl⟩
  glob : fd.globals = mainGlobals
  blt : fd.builtins = builtinsNs
  code : codeIn K fd.code fd.qualname = true
  file : ∃ cda ccl cdd vs ccs file tf, fd.code = .ref cda ∧ K.lookup cda = some ⟨ccl, cdd, .fields vs, ccs⟩ ∧ vs[2]? = some (.str file tf) ∧ ((prog.main.file : Str) == file) = true
  cell : ∃ cc cl cld csl, fd.closure.lookup ("__class__" : Str) = some cc ∧ K.lookup cc = some ⟨cl, cld, .cell (some (.ref C)), csl⟩
  sup : ks_superIn K C C "__init__" = some (some (.builtin "ValueError.__init__"))
  ve : subIn K (.ref C) (.type "ValueError") = some true
  own : mroIn K C (.ref C) = some true
  opq : nsIn K cStatics "thirdparty.any" = some none
  no : findIn K (.ref C) f = some none
  fr : nsIn K mainGlobals "super" = some none
  top : (prog.main.scope.names.lookup ("super" : Str)).isSome = false
structure Txt (fd : FuncData) (lit f sf P : Str) : Prop where
  bod : ∃ (j : Nat) (p0 p1 p2 p3 p4 p5 p6 p7 p8 p9 : Pos), fd.body = .stmts (bodyOf lit sf P f j p0 p1 p2 p3 p4 p5 p6 p7 p8 p9) ∧ (p2.endLine == p4.line) = true
  head : ∃ ar, (fd.params.posonlyargs ++ fd.params.args).head? = some ar ∧ ar.arg = sf
  bind : ∀ (a b : Value) (s : Shared), BindsTo s fd ⟨[a, b], []⟩ [(sf, a), (P, b)]
  kS : fd.scope.names.lookup ("super" : Str) = some .globalImplicit
  kC : fd.scope.names.lookup ("__class__" : Str) = some .free
  kA : fd.scope.names.lookup sf = some .local
  kP : fd.scope.names.lookup P = some .local
  cells : ∀ x ∈ fd.scope.names, x.2 ≠ .cell
  kind : fd.scope.kind = .function
  co : fd.scope.isCoroutine = false
  gen : fd.scope.isGenerator = false
  ne : sf ≠ P
  dS : (sf == ("__debug__" : Str)) = false
  dP : (P == ("__debug__" : Str)) = false
theorem ev {env : Env} {lit : Str} {j : Nat} {p0 p1 p2 p3 p4 : Pos} (h : (p2.endLine == p4.line) = true) : eval (.Call (.Attribute (.Call (.Name "super" p0) [] [] p1) "__init__" p2) [.Constant (.str lit) j p3] [] p4) env = (do
      let ov ← attributeBase (.Call (.Name "super" p0) [] [] p1) "__init__" env (eval (.Call (.Name "super" p0) [] [] p1) env)
      standAt p2.atName
      let (f, first) ← holding [ov] (getMethod ov "__init__" (do return (← importBound (.Call (.Name "super" p0) [] [] p1) env).getD true))
      callWith p4 f first (backTo p4 (starEach [.Constant (.str lit) j p3] env)) []) := by
  have e : methodCallPos true (.Call (.Name "super" p0) [] [] p1) env p2 p4 = pure p4 := by
    unfold methodCallPos
    rw [h]
    rfl
  show (do
    let ov ← attributeBase (.Call (.Name "super" p0) [] [] p1) "__init__" env (eval (.Call (.Name "super" p0) [] [] p1) env)
    standAt p2.atName
    let (f, first) ← holding [ov] (calleeOf true (.Call (.Name "super" p0) [] [] p1) env ov "__init__")
    let callPos ← methodCallPos true (.Call (.Name "super" p0) [] [] p1) env p2 p4
    callWith callPos f first (backTo p4 (starEach [.Constant (.str lit) j p3] env)) []) = _
  rw [e]
  rfl
section
variable {prog : Program} {w : World} {A : Around} {R : Result → Shared → Prop} {hp : Heap} {g : Array GenState} {d : Drawn} {t : Nat} {os : OsState} {K : Frag} {mg : Str → Option Value} {C fI e t0 : Addr} {fd : FuncData} {lit f sf P : Str} {u : Value}
theorem run (T : Fn prog K C fI fd lit f) (Tx : Txt fd lit f sf P) (X : K.In hp) (hK : K.lookup e = none) (G : hp.Ns mainGlobals mg) (hB : ∃ mb, hp.Ns builtinsNs mb ∧ mb "super" = some (.type "super")) (hN : hp.NoLimit) (hr : A.depth < recursionLimit) (he : hp.get? e = some (HandSPX.excO C t0))
    (hq : ∀ h' t1 t' dx, (∀ b o, b ≠ e → hp.get? b = some o → h'.get? b = some o) → hp.objs.size ≤ dx → dx ≠ e → h'.get? e = some { cls := .ref C, dict := some dx, data := .fields #[.ref t1, .none, .none, .none, .bool false, .none] } →
      h'.Ns1 dx (fun y => if y = f then some u else none) → R (.ok (.ret .none)) ⟨h', g, d, t', os⟩) :
    codeAny (model prog w) A (.call (.ref fI) ⟨[.ref e, u], []⟩) R ⟨hp, g, d, t, os⟩ := by
  obtain ⟨oc, od, osl, lk⟩ := T.lk
  obtain ⟨j, p0, p1, p2, p3, p4, p5, p6, p7, p8, p9, hbody, hln⟩ := Tx.bod
  obtain ⟨ar, hh, har⟩ := Tx.head
  refine ks_codeAny_call_defAt hr (X _ _ lk) rfl hN (codeRec_of X T.code) hbody (Tx.bind _ _ _) Tx.cells (fun y hy => ?_) (fun h₁ hns k1 => ?_) Tx.co Tx.gen Tx.kind
  · simp only [List.mem_cons, List.not_mem_nil, or_false] at hy
    rcases hy with rfl | rfl
    · exact Tx.kA
    · exact Tx.kP
  have X1 : K.In h₁ := fun a o z => k1 a o (X a o z)
  have G1 : h₁.Ns mainGlobals mg := G.at fun o z => k1 _ o z
  have hsup : mg "super" = none := mg_none_of X G T.fr
  obtain ⟨mb, hb1, hb2⟩ := hB
  have B1 : h₁.Ns builtinsNs mb := hb1.at fun o z => k1 _ o z
  have e1 : h₁.get? e = some (HandSPX.excO C t0) := k1 _ _ he
  obtain ⟨cda, ccl, cdd, vs, ccs, file, tf, hcda, lcd, hvs, hfile⟩ := T.file
  obtain ⟨cc, cl, cld, csl, hclo, lcc⟩ := T.cell
  obtain ⟨nm, q, N, bs, bm, sn, sub, ab, col, dd, k0, k1', k2, k3, k5, hC, hbm⟩ := T.cls.cls
  have hC1 := X1 _ _ hC
  have ne1 : e ≠ C := fun z => by
    subst z
    rw [e1] at hC1
    cases hC1
  refine ks_wpAt_execs_cons ?_
  refine ks_wpAt_Expr_any (hi := by unfold interactive; rw [show (callEnv fd hp.objs.size fI).scope.kind = fd.scope.kind from rfl, Tx.kind]; rfl) ?_
  refine ks_wpAt_MethodCall (he := ev hln) ?_
  refine ks_wpAt_super_base (env := callEnv fd hp.objs.size fI) Tx.kS Tx.kC (by decide) rfl (X1 _ _ lk) rfl hh hcda (X1 _ _ lcd) rfl hvs hfile T.top ?_
  refine ks_loadName_global Tx.kind Tx.kS (Calls.loadGlobal_builtin (by rw [show (callEnv fd hp.objs.size fI).globals = fd.globals from rfl, T.glob]; exact G1) hsup (by rw [show (callEnv fd hp.objs.size fI).builtins = fd.builtins from rfl, T.blt]; exact B1) hb2 ⟨rfl, ?_⟩)
  refine wpAny_loadName_free Tx.kind Tx.kC hclo ⟨_, X1 _ _ lcc, rfl⟩ ?_
  have mS : List.lookup sf [(sf, Value.ref e), (P, u)].reverse = some (.ref e) := by
    have h1 : (sf == P) = false := by simpa using Tx.ne
    simp [List.lookup, h1]
  have mP : List.lookup P [(sf, Value.ref e), (P, u)].reverse = some u := by simp [List.lookup]
  have eL : hp.objs.size ≠ e := Nat.ne_of_gt (Heap.lt_size he)
  refine wpAny_loadName_local Tx.kind (har ▸ Tx.kA) hns (by rw [har]; exact mS) ?_
  refine ks_wpAny_isType_cls hC1 rfl ⟨rfl, ?_⟩
  refine ks_wpAny_call_super hC1 rfl e1 rfl (fun c z => nomatch z) (looks_mroIn X1 T.own) (fun h2 hso k2 => ?_)
  have X2 : K.In h2 := fun a o z => k2 a o (X1 a o z)
  have e2 := k2 _ _ e1
  have hcl : clsIn K C = some { name := nm, bases := bs, mro := .ref C :: bm, ns := N, qualname := q, hasDict := true, slotNames := sn, subclasses := sub, abstract := ab, collection := col, hasDel := false } := by unfold clsIn; rw [hC] <;> rfl
  have I2 : InstAt h2 e (HandSPX.excO C t0) C none := ⟨e2, rfl, rfl, trivial⟩
  have hsu := T.sup
  unfold ks_superIn at hsu
  rw [hcl, Option.bind_some] at hsu
  have hI2 : Looks (model prog w) h2 (isInstance (.ref e) (.type "ValueError")) true := I2.type.andThen (looks_subIn X2 T.ve)
  refine kxs_getMethod kxs_ValueError hso (looks_opaque X2 T.opq) (l₀ := .ref C :: bm) (fun A Q E s k q => wpAny_bind ((looks_clsIn X2 hcl) A _ E s k (wpAny_pure q))) rfl X2 hsu hI2 ne1 (by decide) ?_
  refine kxs_callWith (i := "ValueError.__init__") (x := e) rfl ?_
  refine evalArgs_plain ?_
  refine Calls.spliced_cons ?_
  refine wpAny_Constant_str (k := j) (pos := p3) ?_
  refine Calls.spliced_nil ?_
  have k3 : ∀ b o, h2.get? b = some o → (h2.push (kxs_mw "ValueError.__init__" e)).get? b = some o := fun b o z => Heap.get?_push_of_some _ z
  have hu : (h2.push (kxs_mw "ValueError.__init__" e)).get? h2.objs.size = some (kxs_mw "ValueError.__init__" e) := Heap.get?_push_at rfl rfl
  refine ⟨hu, ?_⟩
  have X3 : K.In (h2.push (kxs_mw "ValueError.__init__" e)) := fun a o z => k3 a o (X2 a o z)
  have e3 := k3 _ _ e2
  have hC3 := X3 _ _ hC
  refine wpAny_call (codeAny_of_tree ?_)
  show wpAny _ _ (callAny (.ref h2.objs.size) ⟨[_], []⟩) _ _ _
  simp only [callAny]
  refine wpAny_bind (wpAny_load hu ?_)
  simp only [kxs_mw, show (Value.type "method-wrapper" == Value.type "method" || Value.type "method-wrapper" == Value.type "builtin_function_or_method" || Value.type "method-wrapper" == Value.type "method-wrapper") = true by decide, if_true]
  refine KFB.if_so (by decide) ?_
  refine wpAny_bind (check_bound_init F.excBase_ValueError.toExcCallFacts hC3 e3 rfl ?_)
  refine wpAny_bind (wpAny_pure (wpAny_pure ?_))
  refine ⟨plainId_quiet F.excBase_ValueError.init.plain _, codeAny_builtin F.excBase_ValueError.initEntry ?_⟩
  refine exc_init_tree (cls := .ref C) (t0 := t0) (dv := none) (c2 := .none) (c3 := .none) (b4 := .bool false) e3 (by show (1 : Nat) ≤ sizeLine; rw [sizeLine_eq]; decide) (fun h4 k4 e4 t4 => ?_)
  show _root_.PySem.wpAt _ _ _ (execs [Stmt.Assign [.Attribute (.Name sf p6) f p7] (.Name P p8) p9] _) _ _ _
  have kk : ∀ b o, b ≠ e → hp.get? b = some o → h4.get? b = some o := fun b o hb z => k4 b o hb (k3 _ _ (k2 _ _ (k1 _ _ z)))
  have ns4 : h4.Ns hp.objs.size (fun y => List.lookup y [(sf, Value.ref e), (P, u)].reverse) := hns.at fun o z => k4 _ o eL (k3 _ _ (k2 _ _ z))
  have X4 : K.In h4 := fun a o z => kk a o (fun y => by rw [y, hK] at z; cases z) (X a o z)
  refine ks_wpAt_execs_cons ?_
  refine ks_wpAt_Assign_Attr ?_
  refine wpAt_of_wpAny (wpAny_Name (wpAny_loadName_local Tx.kind Tx.kP ns4 mP ?_) Tx.dP)
  refine wpAny_Name (wpAny_loadName_local Tx.kind Tx.kA ns4 mS ?_) Tx.dS
  refine set_plain X4 (ox := _) (od := none) ⟨e4, rfl, rfl, trivial⟩ T.cls.sa ?_
  refine HandSPX.exc_osa X4 e4 hcl (show HandSPX.refsVE (.ref C :: bm) = true from hbm) rfl T.no (fun h5 tk dx k5' dn dne hx hn => ?_)
  show _root_.PySem.wpAt _ _ _ (execs [] _) _ _ _
  rw [execs_nil]
  refine wpAt_of_wpAny (wpAny_pure ?_)
  obtain ⟨oL, esL, epL, hL, _⟩ := ns4
  exact hq h5 _ _ dx (fun b o hb z => k5' b o hb (kk b o hb z)) (Nat.le_trans (Nat.le_of_lt (Heap.lt_size hL)) dn) dne hx hn
end
end OiX
namespace OiX
open PySem PySem.Spec PySem.W PySem.Calls PyProof.Rows L2
section
variable {X : Cx} {x : Str} {e : Expr} {te : TE} {p pos : Pos} {C fI : Addr} {fd : FuncData} {lit f sf P : Str} {n : Nat}
def At (a C dx : Addr) : HO := .ext (DL.ErrP a (.ref C) (some dx))
theorem made {pins : List (Addr × Obj)} {σ : L2.St} {H1 : Hp} {hp : Heap} {g : Array GenState} {dr : Drawn} {tk : Nat} {os : OsState} {u : Value} {v : V} {Q : Value → Shared → Prop} {E : Value → Shared → Prop}
    (T : Fn X.prog X.K C fI fd lit f) (Tx : Txt fd lit f sf P) (hr : DL.RoomG n X.A) (I1 : Inv X pins σ H1 ⟨hp, g, dr, tk, os⟩) (r1 : RelV v u)
    (hq : ∀ h' a t1 t' dx, hp.objs.size ≤ a → hp.objs.size ≤ dx → dx ≠ a → (∀ b o, hp.get? b = some o → h'.get? b = some o) → h'.get? a = some ({ cls := .ref C, dict := some dx, data := .fields #[.ref t1, .none, .none, .none, .bool false, .none] } : Obj) →
      h'.Ns1 dx (fun y => if y = f then some u else none) → Q (.ref a) ⟨h', g, dr, t', os⟩) :
    wpAny (model X.prog X.w) X.A (call (.ref C) [u]) Q E ⟨hp, g, dr, tk, os⟩ := by
  obtain ⟨nm, q, N, bs, bm, sn, sub, ab, col, dd, k0, k1, k2, k3, k5, hC, hbm⟩ := T.cls.cls
  have hsz : hp.objs.size ≤ hp.objs.size + 1 := Nat.le_succ _
  have kk : ∀ b o, hp.get? b = some o → ((hp.push (kdv_tup [u])).push (HandSPX.excO C hp.objs.size)).get? b = some o := fun b o e => Heap.get?_push_of_some _ (Heap.get?_push_of_some _ e)
  have hget : ((hp.push (kdv_tup [u])).push (HandSPX.excO C hp.objs.size)).get? (hp.objs.size + 1) = some (HandSPX.excO C hp.objs.size) := by heap_get
  have I2 : Inv X pins σ (upd H1 (hp.objs.size + 1) (exo (hp.objs.size + 1) C none)) ⟨(hp.push (kdv_tup [u])).push (HandSPX.excO C hp.objs.size), g, dr, tk, os⟩ :=
    I1.laid (t' := tk) (a := hp.objs.size + 1) (o := exo (hp.objs.size + 1) C none) (h' := (hp.push (kdv_tup [u])).push (HandSPX.excO C hp.objs.size)) kk hsz (exo_ok hget)
  have hK : X.K.lookup (hp.objs.size + 1) = none := by
    cases z : X.K.lookup (hp.objs.size + 1) with
    | none => rfl
    | some o =>
      have := Heap.lt_size (I1.kIn _ _ z)
      exact absurd this (by show ¬ hp.objs.size + 1 < hp.objs.size; omega)
  refine wpAny_call (HandSPX.call_own F.excBase_ValueError (fun Y => HandSPX.refsVE_contains Y bm hbm) (I1.kIn _ _ hC) (looks_findIn I1.kIn T.ini) (fun sf => bind_fn I1.kIn sf T.typ) (by show (1 : Nat) ≤ sizeLine; rw [sizeLine_eq]; decide) ?_)
  refine run T Tx I2.kIn hK (I2.mod.glob.keeps I2.bk) ?_ (I2.mod.nolimit.keeps I2.bk) ?_ hget (fun h' t1 t' dx k dn dne hx hn => ?_)
  · obtain ⟨mb, h1, h2⟩ := I2.mod.blt
    exact ⟨mb, h1.keeps I2.bk, (h2 _ (by decide)).trans (by kernel_rfl)⟩
  · have := hr.room.dp
    rw [make_depth]
    omega
  · refine ⟨rfl, ?_⟩
    refine hq h' _ t1 t' dx hsz (Nat.le_trans (Nat.le_of_lt (Nat.lt_of_le_of_lt hsz (Heap.lt_size hget))) dn) dne (fun b o z => k b o (fun y => ?_) (kk b o z)) hx hn
    have := Heap.lt_size z
    rw [y] at this
    exact absurd this (by show ¬ hp.objs.size + 1 < hp.objs.size; omega)
theorem at_ok {P : Program} {w : World} {H : Hp} {h : Heap} {a C dx t1 : Addr} (hx : h.get? a = some ({ cls := .ref C, dict := some dx, data := .fields #[.ref t1, .none, .none, .none, .bool false, .none] } : Obj)) : ObjOk P w H h a (At a C dx) := ⟨⟨_, _, hx, ⟨rfl, rfl⟩, rfl⟩, ⟨_, hx⟩, fun _ _ ⟨o, v, q, r⟩ k => ⟨o, v, k o q, r⟩⟩
theorem pe_oinit (T : Fn X.prog X.K C fI fd lit f) (Tx : Txt fd lit f sf P) (gC : X.mg x = some (.ref C)) (kC : keepIn X.K (.ref C) = true) (hr : DL.RoomG n X.A) (hg : Gl X x) (he : PE X e te)
    (hs : starEach [e] X.env = (false, eval e X.env) :: starEach [] X.env := by rfl) (hdb : (x == ("__debug__" : Str)) = false := by decide) :
    PE X (.Call (.Name x p) [e] [] pos) (fun σ H Q => te σ H fun y H1 => ∀ a dx, H1 a = none → H1 dx = none → dx ≠ a → Q (.ref a) (upd (upd H1 dx (.xd [(f, y)])) a (At a C dx))) := by
  refine ⟨fun pins s σ H Q I h => ?_⟩
  refine wpAny_Call_Name_kw (ld_glob I hg gC ?_ hdb)
  refine callWith_K (h₀ := X.base) I.ok.mod.kin kC ?_ hs (by rfl)
  rw [hs]
  show wpAny _ _ (spliced ((false, eval e X.env) :: backTo pos (starEach [] X.env))) _ _ s
  refine Calls.spliced_cons (thn (he.run pins s σ H _ I h) fun u s1 ⟨v, H1, I1, r1, q1⟩ => ?_)
  refine Calls.spliced_nil ⟨I1.kIn, ?_⟩
  show wpAny _ _ (call (.ref C) [u]) _ _ _
  obtain ⟨hp, g, dr, tk, os⟩ := s1
  refine made T Tx hr I1 r1 fun h' a t1 t' dx ha hd hne k hx hn => ?_
  have na : H1 a = none := I1.hok.fresh ha
  have nd : H1 dx = none := I1.hok.fresh hd
  have nha : ∀ {b : Addr} {o : Obj}, hp.get? b = some o → b ≠ a := fun {b o} z => Nat.ne_of_lt (Nat.lt_of_lt_of_le (Heap.lt_size z) ha)
  have nhd : ∀ {b : Addr} {o : Obj}, hp.get? b = some o → b ≠ dx := fun {b o} z => Nat.ne_of_lt (Nat.lt_of_lt_of_le (Heap.lt_size z) hd)
  have U : Un X.fs [] H1 (upd (upd H1 dx (.xd [(f, v)])) a (At a C dx)) hp h' := {
    keep := fun b o q _ _ _ => k b o q
    slot := fun b o q _ _ _ => ⟨o.slots, k b o q⟩
    free := fun b o q m _ => by rw [upd_ne (nha q), upd_ne (nhd q)]; exact m
    there := fun b o q _ => ⟨o, k b o q⟩
    tups := fun b xs q => by rw [upd_ne (ne_of_none q na), upd_ne (ne_of_none q nd)]; exact q
    frzs := fun b o u q => by rw [upd_ne (ne_of_none q na), upd_ne (ne_of_none q nd)]; exact q
    tbls := fun b ps q => ⟨#[], by rw [upd_ne (ne_of_none q na), upd_ne (ne_of_none q nd), q]; simp⟩ }
  refine ⟨.ref a, _, I1.un (t' := t') U fun b o q => ?_, rfl, q1 a dx na nd hne⟩
  by_cases hb : b = a
  · subst hb
    rw [upd_same] at q
    cases q
    exact at_ok hx
  · rw [upd_ne hb] at q
    by_cases hbd : b = dx
    · subst hbd
      rw [upd_same] at q
      cases q
      exact ⟨_, hn, relO_put (fs := []) r1 fun g => True.intro⟩
    · rw [upd_ne hbd] at q
      exact (I1.hok b o q).stay (fun c v _ z => k c v z) (fun c hc => by rw [upd_ne (ne_of_none hc na), upd_ne (ne_of_none hc nd)]; exact hc) fun c xs hc => by rw [upd_ne (ne_of_none hc na), upd_ne (ne_of_none hc nd)]; exact hc
end
end OiX
namespace OiX
open PySem PySem.Spec PySem.W PySem.Calls PyProof.Rows L2
section
variable {X : Cx} {e : Expr} {te : TE} {n : Str} {pos : Pos}
theorem pe_xfV (he : PE X e te) (hb : attributeBase e n X.env (eval e X.env) = eval e X.env := by rfl) :
    PE X (.Attribute e n pos) (fun σ H Q => te σ H fun x H1 => ∃ (a C dd : Addr) (φ : Heap → Prop) (fs : List (Str × V)) (v : V), x = .ref a ∧ H1 a = some (.ext φ) ∧ (∀ h, φ h → DL.ErrP a (.ref C) (some dd) h) ∧ XfC X.K C ∧ findIn X.K (.ref C) n = some none ∧ H1 dd = some (.xd fs) ∧ fs.lookup n = some v ∧ Q v H1) := by
  refine ⟨fun pins s σ H Q I h => ?_⟩
  refine attr_of hb (thn (he.run pins s σ H _ I h) fun u s1 hh => ?_)
  obtain ⟨x, H1, I1, rx, a, C, dd, φ, fs, v, ex, ha, eφ, T, hno, ea, l, q⟩ := hh
  subst ex
  obtain rfl : u = Value.ref a := rx
  have hx0 : ObjOk X.prog X.w H1 s1.heap a (.ext φ) := I1.hok a _ ha
  obtain ⟨oe, vs, g1, hz, hd⟩ := eφ _ hx0.1
  have hx : ObjOk X.prog X.w H1 s1.heap dd (.xd fs) := I1.hok dd _ ea
  obtain ⟨mA, hns, hr⟩ := hx
  obtain ⟨od, ho, hl⟩ := lookIn_ns hns
  obtain ⟨u, hu, ru⟩ := RelO.some_of (v := v) (o := mA n) (by rw [← l]; exact hr n)
  have J : InstAt s1.heap a oe C (some od) := ⟨g1, hz.1, by unfold notCls; rw [hd] <;> rfl, by rw [hz.2]; exact ho⟩
  exact HandSPX.exc_get I1.kIn J T.ga T.gg T.exC (findObj_own T.hdC hno rfl (by rw [hl, hu])) (handed_of ru) ⟨v, H1, I1.tok _, ru, q⟩
def rIsiX (K : Frag) : List V → Hp → VK → Prop := fun xs H Q => rIsi K xs H Q ∨ ∃ (a C : Addr) (c : V) (u : Value) (b : Bool) (d : Option Addr) (φ : Heap → Prop), xs = [.ref a, c] ∧ ClsV c u ∧ H a = some (.ext φ) ∧ (∀ h, φ h → DL.ErrP a (.ref C) d h) ∧ (∀ dd, d = some dd → ∃ fs, H dd = some (.xd fs)) ∧ ExcC K C ∧ kitOne K (.ref C) u = some b ∧ Q (.bl b) H
theorem call_isiX : CallR X (.builtin "isinstance") (rIsiX X.K) := by
  intro pins s σ H xs us Q I r h
  rcases h with h | ⟨a, C, c, u, b, d, φ, rfl, k, eH, eφ, ed, E, e, q⟩
  · exact call_isi pins s σ H xs us Q I r h
  · obtain ⟨u1, u2, rfl, r1, r2⟩ := vals2 r
    have e2 := k.eq r2
    subst e2
    cases (show u1 = Value.ref a from r1)
    have hx : ObjOk X.prog X.w H s.heap a (.ext φ) := I.hok a _ eH
    obtain ⟨oe, vs, h1, h2, h3⟩ := eφ _ hx.1
    have hcl : (clsIn X.K C).isSome = true := by
      obtain ⟨cd, hc, _⟩ := any_some E.hd
      rw [hc]; rfl
    cases d with
    | none =>
      have J : InstAt s.heap a oe C none := ⟨h1, h2.1, by unfold notCls; rw [h3] <;> rfl, by rw [h2.2]; trivial⟩
      exact kia_one (kitx_exc hcl E.hg E.hk E.hs E.ha E.hn E.ht E.hm) I.kIn J e (fun z => nomatch z) fun tk => ⟨.bl b, H, I.tok tk, rfl, q⟩
    | some dd =>
      obtain ⟨fs, hfs⟩ := ed dd rfl
      have hx2 : ObjOk X.prog X.w H s.heap dd (.xd fs) := I.hok dd _ hfs
      obtain ⟨mA, hns, hr⟩ := hx2
      obtain ⟨od, ho, hl⟩ := lookIn_ns hns
      have J : InstAt s.heap a oe C (some od) := ⟨h1, h2.1, by unfold notCls; rw [h3] <;> rfl, by rw [h2.2]; exact ho⟩
      exact kia_one (kitx_exc hcl E.hg E.hk E.hs E.ha E.hn E.ht E.hm) I.kIn J e (fun z => nomatch z) fun tk => ⟨.bl b, H, I.tok tk, rfl, q⟩
end
end OiX
namespace DL
open PySem PySem.Spec PyProof.Rows L2
variable [FrI]
structure OInK (X : Gs) (x f : Str) : Prop where
  mg : X.mg x = some (.ref (He.ga X.K x))
  keep : PySem.W.keepIn X.K (.ref (He.ga X.K x)) = true
  fn : ∃ (fI : Addr) (fd : FuncData) (lit sf P : Str), OiX.Fn X.P X.K (He.ga X.K x) fI fd lit f ∧ OiX.Txt fd lit f sf P
def mOx (c f : Str) (m : M D) : M D := do let d ← m; M.pure (.err c [(f, d)])
structure FldOk (K : PySem.W.Frag) (fl : Str → Str → Bool) : Prop where
  ok : ∀ c f, fl c f = true → XfC K (He.ga K c) ∧ PySem.W.findIn K (.ref (He.ga K c)) f = some none
def mAt (fl : Str → Str → Bool) (f : Str) (m : M D) : M D := do
  let d ← m
  match d with
  | .err c [(g, v)] => if fl c f = true ∧ g = f then M.pure v else stuck
  | _ => stuck
def isiX (sup : Str → Ty → Option Bool) (t : Ty) : D → Option Bool
  | .err c [_] => sup c t
  | d => isiO sup t d
def mIsiX (sup : Str → Ty → Option Bool) (t : Ty) (m : M D) : M D := do let d ← m; ofO ((isiX sup t d).map D.bl)
section
variable [LT] {X : Cx} {W : WX} {pos p p2 : Pos} {x f : Str} {e : Expr} {me : M D} {n : Nat} {sup : Str → Ty → Option Bool} {t : Ty} {fl : Str → Str → Bool}
theorem de_oinit (E : OInK (gsOf X) x f) (hr : RoomG n X.A) (he : DE X W e me) (hg : Gl X x := by rfl) (hs : starEach [e] X.env = (false, eval e X.env) :: starEach [] X.env := by rfl) (hdb : (x == ("__debug__" : Str)) = false := by decide) :
    DE X W (.Call (.Name x p) [e] [] pos) (mOx x f me) := by
  obtain ⟨fI, fd, lit, sf, P, T, Tx⟩ := E.fn
  refine PE_mono (OiX.pe_oinit T Tx E.mg E.keep hr hg he hs hdb) fun σ H Q h => ?_
  obtain ⟨k, s, R, p⟩ := h
  refine tD_bind R p fun d s1 k1 H1 v l1 R1 r1 p1 a dx na nd ne => ?_
  obtain ⟨R2, l2⟩ := R1.alloc nd (.xd [(f, v)])
  have na2 : upd H1 dx (.xd [(f, v)]) a = none := by rw [upd_ne (Ne.symm ne)]; exact na
  obtain ⟨R3, l3⟩ := R2.alloc na2 (OiX.At a (He.ga X.K x) dx)
  refine p1 _ _ (l2.trans l3) R3 _ (.err (φ := ErrP a (.ref (He.ga X.K x)) (some dx)) ?_ (fun h q => q) (VRx.cons (vs := [(f, v)]) (by simp) ?_ rfl (VRs.cons (r1.up (l2.trans l3)) VRs.nil)))
  · show (upd (upd k1.G dx _) a (OiX.At a (He.ga X.K x) dx)) a = some (.ext _)
    exact upd_same
  · show (upd (upd k1.G dx _) a (OiX.At a (He.ga X.K x) dx)) dx = some (.xd [(f, v)])
    rw [upd_ne ne]
    exact upd_same
theorem de_at (hf : FldOk X.K fl) (he : DE X W e me) (hb : attributeBase e f X.env (eval e X.env) = eval e X.env := by rfl) : DE X W (.Attribute e f pos) (mAt fl f me) :=
  PE_mono (OiX.pe_xfV he hb) fun σ H Q h => by
    obtain ⟨k, s, R, p⟩ := h
    refine tD_bind R p fun d s1 k1 H1 v l1 R1 r1 p1 => ?_
    cases d with
    | err c fs =>
      match fs with
      | [] => exact p1.elim
      | _ :: _ :: _ => exact p1.elim
      | [(g, w)] =>
        have p2 : PostE X.cw W k1 σ ((if fl c f = true ∧ g = f then M.pure w else stuck : M D) s1) Q := p1
        by_cases hc : fl c f = true ∧ g = f
        · rw [if_pos hc] at p2
          obtain ⟨hc1, rfl⟩ := hc
          cases r1 with
          | @err a _ dx _ φ eG eφ rx =>
            cases rx with
            | @cons dd vs _ h0 h1 h2 h3 =>
              match vs, h2, h3 with
              | [(g2, v2)], h2, .cons rv .nil =>
                have eg : g2 = g := by simpa using h2
                subst eg
                exact ⟨a, _, dd, φ, _, v2, rfl, R1.G _ _ eG, eφ, (hf.ok c g2 hc1).1, (hf.ok c g2 hc1).2, R1.G _ _ h1, by simp [List.lookup], PostE.ret p2 R1 rv⟩
        · rw [if_neg hc] at p2
          exact p2.elim
    | _ => exact p1.elim
theorem isiX_cases {d : D} : isiX sup t d = isiO sup t d ∨ ∃ c f v, d = .err c [(f, v)] ∧ isiX sup t d = sup c t := by
  cases d with
  | err c fs =>
    match fs with
    | [] => exact .inl rfl
    | _ :: _ :: _ => exact .inl rfl
    | [(g, w)] => exact .inr ⟨c, g, w, rfl, rfl⟩
  | _ => exact .inl rfl
theorem rd_isiX (hs : SupOk X.K sup) {m : M D} {σ : L2.St} {H : Hp} {Q : VK} (h : tD X.cw W (mIsiX sup t m) σ H Q) : tCB (OiX.rIsiX X.K) (tCons (tD X.cw W m) (tCons (tC (t.v X.K)) tNil)) σ H Q := by
  obtain ⟨k, s, R, p⟩ := h
  refine tD_bind R p fun d s1 k1 H1 v l1 R1 r1 p1 => ?_
  show OiX.rIsiX X.K [v, t.v X.K] H1 Q
  have tv : ClsV (t.v X.K) (t.val X.K) := by cases t <;> constructor
  cases q : isiX sup t d with
  | none => rw [q] at p1; exact p1.elim
  | some b =>
    rw [q] at p1
    have fin : Q (.bl b) H1 := PostE.ret p1 R1 (.bl b)
    have err : ∀ c fs, d = .err c fs → sup c t = some b → OiX.rIsiX X.K [v, t.v X.K] H1 Q := fun c fs hd q2 => by
      subst hd
      obtain ⟨E, kk⟩ := hs.ok c t b q2
      cases r1 with
      | @err a _ dx _ φ eG eφ rx =>
        refine .inr ⟨a, _, _, _, b, dx, φ, rfl, tv, R1.G _ _ eG, eφ, fun dd e => ?_, E, kk, fin⟩
        cases rx with
        | nil => cases e
        | @cons d2 vs _ h0 h1 h2 h3 => cases e; exact ⟨vs, R1.G _ _ h1⟩
    rcases isiX_cases (sup := sup) (t := t) (d := d) with e | ⟨c, f, w, rfl, e⟩
    · rw [e] at q
      rcases isiO_kind q with ⟨c, rfl, q2⟩ | ⟨T, n, rfl, q2, q3⟩
      · exact err c _ rfl q2
      · exact .inl ⟨v, _, _, _, b, rfl, tv, r1.tyx R1.G q2, kit_ty q3, fin⟩
    · rw [e] at q
      exact err c _ rfl q
theorem de_isiX {T : String} {m : M D} (hs : SupOk X.K sup) (hm : X.mg "isinstance" = none) (hmT : X.mg x = none) (hv : bootBuiltins x = some (.type T)) (he : DE X W e m) (hg : Gl X "isinstance" := by rfl) (hgT : Gl X x := by rfl)
    (h1 : starEach [e, .Name x p2] X.env = (false, eval e X.env) :: starEach [.Name x p2] X.env := by rfl) (h2 : starEach [.Name x p2] X.env = (false, eval (.Name x p2) X.env) :: starEach [] X.env := by rfl)
    (hn : x ≠ "__name__" := by decide) (hd : (x == ("__debug__" : Str)) = false := by decide) (hpl : (backTo pos (starEach [.Name x p2] X.env)).any (·.1) = false := by rfl) :
    DE X W (.Call (.Name "isinstance" p) [e, .Name x p2] [] pos) (mIsiX sup (.b T) m) :=
  PE_mono (pe_callB OiX.call_isiX hg hm (by kernel_rfl) (pa_cons he (pa_cons (pe_bltn hgT hmT hv (show RelV (.ty T) (.type T) from rfl) hn hd) pa_nil h2) h1) (he := h1) (hpl := hpl)) fun _ _ _ h => rd_isiX hs h
theorem de_isiXC {m : M D} (hs : SupOk X.K sup) (hm : X.mg "isinstance" = none) (hmT : X.mg x = some (.ref (He.ga X.K x))) (he : DE X W e m) (hg : Gl X "isinstance" := by rfl) (hgT : Gl X x := by rfl)
    (h1 : starEach [e, .Name x p2] X.env = (false, eval e X.env) :: starEach [.Name x p2] X.env := by rfl) (h2 : starEach [.Name x p2] X.env = (false, eval (.Name x p2) X.env) :: starEach [] X.env := by rfl)
    (hd : (x == ("__debug__" : Str)) = false := by decide) (hpl : (backTo pos (starEach [.Name x p2] X.env)).any (·.1) = false := by rfl) :
    DE X W (.Call (.Name "isinstance" p) [e, .Name x p2] [] pos) (mIsiX sup (.own x) m) :=
  PE_mono (pe_callB OiX.call_isiX hg hm (by kernel_rfl) (pa_cons he (pa_cons (pe_glob hgT hmT (show RelV (.ref (He.ga X.K x)) (.ref (He.ga X.K x)) from rfl) hd) pa_nil h2) h1) (he := h1) (hpl := hpl)) fun _ _ _ h => rd_isiX hs h
end
end DL
namespace DL
open PySem PySem.Spec PyProof.Rows L2
mutual
def conB (K : PySem.W.Frag) : D → Value → Bool
  | .non, .none => true
  | .bl b, .bool c => b == c
  | .int i, .int j _ => decide (i = j)
  | .str x, .str y _ => decide (x = y)
  | .tup ds, .ref a => match K.lookup a with
    | some ⟨cls, none, .seq its n, sl⟩ => decide (cls = .type "tuple") && (Nat.ble its.size sizeLine && consB K ds its.toList)
    | _ => false
  | .lst ds, .ref a => match K.lookup a with
    | some ⟨cls, none, .seq its n, sl⟩ => decide (cls = .type "list") && (Nat.ble its.size sizeLine && consB K ds its.toList)
    | _ => false
  | .kdic kvs, .ref a => match K.lookup a with
    | some ⟨cls, none, .dict es ep, sl⟩ => decide (cls = .type "dict") && (sl.isEmpty && (Nat.ble kvs.length 1000 && (!(a == sysModules) && (decide (kvs.map (·.1)).Nodup && conkB K kvs es.toList))))
    | _ => false
  | _, _ => false
def consB (K : PySem.W.Frag) : List D → List Value → Bool
  | [], [] => true
  | d :: ds, v :: vs => conB K d v && consB K ds vs
  | _, _ => false
def conkB (K : PySem.W.Frag) : List (Key × D) → List DictEntry → Bool
  | [], [] => true
  | (k, d) :: ds, e :: es => keyIs k e.key && (conB K d e.val && conkB K ds es)
  | _, _ => false
end
def hashesOf (K : PySem.W.Frag) : D → Value → List Int
  | .kdic _, .ref a => match K.lookup a with
    | some ⟨_, _, .dict es _, _⟩ => es.toList.map (·.hash)
    | _ => []
  | _, _ => []
def hashesD (w : World) : D → List Int
  | .kdic kvs => kvs.map fun kv => keyH w kv.1
  | _ => []
mutual
def noK : D → Bool
  | .tup ds => noKs ds
  | .lst ds => noKs ds
  | .kdic _ => false
  | _ => true
def noKs : List D → Bool
  | [] => true
  | d :: ds => noK d && noKs ds
end
def flatK : D → Bool
  | .kdic kvs => kvs.all fun kv => noK kv.2
  | d => noK d
section
variable {C : Cw} {G : Hp} {al : Nat ⊕ Nat → Option Addr}
end
def isTab : Obj → Bool
  | ⟨.none, none, .fields vs, sl⟩ => vs.isEmpty && sl.isEmpty
  | _ => false
theorem isTab_ok {o : Obj} (h : isTab o = true) : o = { cls := .none, data := .fields #[] } := by
  unfold isTab at h
  split at h
  · rename_i vs sl
    obtain ⟨h1, h2⟩ := Bool.and_eq_true_iff.mp h
    have e1 : vs = #[] := by simpa using h1
    have e2 : sl = #[] := by simpa using h2
    rw [e1, e2]
  · cases h
def nt (g : Addr → Option Obj) (a : Addr) : Option Obj := match g a with
  | some o => if isTab o = true then none else some o
  | none => none
def kX (n : Nat) (g : Addr → Option Obj) : PySem.W.Frag := He.frG (nt g) (cStatics :: sysModules :: He.asD g n)
theorem kX_in {n : Nat} {h : Heap} : (kX n h.get?).In h := fun a o e => by
  have e2 : nt h.get? a = some o := He.frG_at _ e
  unfold nt at e2
  cases q : h.get? a with
  | none => rw [q] at e2; cases e2
  | some u =>
    rw [q] at e2
    by_cases c : isTab u = true
    · simp only [c, if_true] at e2
      cases e2
    · simp only [c] at e2
      exact e2
theorem kX_tab {n : Nat} {g : Addr → Option Obj} {a : Addr} {o : Obj} (e : g a = some o) (h : isTab o = true) : (kX n g).lookup a = none := by
  cases q : (kX n g).lookup a with
  | none => rfl
  | some u =>
    have e2 : nt g a = some u := He.frG_at _ q
    unfold nt at e2
    rw [e] at e2
    simp only [h, if_true] at e2
    cases e2
def codeAd (K : PySem.W.Frag) (x : Str) : Addr := match K.lookup (He.ga K x) with
  | some ⟨_, _, .func fd, _⟩ => (match fd.code with | .ref c => c | _ => 0)
  | _ => 0
def tabAd (K : PySem.W.Frag) (x : Str) : Addr := match K.lookup (codeAd K x) with
  | some ⟨_, _, .fields vs, _⟩ => (match (vs[11]? : Option Value) with | some (.ref P) => P | _ => 0)
  | _ => 0
structure InitA where
  x : Str
  f : Str
  file : Str
  qual : Str
  params : Arguments
  body : List Stmt
  scope : Scope
abbrev InW : Type := Option (Str × Arguments × FuncBody × Scope × Addr × Addr × Value)
def initW (K : PySem.W.Frag) (i : InitA) : InW := match K.lookup (He.ma K (He.ga K i.x) "__init__") with
  | some ⟨_, _, .func fd, _⟩ => some (fd.qualname, fd.params, fd.body, fd.scope, fd.globals, fd.builtins, fd.defaults)
  | _ => none
def InitA.val (i : InitA) : InW := some (i.qual, i.params, .stmts i.body, i.scope, mainGlobals, builtinsNs, .none)
def oexB (K : PySem.W.Frag) (C : Addr) : Bool := match K.lookup C with
  | some ⟨.type "type", _, .cls cd, sl⟩ => (match cd.mro, sl.toList with
    | .ref C' :: bm, [_, _, _, _, some (.builtin n), _] => C' == C && (n == "ValueError.__new__" && (!cd.hasDel && (PySem.HandSPX.refsVE bm && cd.hasDict)))
    | _, _ => false)
  | _ => false
theorem oexB_ok {K : PySem.W.Frag} {C : Addr} (q : oexB K C = true) : ∃ nm q N bs bm sn sub ab col dd k0 k1 k2 k3 k5, K.lookup C = some (excClassObj nm q C N bs bm true sn sub ab col dd k0 k1 k2 k3 k5 "ValueError.__new__") ∧ PySem.HandSPX.refsVE bm = true := by
  unfold oexB at q
  split at q
  · rename_i dd cd sl ho
    split at q
    · rename_i C' bm k0 k1 k2 k3 n k5 hm hs
      simp only [Bool.and_eq_true, beq_iff_eq, Bool.not_eq_true'] at q
      obtain ⟨rfl, rfl, hdel, hr, hdd⟩ := q
      obtain ⟨nm, bs, mro, ns, qn, hd, sn, sub, ab, col, del⟩ := cd
      dsimp only at hm hdel hdd
      subst hm hdel hdd
      have hsl : sl = #[k0, k1, k2, k3, some (.builtin "ValueError.__new__"), k5] := by
        obtain ⟨l⟩ := sl
        simp only at hs
        rw [hs]
      subst hsl
      exact ⟨_, _, _, _, _, _, _, _, _, _, _, _, _, _, _, ho, hr⟩
    · cases q
  · cases q
def codeFileB (K : PySem.W.Frag) (v : Value) (file : Str) : Bool := match v with
  | .ref a => (match K.lookup a with
    | some ⟨_, _, .fields vs, _⟩ => (match (vs[2]? : Option Value) with
      | some (.str y _) => decide (y = file)
      | _ => false)
    | _ => false)
  | _ => false
def cellB (K : PySem.W.Frag) (cl : List (Str × Addr)) (C : Addr) : Bool := match cl.lookup ("__class__" : Str) with
  | some cc => (match K.lookup cc with
    | some ⟨_, _, .cell (some (.ref D)), _⟩ => decide (D = C)
    | _ => false)
  | none => false
def initFB (K : PySem.W.Frag) (i : InitA) : Bool := match K.lookup (He.ma K (He.ga K i.x) "__init__") with
  | some ⟨_, _, .func fd, _⟩ => PySem.W.codeIn K fd.code fd.qualname && (codeFileB K fd.code i.file && cellB K fd.closure (He.ga K i.x))
  | _ => false
def initAt (K : PySem.W.Frag) (i : InitA) : Bool :=
  oexB K (He.ga K i.x) && (He.eqO (PySem.W.findIn K (.ref (He.ga K i.x)) "__setattr__") (some (some (.builtin "object.__setattr__"))) && (decide (PySem.W.subIn K (.ref (He.ga K i.x)) (.type "BaseException") = some true) && (decide (PySem.W.typeIn K (.ref (He.ga K i.x)) = some (.type "type")) &&
    (PySem.W.keepIn K (.ref (He.ga K i.x)) && (He.eqO (PySem.W.findIn K (.ref (He.ga K i.x)) "__init__") (some (some (.ref (He.ma K (He.ga K i.x) "__init__")))) && (decide (PySem.W.typeIn K (.ref (He.ma K (He.ga K i.x) "__init__")) = some (.type "function")) && (initFB K i &&
      (He.eqO (PySem.W.ks_superIn K (He.ga K i.x) (He.ga K i.x) "__init__") (some (some (.builtin "ValueError.__init__"))) && (decide (PySem.W.subIn K (.ref (He.ga K i.x)) (.type "ValueError") = some true) && (decide (PySem.W.mroIn K (He.ga K i.x) (.ref (He.ga K i.x)) = some true) &&
        (He.eqO (PySem.W.nsIn K cStatics "thirdparty.any") (some none) && (He.eqO (PySem.W.findIn K (.ref (He.ga K i.x)) i.f) (some none) && He.eqO (PySem.W.nsIn K mainGlobals "super") (some none)))))))))))))
structure InitOk (K : PySem.W.Frag) (i : InitA) : Prop where
  keep : PySem.W.keepIn K (.ref (He.ga K i.x)) = true
  fn : ∃ fd : FuncData, fd.qualname = i.qual ∧ fd.params = i.params ∧ fd.body = .stmts i.body ∧ fd.scope = i.scope ∧ fd.defaults = .none ∧
    ∀ (P : Program) (lit : Str), ((P.main.file : Str) == i.file) = true → (P.main.scope.names.lookup ("super" : Str)).isSome = false → OiX.Fn P K (He.ga K i.x) (He.ma K (He.ga K i.x) "__init__") fd lit i.f
theorem initOk_of {K : PySem.W.Frag} {i : InitA} (h : initAt K i = true) (e : initW K i = i.val) : InitOk K i := by
  unfold initAt at h
  simp only [Bool.and_eq_true, decide_eq_true_eq] at h
  obtain ⟨h1, h2, h3, h4, h5, h6, h7, h8, h9, h10, h11, h12, h13, h14⟩ := h
  refine ⟨h5, ?_⟩
  unfold initFB at h8
  unfold initW InitA.val at e
  split at h8
  · rename_i oc od fd osl q
    rw [q] at e
    simp only [Option.some.injEq, Prod.mk.injEq] at e
    obtain ⟨e1, e2, e3, e4, e5, e6, e7⟩ := e
    simp only [Bool.and_eq_true] at h8
    obtain ⟨g1, g2, g3⟩ := h8
    refine ⟨fd, e1, e2, e3, e4, e7, fun P lit hP hT => ⟨⟨oexB_ok h1, He.eqO_ok h2, h3, h4, h5⟩, He.eqO_ok h6, h7, ⟨oc, od, osl, q⟩, e5, e6, g1, ?_, ?_, He.eqO_ok h9, h10, h11, He.eqO_ok h12, He.eqO_ok h13, He.eqO_ok h14, hT⟩⟩
    · unfold codeFileB at g2
      split at g2
      · rename_i a ea
        split at g2
        · rename_i c1 c2 vs c3 ql
          split at g2
          · rename_i y ty hy
            have : y = i.file := of_decide_eq_true g2
            exact ⟨a, c1, c2, vs, c3, y, ty, by assumption, ql, hy, this ▸ hP⟩
          · cases g2
        · cases g2
      · cases g2
    · unfold cellB at g3
      split at g3
      · rename_i cc hc
        split at g3
        · rename_i c1 c2 D c3 ql
          have : D = He.ga K i.x := of_decide_eq_true g3
          subst this
          exact ⟨cc, c1, c2, c3, hc, ql⟩
        · cases g3
      · cases g3
  · cases h8
def mroL (K : PySem.W.Frag) (c : Str) : List Value := if c = "BuildError" then .ref (He.ga K c) :: He.veBase else .ref (He.ga K c) :: .ref (He.ga K "BuildError") :: He.veBase
def mroAt (K : PySem.W.Frag) (c : Str) : Bool := match PySem.W.clsIn K (He.ga K c) with
  | some cd => decide (cd.mro = mroL K c) && decide (PySem.W.typeIn K (.ref (He.ga K c)) = some (.type "type"))
  | none => false
def incr : List Nat → Bool
  | a :: b :: r => Nat.blt a b && incr (b :: r)
  | _ => true
theorem incr_lt : ∀ {l : List Nat} {a : Nat}, incr (a :: l) = true → ∀ b ∈ l, a < b
  | [], _, _, _, h => nomatch h
  | c :: r, a, h, b, hb => by
    obtain ⟨h1, h2⟩ := Bool.and_eq_true_iff.mp (show (Nat.blt a c && incr (c :: r)) = true from h)
    have h4 : a + 1 ≤ c := by simpa [Nat.blt] using h1
    have h3 : a < c := by omega
    rcases List.mem_cons.mp hb with rfl | hb
    · exact h3
    · exact Nat.lt_trans h3 (incr_lt h2 b hb)
theorem incr_tail : ∀ {l : List Nat} {a : Nat}, incr (a :: l) = true → incr l = true
  | [], _, _ => rfl
  | c :: r, a, h => (Bool.and_eq_true_iff.mp (show (Nat.blt a c && incr (c :: r)) = true from h)).2
theorem incr_inj {f : Str → Nat} : ∀ {l : List Str}, incr (l.map f) = true → ∀ x ∈ l, ∀ y ∈ l, f x = f y → x = y
  | [], _, _, h, _, _, _ => nomatch h
  | a :: r, h, x, hx, y, hy, e => by
    rw [List.map_cons] at h
    have lt := incr_lt h
    rcases List.mem_cons.mp hx with rfl | hx
    · rcases List.mem_cons.mp hy with rfl | hy
      · rfl
      · have := lt (f y) (List.mem_map_of_mem hy)
        omega
    · rcases List.mem_cons.mp hy with rfl | hy
      · have := lt (f x) (List.mem_map_of_mem (by assumption))
        omega
      · exact incr_inj (incr_tail h) x hx y hy e
def fldAt (K : PySem.W.Frag) (p : Str × Str) : Bool := xfB K (He.ga K p.1) && He.eqO (PySem.W.findIn K (.ref (He.ga K p.1)) p.2) (some none)
structure Ask where
  cons : List (Str × D)
  sups : List (Str × Ty × Bool)
  tabs : List (Str × Str)
  inits : List InitA := []
  flds : List (Str × Str) := []
  clss : List Str := []
def exccB (K : PySem.W.Frag) (a : Addr) : Bool :=
  He.eqO (PySem.W.findIn K (.ref a) "__getattribute__") (some (some (.builtin "BaseException.__getattribute__"))) && (He.eqO (PySem.W.findIn K (.ref a) "__getattr__") (some none) && (decide (PySem.W.subIn K (.ref a) (.type "BaseException") = some true) && (PySem.W.hasDictIn K a &&
    (He.eqO (PySem.W.findIn K (.ref a) "__class__") (some (some (.builtin "object.__class__"))) && (He.eqO (PySem.W.specialIn K (.builtin "object.__class__") "__get__") (some (some (.builtin "getset_descriptor.__get__"))) && (decide (PySem.W.takesIn K (.builtin "object.__class__") = some true) && decide (PySem.W.mroIn K a (.type "object") = some true)))))))
theorem exccB_ok {K : PySem.W.Frag} {a : Addr} (h : exccB K a = true) : ExcC K a := by
  obtain ⟨h1, h⟩ := Bool.and_eq_true_iff.mp h
  obtain ⟨h2, h⟩ := Bool.and_eq_true_iff.mp h
  obtain ⟨h3, h⟩ := Bool.and_eq_true_iff.mp h
  obtain ⟨h4, h⟩ := Bool.and_eq_true_iff.mp h
  obtain ⟨h5, h⟩ := Bool.and_eq_true_iff.mp h
  obtain ⟨h6, h⟩ := Bool.and_eq_true_iff.mp h
  obtain ⟨h7, h8⟩ := Bool.and_eq_true_iff.mp h
  exact ⟨He.eqO_ok h1, He.eqO_ok h2, of_decide_eq_true h3, h4, He.eqO_ok h5, He.eqO_ok h6, of_decide_eq_true h7, of_decide_eq_true h8⟩
structure ClsOk (K : PySem.W.Frag) (l : List Str) : Prop where
  ok : ∀ c ∈ l, ExcC K (He.ga K c) ∧ PySem.W.typeIn K (.ref (He.ga K c)) = some (.type "type") ∧ ∃ cd, PySem.W.clsIn K (He.ga K c) = some cd ∧ cd.mro = mroL K c
  inj : ∀ x ∈ l, ∀ y ∈ l, He.ga K x = He.ga K y → x = y
def clsB (K : PySem.W.Frag) (l : List Str) : Bool := l.all (fun c => exccB K (He.ga K c) && mroAt K c) && incr (l.map (He.ga K))
theorem clsB_ok {K : PySem.W.Frag} {l : List Str} (h : clsB K l = true) : ClsOk K l := by
  obtain ⟨h1, h2⟩ := Bool.and_eq_true_iff.mp h
  refine ⟨fun c hc => ?_, incr_inj h2⟩
  obtain ⟨a1, a2⟩ := Bool.and_eq_true_iff.mp (List.all_eq_true.mp h1 c hc)
  unfold mroAt at a2
  split at a2
  · rename_i cd q
    obtain ⟨b1, b2⟩ := Bool.and_eq_true_iff.mp a2
    exact ⟨exccB_ok a1, of_decide_eq_true b2, cd, q, of_decide_eq_true b1⟩
  · cases a2
theorem ClsOk.ve {K : PySem.W.Frag} {l : List Str} (h : ClsOk K l) {c : Str} (hc : c ∈ l) : PySem.W.kitOne K (.ref (He.ga K c)) (.type "ValueError") = some true := by
  obtain ⟨_, _, cd, h2, h3⟩ := h.ok c hc
  have e1 : (Value.ref (He.ga K c) == Value.type "ValueError") = false := rfl
  unfold PySem.W.kitOne
  rw [if_neg (by rw [e1]; decide)]
  unfold PySem.W.kitCls
  simp only [show PySem.W.kitMeta "ValueError" = true by decide +kernel, if_true]
  show PySem.W.mroIn K (He.ga K c) (.type "ValueError") = some true
  unfold PySem.W.mroIn
  rw [h2, Option.bind_some, h3]
  unfold mroL
  split <;> simp [He.veBase]
theorem ClsOk.own {K : PySem.W.Frag} {l : List Str} (h : ClsOk K l) (hb : ("BuildError" : Str) ∈ l) {c x : Str} (hc : c ∈ l) (hx : x ∈ l) : PySem.W.kitOne K (.ref (He.ga K c)) (.ref (He.ga K x)) = some (decide (c = x) || decide (x = "BuildError")) := by
  obtain ⟨_, _, cd, h2, h3⟩ := h.ok c hc
  obtain ⟨_, t1, cx, t2, t3⟩ := h.ok x hx
  unfold PySem.W.kitOne
  by_cases e : c = x
  · subst e
    rw [if_pos (by simp)]
    simp
  · have ne : He.ga K c ≠ He.ga K x := fun z => e (h.inj c hc x hx z)
    rw [if_neg (by simpa using ne)]
    unfold PySem.W.kitCls
    simp only [t2, t1, Option.isSome_some, Bool.true_and, beq_self_eq_true, if_true]
    show PySem.W.mroIn K (He.ga K c) (.ref (He.ga K x)) = _
    unfold PySem.W.mroIn
    rw [h2, Option.bind_some, h3]
    unfold mroL
    have e1 : decide (c = x) = false := decide_eq_false e
    rw [e1, Bool.false_or]
    by_cases f : x = "BuildError"
    · subst f
      rw [if_neg e]
      simp [He.veBase]
    · have nb : He.ga K x ≠ He.ga K "BuildError" := fun z => f (h.inj x hx _ hb z)
      rw [decide_eq_false f]
      have ne2 : He.ga K x ≠ He.ga K c := fun z => ne z.symm
      split <;> simp [He.veBase, nb, ne2]
def conAt (K : PySem.W.Frag) (p : Str × D) : Bool := match PySem.W.nsIn K mainGlobals p.1 with
  | some (some v) => conB K p.2 v && flatK p.2
  | _ => false
def conHs (K : PySem.W.Frag) (p : Str × D) : List Int := match PySem.W.nsIn K mainGlobals p.1 with
  | some (some v) => hashesOf K p.2 v
  | _ => []
def supAt (K : PySem.W.Frag) (q : Str × Ty × Bool) : Bool := exccB K (He.ga K q.1) && decide (PySem.W.kitOne K (.ref (He.ga K q.1)) (q.2.1.val K) = some q.2.2)
def tabAt (K : PySem.W.Frag) (g : Addr → Option Obj) (x : Str) : Bool := (match K.lookup (He.ga K x) with
  | some ⟨_, _, .func fd, _⟩ => decide (fd.code = .ref (codeAd K x))
  | _ => false) && (PySem.W.codeHdIn K (codeAd K x) (tabAd K x) && (match g (tabAd K x) with
  | some o => isTab o
  | none => false))
def sysAt (K : PySem.W.Frag) : Bool := match K.lookup sysModules with
  | some o => decide (o.cls = .type "dict")
  | none => false
def askB (A : Ask) (K : PySem.W.Frag) (g : Addr → Option Obj) : Bool :=
  A.cons.all (conAt K) && (A.sups.all (supAt K) && (A.tabs.all (fun t => tabAt K g t.1) && (decide (A.tabs.map fun t => tabAd K t.1).Nodup && (sysAt K && (A.inits.all (initAt K) && (A.flds.all (fldAt K) && clsB K A.clss))))))
structure AskOk (A : Ask) (w : World) (K : PySem.W.Frag) (h : Heap) : Prop where
  cons : ∀ p ∈ A.cons, ∃ v, PySem.W.nsIn K mainGlobals p.1 = some (some v) ∧ conB K p.2 v = true ∧ flatK p.2 = true ∧ hashesOf K p.2 v = hashesD w p.2
  sups : ∀ q ∈ A.sups, ExcC K (He.ga K q.1) ∧ PySem.W.kitOne K (.ref (He.ga K q.1)) (q.2.1.val K) = some q.2.2
  tabs : ∀ t ∈ A.tabs, (∃ oc od fd osl, K.lookup (He.ga K t.1) = some ⟨oc, od, .func fd, osl⟩ ∧ fd.code = .ref (codeAd K t.1)) ∧ PySem.W.CodeHd h (codeAd K t.1) (tabAd K t.1) ∧ h.get? (tabAd K t.1) = some { cls := .none, data := .fields #[] } ∧ K.lookup (tabAd K t.1) = none
  nd : (A.tabs.map fun t => tabAd K t.1).Nodup
  sys : ∃ o, K.lookup sysModules = some o ∧ o.cls = .type "dict"
  inits : ∀ i ∈ A.inits, InitOk K i
  flds : ∀ p ∈ A.flds, XfC K (He.ga K p.1) ∧ PySem.W.findIn K (.ref (He.ga K p.1)) p.2 = some none
  clss : ClsOk K A.clss
abbrev AlX : Type := Bool × He.AlD × List (List Int) × List InW
def obsX (n : Nat) (fa : List He.Fa) (fn : List He.DefD) (A : Ask) (g : Addr → Option Obj) : AlX := (fun K => (askB A K g, He.obsD fa fn K, A.cons.map (conHs K), A.inits.map (initW K))) (kX n g)
def valX (fn : List He.DefD) (A : Ask) (w : World) : AlX := (true, He.valD fn, A.cons.map (fun p => hashesD w p.2), A.inits.map InitA.val)
def SaysX (fa : List He.Fa) (fn : List He.DefD) (A : Ask) (w : World) (h : Heap) : Prop := ∃ K : PySem.W.Frag, K.In h ∧ He.SaysD fa fn K ∧ AskOk A w K h
theorem saysX_of {n : Nat} {fa : List He.Fa} {fn : List He.DefD} {A : Ask} {w : World} {h : Heap} (e : obsX n fa fn A h.get? = valX fn A w) : SaysX fa fn A w h := by
  have e1 : askB A (kX n h.get?) h.get? = true := congrArg (fun z : AlX => z.1) e
  have e2 : He.obsD fa fn (kX n h.get?) = He.valD fn := congrArg (fun z : AlX => z.2.1) e
  have e3 : A.cons.map (conHs (kX n h.get?)) = A.cons.map fun p => hashesD w p.2 := congrArg (fun z : AlX => z.2.2.1) e
  have e4 : A.inits.map (initW (kX n h.get?)) = A.inits.map InitA.val := congrArg (fun z : AlX => z.2.2.2) e
  refine ⟨kX n h.get?, kX_in, e2, ?_⟩
  unfold askB at e1
  obtain ⟨c1, e1⟩ := Bool.and_eq_true_iff.mp e1
  obtain ⟨c2, e1⟩ := Bool.and_eq_true_iff.mp e1
  obtain ⟨c3, e1⟩ := Bool.and_eq_true_iff.mp e1
  obtain ⟨c4, e1⟩ := Bool.and_eq_true_iff.mp e1
  obtain ⟨c5, e1⟩ := Bool.and_eq_true_iff.mp e1
  obtain ⟨c6, e1⟩ := Bool.and_eq_true_iff.mp e1
  obtain ⟨c7, c8⟩ := Bool.and_eq_true_iff.mp e1
  refine ⟨fun p hp => ?_, fun q hq => ?_, fun t ht => ?_, of_decide_eq_true c4, ?_, fun i hi => ?_, fun p hp => ?_, clsB_ok c8⟩
  · have h1 := List.all_eq_true.mp c1 p hp
    have h2 : conHs (kX n h.get?) p = hashesD w p.2 := by
      have : ∀ l : List (Str × D), l.map (conHs (kX n h.get?)) = l.map (fun p => hashesD w p.2) → ∀ p ∈ l, conHs (kX n h.get?) p = hashesD w p.2 := by
        intro l
        induction l with
        | nil => intro _ p hp; cases hp
        | cons a l ih =>
          intro e p hp
          rw [List.map_cons, List.map_cons] at e
          injection e with e1 e2
          rcases List.mem_cons.mp hp with rfl | hp
          · exact e1
          · exact ih e2 p hp
      exact this _ e3 p hp
    unfold conAt at h1
    unfold conHs at h2
    split at h1
    · rename_i v q
      rw [q] at h2
      obtain ⟨a1, a2⟩ := Bool.and_eq_true_iff.mp h1
      exact ⟨v, q, a1, a2, h2⟩
    · cases h1
  · have h1 := List.all_eq_true.mp c2 q hq
    obtain ⟨a1, a2⟩ := Bool.and_eq_true_iff.mp h1
    exact ⟨exccB_ok a1, of_decide_eq_true a2⟩
  · have h1 := List.all_eq_true.mp c3 t ht
    unfold tabAt at h1
    obtain ⟨a1, a2⟩ := Bool.and_eq_true_iff.mp h1
    obtain ⟨a3, a4⟩ := Bool.and_eq_true_iff.mp a2
    refine ⟨?_, PySem.W.codeHd_of_K kX_in a3, ?_, ?_⟩
    · split at a1
      · rename_i oc od fd osl q
        exact ⟨oc, od, fd, osl, q, of_decide_eq_true a1⟩
      · cases a1
    · split at a4
      · rename_i o q
        rw [q, isTab_ok a4]
      · cases a4
    · split at a4
      · rename_i o q
        exact kX_tab q a4
      · cases a4
  · unfold sysAt at c5
    split at c5
    · rename_i o q
      exact ⟨o, q, of_decide_eq_true c5⟩
    · cases c5
  · refine initOk_of (List.all_eq_true.mp c6 i hi) ?_
    have : ∀ l : List InitA, l.map (initW (kX n h.get?)) = l.map InitA.val → ∀ i ∈ l, initW (kX n h.get?) i = i.val := by
      intro l
      induction l with
      | nil => intro _ i hi; cases hi
      | cons a l ih =>
        intro e i hi
        rw [List.map_cons, List.map_cons] at e
        injection e with e1 e2
        rcases List.mem_cons.mp hi with rfl | hi
        · exact e1
        · exact ih e2 i hi
    exact this _ e4 i hi
  · have h1 := List.all_eq_true.mp c7 p hp
    unfold fldAt at h1
    obtain ⟨a1, a2⟩ := Bool.and_eq_true_iff.mp h1
    exact ⟨xfB_ok a1, He.eqO_ok a2⟩
def hookX (n : Nat) (fa : List He.Fa) (fn : List He.DefD) (A : Ask) : PySem.W.Hook where
  α := AlX
  obs := fun s => obsX n fa fn A s.heap.get?
  val := fun w => valX fn A w
  says := fun w h => SaysX fa fn A w h
  of := fun _ _ e => saysX_of e
  keeps := fun _ _ _ ⟨K, hK, c, a⟩ k => ⟨K, PySem.W.Frag.In.keeps hK k, c, a.cons, a.sups, fun t ht => by
    obtain ⟨h1, h2, h3, h4⟩ := a.tabs t ht
    exact ⟨h1, h2.keeps k, k _ _ h3, h4⟩, a.nd, a.sys, a.inits, a.flds, a.clss⟩
theorem obsX_eq {n : Nat} {fa : List He.Fa} {fn : List He.DefD} {A : Ask} {g : Addr → Option Obj} {s : Shared} (h : ∀ a, g a = s.heap.get? a) : obsX n fa fn A g = (hookX n fa fn A).obs s := by
  have e : g = s.heap.get? := funext h
  rw [e] <;> rfl
end DL
set_option maxHeartbeats 0
namespace HK
open PySem PySem.Spec PyProof.Rows L2 DL
def top (i : Nat) : Stmt := PySem.Challenge.pw_manybuilds_k06_errors_made_and_bases.main.body.getD i (.Pass ⟨0, 0, 0, 0⟩)
def clsInit : Stmt → Stmt
  | .ClassDef _ _ _ b _ _ _ _ _ _ _ => b.getD 0 (.Pass ⟨0, 0, 0, 0⟩)
  | s => s
def dOf (i : Nat) (x : Str) : He.DefD := ⟨(x, none), x, x, defArgs (top i), defBody (top i), defScope (top i), [], []⟩
def fn : List He.DefD := ([dOf 52 "_law_begun", dOf 53 "_law_mixed", dOf 54 "_law_take", dOf 55 "_law_pick", dOf 56 "_law_plain_errors", dOf 57 "_law_told_errors", dOf 58 "_law_classes", dOf 59 "law"] : List He.DefD)
def fa : List He.Fa := ([.glo "_law_begun", .glo "_law_mixed", .glo "_law_take", .glo "_law_pick", .glo "_law_plain_errors", .glo "_law_told_errors", .glo "_law_classes", .glo "law", .glo "BadAct", .glo "BadChosen", .glo "BadCondition", .glo "BadCosts", .glo "BadCube", .glo "BadEdit", .glo "BadExpression", .glo "BadFork", .glo "BadForm", .glo "BadHouse", .glo "BadIndex", .glo "BadInterface"] : List He.Fa) ++ ([.glo "BadInterfaces", .glo "BadLine", .glo "BadLot", .glo "BadLots", .glo "BadMeasure", .glo "BadMost", .glo "BadMove", .glo "BadNames", .glo "BadNumber", .glo "BadNumbers", .glo "BadPart", .glo "BadParts", .glo "BadPatch", .glo "BadPath", .glo "BadRow", .glo "BadRows", .glo "BadSetting", .glo "BadStep", .glo "BadSwitch", .glo "BadTable"] : List He.Fa) ++ ([.glo "BadTerm", .glo "BadText", .glo "BadTold", .glo "BuildError", .glo "Caught", .glo "Clash", .glo "Clashing", .glo "LastSwitch", .glo "Mixed", .glo "NotAlike", .glo "NotEnough", .glo "NotGiven", .glo "NotRight", .glo "NotTold", .glo "NothingDone", .glo "NothingUndone", .glo "TooMany", .glo "Unfit", .free "ValueError", .free "abs"] : List He.Fa) ++ ([.free "enumerate", .free "int", .free "isinstance", .free "len", .free "repr", .free "set", .exc "BadAct", .exc "BadChosen", .exc "BadCondition", .exc "BadCosts", .exc "BadCube", .exc "BadEdit", .exc "BadExpression", .exc "BadFork", .exc "BadForm", .exc "BadHouse", .exc "BadIndex", .exc "BadInterface", .exc "BadInterfaces", .exc "BadLine"] : List He.Fa) ++ ([.exc "BadLot", .exc "BadLots", .exc "BadMeasure", .exc "BadMost", .exc "BadMove", .exc "BadNames", .exc "BadNumber", .exc "BadNumbers", .exc "BadPart", .exc "BadParts", .exc "BadPatch", .exc "BadPath", .exc "BadRow", .exc "BadSetting", .exc "BadStep", .exc "BadSwitch", .exc "BadTable", .exc "BadTerm", .exc "BadText", .exc "BadTold"] : List He.Fa) ++ ([.exc "BuildError", .exc "LastSwitch", .exc "NotAlike", .exc "NotEnough", .exc "NotGiven", .exc "NotRight", .exc "NothingDone", .exc "NothingUndone", .exc "Unfit"] : List He.Fa)
def supC : List Str := (["BuildError", "BadAct", "BadChosen", "BadCondition", "BadCosts", "BadCube", "BadEdit", "BadExpression", "BadFork", "BadForm"] : List Str) ++ (["BadHouse", "BadIndex", "BadInterface", "BadInterfaces", "BadLine", "BadLot", "BadLots", "BadMeasure", "BadMost", "BadMove"] : List Str) ++ (["BadNames", "BadNumber", "BadNumbers", "BadPart", "BadParts", "BadPatch", "BadPath", "BadRow", "BadRows", "BadSetting"] : List Str) ++ (["BadStep", "BadSwitch", "BadTable", "BadTerm", "BadText", "BadTold", "Caught", "Clash", "Clashing", "LastSwitch"] : List Str) ++ (["Mixed", "NotAlike", "NotEnough", "NotGiven", "NotRight", "NotTold", "NothingDone", "NothingUndone", "TooMany", "Unfit"] : List Str)
def supT : List Ty := ([.own "BadAct", .own "BadChosen", .own "BadCondition", .own "BadCosts", .own "BadCube", .own "BadEdit", .own "BadExpression", .own "BadFork", .own "BadForm", .own "BadHouse"] : List Ty) ++ ([.own "BadIndex", .own "BadInterface", .own "BadInterfaces", .own "BadLine", .own "BadLot", .own "BadLots", .own "BadMeasure", .own "BadMost", .own "BadMove", .own "BadNames"] : List Ty) ++ ([.own "BadNumber", .own "BadNumbers", .own "BadPart", .own "BadParts", .own "BadPatch", .own "BadPath", .own "BadRow", .own "BadRows", .own "BadSetting", .own "BadStep"] : List Ty) ++ ([.own "BadSwitch", .own "BadTable", .own "BadTerm", .own "BadText", .own "BadTold", .own "BuildError", .own "Caught", .own "Clash", .own "Clashing", .own "LastSwitch"] : List Ty) ++ ([.own "Mixed", .own "NotAlike", .own "NotEnough", .own "NotGiven", .own "NotRight", .own "NotTold", .own "NothingDone", .own "NothingUndone", .own "TooMany", .own "Unfit"] : List Ty) ++ ([.b "ValueError"] : List Ty)
def supV (c : Str) : Ty → Bool
  | .own x => decide (c = x) || decide (x = "BuildError")
  | .b T => T == "ValueError"
def in_BadRows : InitA := ⟨"BadRows", "at", PySem.Challenge.pw_manybuilds_k06_errors_made_and_bases.main.file, "BadRows.__init__", defArgs (clsInit (top 29)), defBody (clsInit (top 29)), defScope (clsInit (top 29))⟩
def in_Caught : InitA := ⟨"Caught", "path", PySem.Challenge.pw_manybuilds_k06_errors_made_and_bases.main.file, "Caught.__init__", defArgs (clsInit (top 37)), defBody (clsInit (top 37)), defScope (clsInit (top 37))⟩
def in_Clash : InitA := ⟨"Clash", "path", PySem.Challenge.pw_manybuilds_k06_errors_made_and_bases.main.file, "Clash.__init__", defArgs (clsInit (top 38)), defBody (clsInit (top 38)), defScope (clsInit (top 38))⟩
def in_Clashing : InitA := ⟨"Clashing", "setting", PySem.Challenge.pw_manybuilds_k06_errors_made_and_bases.main.file, "Clashing.__init__", defArgs (clsInit (top 39)), defBody (clsInit (top 39)), defScope (clsInit (top 39))⟩
def in_Mixed : InitA := ⟨"Mixed", "x", PySem.Challenge.pw_manybuilds_k06_errors_made_and_bases.main.file, "Mixed.__init__", defArgs (clsInit (top 41)), defBody (clsInit (top 41)), defScope (clsInit (top 41))⟩
def in_NotTold : InitA := ⟨"NotTold", "setting", PySem.Challenge.pw_manybuilds_k06_errors_made_and_bases.main.file, "NotTold.__init__", defArgs (clsInit (top 46)), defBody (clsInit (top 46)), defScope (clsInit (top 46))⟩
def in_TooMany : InitA := ⟨"TooMany", "most", PySem.Challenge.pw_manybuilds_k06_errors_made_and_bases.main.file, "TooMany.__init__", defArgs (clsInit (top 49)), defBody (clsInit (top 49)), defScope (clsInit (top 49))⟩
def ask : Ask := ⟨[], [], [], [in_BadRows, in_Caught, in_Clash, in_Clashing, in_Mixed, in_NotTold, in_TooMany], [("BadRows", "at"), ("Caught", "path"), ("Clash", "path"), ("Clashing", "setting"), ("Mixed", "x"), ("NotTold", "setting"), ("TooMany", "most")], supC⟩
abbrev R : PySem.W.OpenRow := PySem.W.OpenLaw.row PySem.Challenge.rw_manybuilds_k06_errors_made_and_bases
abbrev hk : PySem.W.Hook := hookX 4 fa fn ask
def ob (s : PySem.W.SharedT) : AlX := obsX 4 fa fn ask (HandSHeadRun.getT s)
theorem ob_eq (s : PySem.W.SharedT) : ob s = hk.obs s.abs := obsX_eq (HandSHeadRun.getT_eq s)
def loose : List Str := (["BuildError", "BadAct", "BadChosen", "BadCondition", "BadCosts", "BadCube", "BadEdit", "BadExpression", "BadFork", "BadForm", "BadHouse", "BadIndex"] : List Str) ++ (["BadInterface", "BadInterfaces", "BadLine", "BadLot", "BadLots", "BadMeasure", "BadMost", "BadMove", "BadNames", "BadNumber", "BadNumbers", "BadPart"] : List Str) ++ (["BadParts", "BadPatch", "BadPath", "BadRow", "BadRows", "BadSetting", "BadStep", "BadSwitch", "BadTable", "BadTerm", "BadText", "BadTold"] : List Str) ++ (["Caught", "Clash", "Clashing", "LastSwitch", "Mixed", "NotAlike", "NotEnough", "NotGiven", "NotRight", "NotTold", "NothingDone", "NothingUndone"] : List Str) ++ (["TooMany", "Unfit", "_law_begun", "_law_mixed", "_law_take", "_law_pick", "_law_plain_errors", "_law_told_errors", "_law_classes"] : List Str)
theorem run0 (w : World) : HandSHeadRun.RunEq R (PySem.W.view R.prog [59]) hk ob 20000 loose (w.withFollow "special-get-raises" false) := fun os => by kernel_rfl
theorem run1 (w : World) : HandSHeadRun.RunEq R (PySem.W.view R.prog [59]) hk ob 20000 loose (w.withFollow "special-get-raises" true) := fun os => by kernel_rfl
theorem run (w : World) : HandSHeadRun.RunEq R (PySem.W.view R.prog [59]) hk ob 20000 loose w :=
  PySem.W.byRow2 "special-get-raises" (P := fun w => HandSHeadRun.RunEq R (PySem.W.view R.prog [59]) hk ob 20000 loose w) run0 run1 w
end HK
set_option maxHeartbeats 4000000
namespace DL
open PySem PySem.Spec PyProof.Rows L2
local instance frL : FrI := fr0
variable [LT]
section
variable {P : Program} {w : World} {K : PySem.W.Frag} {mg : Str → Option Value} {base : Heap} {x : Str} {st : Stmt} {f : Addr} {fd : FuncData} {N ps ks : List Str} {n n0 : Nat} {ix : List Nat} {m : M Fl}
abbrev FunE (K : PySem.W.Frag) (x : Str) (st : Stmt) (f : Addr) (fd : FuncData) : Prop := FunD K x x (defArgs st) (defBody st) (defScope st) [] [] f fd
theorem funE_fun (F : FunE K x st f fd) : L2.Fun K x x st f fd := by
  obtain ⟨oc, od, dV, kV, doc, pm, an, cdv, ct, osl, e, lk, hcd, hD, hK⟩ := F.ex
  rcases hD with ⟨_, rfl⟩ | ⟨e, _⟩
  · exact ⟨⟨oc, od, kV, doc, pm, an, cdv, ct, osl, e, lk, hcd⟩, F.kp⟩
  · exact absurd rfl e
theorem stuck_g {CX : CXT} {C : Cw} : FnG P w K mg base CX 0 f fd ps (spD C ps.length (fun _ _ => .stuck)) :=
  ⟨fun vs H Q E h => h.1, fun A outer s H args us vs Q E hr e0 hb r h => by
    obtain ⟨_, k, st, ds, R, k0, r2, p⟩ := h
    exact p.elim⟩
def BindN (st : Stmt) (x : Str) (ps : List Str) : Prop := ∀ (kV doc pm : Value) (an : Option Addr) (cdv ct : Value) (us : List Value), us.length = ps.length → bindArgs (PySem.W.fnOf x x (defArgs st) (defBody st) (defScope st) .none kV doc pm an cdv ct) ⟨us, []⟩ = pure (ps.zip us)
structure FunG (P : Program) (w : World) (K : PySem.W.Frag) (mg : Str → Option Value) (base : Heap) (n : Nat) (x : Str) (st : Stmt) (f : Addr) (fd : FuncData) (ps : List Str) (g : Fd) : Prop where
  F : FunE K x st f fd
  hm : mg x = some (.ref f)
  hb : BindN st x ps
  G : FnG P w K mg base (L2.CX P w) n f fd ps (spD (cwOf P w K) ps.length g)
theorem funG_0 (F : FunE K x st f fd) (hm : mg x = some (.ref f)) (hb : BindN st x ps) : FunG P w K mg base 0 x st f fd ps (fun _ _ => .stuck) := ⟨F, hm, hb, stuck_g⟩
theorem funG_s (F : FunE K x st f fd) (hm : mg x = some (.ref f)) (hb : BindN st x ps) (S : FnScope N ps (defScope st)) (hbody : BodyD P w K mg base n N x (defScope st) f fd.code (defBody st) m) :
    FunG P w K mg base (n + 1) x st f fd ps (runDef N.length m) := ⟨F, hm, hb, fn_d (funE_fun F) S hbody⟩
theorem FunG.callee {g : Fd} (h : FunG P w K mg base n x st f fd ps g) : Callee ⟨P, w, K, mg, base⟩ n x ps g := ⟨f, fd, h.G, h.hm, h.F.kp, FunD.bindsN h.F h.hb⟩
end
section
open Classical
variable {P : Program} {w : World} {K : PySem.W.Frag} {mg mb : Str → Option Value}
noncomputable def hGs (K : PySem.W.Frag) (a : Addr) (o : HO) : Hp := fun b => if K.lookup a = none ∧ b = a then some o else none
noncomputable def hHs (K : PySem.W.Frag) (a : Addr) (o : HO) (ts : List Addr) : Hp := fun b => if K.lookup a = none ∧ b = a then some o else if b ∈ ts then some (.tbl #[]) else none
theorem law_callG {k : Nat} {fa a : Addr} {cs : List (Addr × Addr)} {fd : FuncData} {x : Str} {sp : Sp} {s₁ : Shared} {vs : List Value} {ns : List Int}
    (KX : K.In s₁.heap) (hns : s₁.heap.Ns mainGlobals mg) (hb : s₁.heap.Ns builtinsNs mb) (hbb : ∀ x : Str, x ≠ "__name__" → mb x = bootBuiltins x) (hlim : s₁.heap.NoLimit) (hg : s₁.gens = #[])
    (hT : ∀ p ∈ cs, s₁.heap.get? p.2 = some { cls := .none, data := .fields #[] }) (nT : ∀ p ∈ cs, K.lookup p.2 = none) (C : ∀ p ∈ cs, PySem.W.CodeHd s₁.heap p.1 p.2)
    (hbm : ∃ (bm : Addr) (ob : Obj), mg "__builtins__" = some (.ref bm) ∧ bm ≠ builtinsNs ∧ s₁.heap.get? bm = some ob ∧ ob.cls = .type "module" ∧ ob.dict = some builtinsNs ∧ ob.data = .plain)
    (ha : s₁.heap.get? a = some { cls := .type "list", data := .seq vs.toArray }) (hi : IntsAre vs ns) (hl : ns.length ≤ sizeLine) (hr : RoomG k callerA)
    (F : ∀ base : Heap, K.In base → base.Ns mainGlobals mg → (∀ p ∈ cs, LamX.TabB base mg p.1 p.2) → FnG P w K mg base (L2.CX P w) k fa fd [x] sp) (hbind : ∀ (s : Shared) (u : Value), BindsTo s fd ⟨[u], []⟩ [(x, u)])
    (hsp : ∀ o : HO, a ∉ cs.map (·.2) → SqL K (hGs K a o) a (ns.map V.int) → sp [.ref a] (hHs K a o (cs.map (·.2))) (fun v _ => v = .bl true) fun _ _ _ => False) :
    codeAny (model P w) callerA (.call (.ref fa) ⟨[.ref a], []⟩) (fun r s' => r = .ok (.ret (.bool true)) ∧ OldK s₁.heap s'.heap ∧ s'.os = s₁.os ∧ AllBare s'.gens) s₁ := by
  obtain ⟨so, eso⟩ : ∃ so : Obj, so = { cls := .type "list", data := .seq vs.toArray } := ⟨_, rfl⟩
  obtain ⟨ts, ets⟩ : ∃ ts : List Addr, ts = cs.map (·.2) := ⟨_, rfl⟩
  obtain ⟨H, eH⟩ : ∃ H : Hp, H = hHs K a (.frz so (.lst (ns.map V.int))) ts := ⟨_, rfl⟩
  have isT : ∀ b ∈ ts, s₁.heap.get? b = some { cls := .none, data := .fields #[] } ∧ K.lookup b = none ∧ ∃ p ∈ cs, p.2 = b := fun b hb => by
    rw [ets] at hb
    obtain ⟨p, hp, rfl⟩ := List.mem_map.mp hb
    exact ⟨hT p hp, nT p hp, p, hp, rfl⟩
  have aT : a ∉ ts := fun z => by
    have q := (isT a z).1
    rw [ha] at q
    cases congrArg Obj.data (Option.some.inj q)
  -- what H may hold
  have at1 : ∀ b u, H b = some u → (K.lookup a = none ∧ b = a ∧ u = .frz so (.lst (ns.map V.int))) ∨ (b ∈ ts ∧ u = .tbl #[]) := fun b u e => by
    rw [eH] at e
    unfold hHs at e
    by_cases c : K.lookup a = none ∧ b = a
    · rw [if_pos c] at e
      exact .inl ⟨c.1, c.2, (Option.some.inj e).symm⟩
    · rw [if_neg c] at e
      by_cases c2 : b ∈ ts
      · rw [if_pos c2] at e
        exact .inr ⟨c2, (Option.some.inj e).symm⟩
      · rw [if_neg c2] at e
        cases e
  have atT : ∀ b ∈ ts, H b = some (.tbl #[]) := fun b hb => by
    rw [eH]
    unfold hHs
    have c : ¬ (K.lookup a = none ∧ b = a) := fun c => aT (by rw [← c.2]; exact hb)
    rw [if_neg c, if_pos hb]
  have rv := vals_ints hi
  have hok : HOk P w H s₁.heap := fun b u e => by
    rcases at1 b u e with ⟨_, rfl, rfl⟩ | ⟨h1, rfl⟩
    · exact ⟨by rw [eso]; exact ha, by rw [List.length_map]; exact hl, vs, _, rv, by exact ha⟩
    · exact (isT b h1).1
  have base_of : ∀ {b : Addr} {o : Obj}, s₁.heap.get? b = some o → H b = none → (hidT s₁.heap H).get? b = some o := fun e n => hidT_get e n
  have free : ∀ {b : Addr} {o : Obj}, s₁.heap.get? b = some o → (∀ vs n, o.data ≠ .seq vs n) → o.data ≠ .fields #[] → H b = none := fun {b o} e h1 h2 => by
    cases q : H b with
    | none => rfl
    | some u =>
      rcases at1 b u q with ⟨_, rfl, _⟩ | ⟨h3, _⟩
      · rw [ha] at e
        cases e
        exact (h1 _ _ rfl).elim
      · rw [(isT b h3).1] at e
        cases e
        exact (h2 rfl).elim
  have freeD : ∀ {b : Addr} {o : Obj} {es : Array DictEntry} {ep : Nat}, s₁.heap.get? b = some o → o.data = .dict es ep → H b = none := fun e d => free e (fun vs n z => by rw [d] at z; cases z) fun z => by rw [d] at z; cases z
  have nsK : ∀ {b : Addr} {m : Str → Option Value}, s₁.heap.Ns b m → (hidT s₁.heap H).Ns b m := fun ⟨o, es, ep, e, d, r⟩ => ⟨o, es, ep, base_of e (freeD e d), d, r⟩
  have hKb : K.In (hidT s₁.heap H) := fun b o e => base_of (KX b o e) (by
    cases q : H b with
    | none => rfl
    | some u =>
      rcases at1 b u q with ⟨h1, rfl, _⟩ | ⟨h3, _⟩
      · rw [h1] at e; cases e
      · rw [(isT b h3).2.1] at e; cases e)
  have hM : L2.Mod K mg (hidT s₁.heap H) := ⟨hKb, nsK hns, ⟨mb, nsK hb, hbb⟩, let ⟨mc, h1, h2⟩ := hlim; ⟨mc, nsK h1, h2⟩⟩
  have gneq : ∀ b, b ∈ ts → mainGlobals ≠ b := fun b hb z => by
    obtain ⟨o, es, ep, e, hd, _⟩ := hns
    rw [z, (isT b hb).1] at e
    cases e
    cases hd
  have TB : ∀ p ∈ cs, LamX.TabB (hidT s₁.heap H) mg p.1 p.2 := fun p hp => by
    have pT : p.2 ∈ ts := by rw [ets]; exact List.mem_map.mpr ⟨p, hp, rfl⟩
    refine ⟨?_, ?_, gneq _ pT⟩
    · obtain ⟨o, us, file, tf, flags, tg, inF, text, tt, e1, r1, r2, r3, r4⟩ := C p hp
      refine ⟨o, us, file, tf, flags, tg, inF, text, tt, base_of e1 (free e1 (fun vs n z => by rw [r2] at z; cases z) fun z => ?_), r1, r2, r3, r4⟩
      rw [r2] at z
      cases z
      simp at r3
    · obtain ⟨bm, ob, b1, b2, b3, b4, b5, b6⟩ := hbm
      have nG : bm ≠ mainGlobals := fun q => by
        obtain ⟨o, es, ep, e, hd, _⟩ := hns
        rw [q, e] at b3
        cases b3
        rw [hd] at b6
        cases b6
      have nP : bm ≠ p.2 := fun q => by
        rw [q, hT p hp] at b3
        cases b3
        cases b6
      exact ⟨bm, ob, b1, b2, nG, nP, base_of b3 (free b3 (fun vs n z => by rw [b6] at z; cases z) fun z => by rw [b6] at z; cases z), b4, b5, b6⟩
  have e0 : Env0 P w K mg (hidT s₁.heap H) callerA [] s₁ H := ⟨rfl, hM, fun b o e => of_hidT e, Nat.le_of_eq (hidT_size _ _), trivial, fun b hb => absurd (show b ∈ ([] : List Addr) from hb) (by simp), hok, .of_eq hg⟩
  have sq : SqL K (hGs K a (.frz so (.lst (ns.map V.int)))) a (ns.map V.int) := by
    cases hk : K.lookup a with
    | none => exact .inl (.inr ⟨so, by unfold hGs; rw [if_pos ⟨hk, rfl⟩]⟩)
    | some o =>
      have e := KX a o hk
      rw [ha] at e
      cases e
      exact .inr ⟨_, vs.toArray, _, hk, rfl, rfl, rfl, by rw [List.size_toArray, hi.length]; exact hl, by simpa using rv⟩
  have hsp' := hsp (.frz so (.lst (ns.map V.int))) (by rw [← ets]; exact aT) sq
  rw [← ets, ← eH] at hsp'
  refine codeAny_mono ((F _ hKb (nsK hns) TB).run callerA [] s₁ H ⟨[.ref a], []⟩ [.ref a] [.ref a] _ _ hr e0 (hbind s₁ (.ref a)) (.cons rfl .nil) hsp') fun r s' h => ?_
  cases r with
  | error e =>
    obtain ⟨_, _, _, _, _, _, _, _, _, _, _, _, z⟩ := h
    exact z.elim
  | ok fl =>
    cases fl with
    | next => exact False.elim h
    | brk => exact False.elim h
    | cont => exact False.elim h
    | ret u =>
      obtain ⟨v, H', os, bare, un, hok', r', q⟩ := h
      have q' : v = .bl true := q
      subst q'
      obtain rfl : u = Value.bool true := r'
      have key : ∀ b o, b ∉ ts → s₁.heap.get? b = some o → s'.heap.get? b = some o := fun b o nb e => by
        cases q : H b with
        | none => exact un.keep b o e q (by intro z; exact absurd (show b ∈ ([] : List Addr) from z) (by simp)) (by simp)
        | some u =>
          rcases at1 b u q with ⟨_, rfl, rfl⟩ | ⟨h3, _⟩
          · obtain ⟨e2, _⟩ := hok' b _ (un.frzs b so _ q)
            rw [ha] at e
            cases e
            rw [← eso]
            exact e2
          · exact absurd h3 nb
      refine ⟨rfl, ⟨fun b o e => ?_, fun b o e => ?_⟩, os, bare⟩
      · by_cases hb : b ∈ ts
        · obtain ⟨h1, _, p, hp, ep⟩ := isT b hb
          obtain ⟨more, z⟩ := un.tbls b #[] (atT b hb)
          have hm := hok' b _ z
          rw [h1] at e
          cases e
          subst ep
          exact .inr (.inl ⟨((C p hp).tab (hT p hp)).isCodeTable, rfl, #[], _, rfl, by rw [Array.empty_append]; exact hm⟩)
        · exact .inl (key b o hb e)
      · by_cases hb : b ∈ ts
        · obtain ⟨more, z⟩ := un.tbls b #[] (atT b hb)
          exact ⟨_, hok' b _ z⟩
        · exact ⟨o, key b o hb e⟩
end
section
variable {P : Program} {w : World} {K : PySem.W.Frag} {mg : Str → Option Value} {base h : Heap} {x : Str} {st : Stmt} {f : Addr} {fd fd' : FuncData}
theorem exck_of (hg : mg x = some (.ref (He.ga K x))) (c : (He.Fa.exc x).ok K = true) : ExcK ⟨P, w, K, mg, base⟩ x := by
  obtain ⟨c1, c2, c3, c4⟩ := He.exc_ok c
  exact ⟨hg, c1, c2, c3, c4⟩
theorem roomG_k {k : Nat} (hk : decide (3 * (k + 1) < 690) = true) : RoomG (k + 1) callerA := by
  have h := of_decide_eq_true hk
  refine ⟨⟨rfl, ?_, ?_⟩, rfl⟩
  · show 1 + 300 + 3 * (k + 1) + 5 < 1000
    omega
  · show 4 + 16 * (k + 1) + 200 < 9900
    omega
theorem bind1 {y : Str} (F : FunE K x st f fd) (hb : BindN st x [y]) (s : Shared) (v : Value) : BindsTo s fd ⟨[v], []⟩ [(y, v)] := by
  obtain ⟨oc, od, kV, doc, pm, an, cdv, ct, osl, rfl, lk, hcd⟩ := (funE_fun F).ex
  exact .of_eq (hb kV doc pm an cdv ct [v] rfl)
theorem funE_fd (F : FunE K x st f fd) (F' : FunE K x st f fd') : fd = fd' := by
  obtain ⟨oc, od, kV, doc, pm, an, cdv, ct, osl, rfl, lk, hcd⟩ := (funE_fun F).ex
  obtain ⟨oc', od', kV', doc', pm', an', cdv', ct', osl', rfl, lk', hcd'⟩ := (funE_fun F').ex
  rw [lk] at lk'
  cases lk'
  rfl
theorem tabs_in {A : Ask} : ∀ p ∈ A.tabs.map (fun t => (tabAd K t.1, t.2)), p.1 ∈ (A.tabs.map fun t => (codeAd K t.1, tabAd K t.1)).map (·.2) := fun p hp => by
  obtain ⟨t, ht, rfl⟩ := List.mem_map.mp hp
  exact List.mem_map.mpr ⟨(codeAd K t.1, tabAd K t.1), List.mem_map.mpr ⟨t, ht, rfl⟩, rfl⟩
open Classical in
theorem sp_start {g : Fd} {a : Addr} {o : HO} {ts : List Addr} {ns : List Int} {E : XK} (hS : SqL K (hGs K a o) a (ns.map V.int)) (na : a ∉ ts) (hT : ∀ p ∈ LT.tabs K, p.1 ∈ ts) (hp : ∃ st, g [.lst (ns.map D.int)] [] = .ok (.bl true) ⟨[], st⟩) :
    spD (cwOf P w K) 1 g [.ref a] (hHs K a o ts) (fun v _ => v = .bl true) E := by
  obtain ⟨st, hp⟩ := hp
  have GH : ∀ b u, hGs K a o b = some u → hHs K a o ts b = some u := fun b u e => by
    unfold hGs at e
    unfold hHs
    by_cases c : K.lookup a = none ∧ b = a
    · rw [if_pos c] at e ⊢
      exact e
    · rw [if_neg c] at e
      cases e
  have tn : ∀ b ∈ ts, ¬ (K.lookup a = none ∧ b = a) := fun b hb c => na (by rw [← c.2]; exact hb)
  refine ⟨rfl, ⟨hGs K a o, fun _ => none, fun _ => none, fun _ => none⟩, [], [.lst (ns.map D.int)], ⟨GH, fun _ _ e => (by cases e), fun _ _ e => (by cases e), fun x o e => ?_, fun _ _ e => (by cases e), fun _ _ _ e => (by cases e), fun i t e => (by simp at e), rfl, ⟨fun p hp => ⟨#[], ?_, ?_, fun pos cv e => ?_⟩, fun p hp => ⟨?_, rfl⟩, fun _ _ e => (by cases e), fun _ _ e => (by cases e)⟩⟩, fun _ => rfl, ?_, ?_⟩
  · cases x with
    | inl n => simp [S.ob] at e
    | inr n => simp [S.ob] at e
  · show (if K.lookup a = none ∧ p.1 = a then some o else if p.1 ∈ ts then some (.tbl #[]) else none) = _
    rw [if_neg (tn _ (hT p hp)), if_pos (hT p hp)]
  · exact True.intro
  · exact absurd e (by intro z; cases z)
  · show (if K.lookup a = none ∧ p.1 = a then some o else none) = none
    rw [if_neg (tn _ (hT p hp))]
  · refine VRs.arg (.cons (.lst hS ?_) .nil)
    clear hS hp
    induction ns with
    | nil => exact .nil
    | cons n ns ih => exact .cons (.int n) ih
  · show Post _ _ _ _ _ _
    rw [hp]
    intro H' k' l R' v rv
    cases rv
    rfl
theorem walk_ofX {l : PySem.W.OpenLaw} {n k : Nat} {q : Program} {loose : List Str} {XP : (Str → Option Value) → Heap → Prop} {YP : World → Heap → Prop} {d : DefRec} {x : Str}
    (hn : l.most = some n) (hn2 : n ≤ sizeLine) (hdf : d.params.defaults = []) (hr : RoomG k callerA)
    (F : ∀ (w : World) (mg : Str → Option Value) (fa : Addr) (h : Heap), YP w h → h.Ns mainGlobals mg → mg d.name = some (.ref fa) →
      ∃ (K : PySem.W.Frag) (fd : FuncData) (cs : List (Addr × Addr)) (sp : Sp), K.In h ∧ (∀ p ∈ cs, h.get? p.2 = some { cls := .none, data := .fields #[] }) ∧ (∀ p ∈ cs, K.lookup p.2 = none) ∧ (∀ p ∈ cs, PySem.W.CodeHd h p.1 p.2) ∧ (∀ (s : Shared) (u : Value), BindsTo s fd ⟨[u], []⟩ [(x, u)]) ∧
        (∀ (o : HO) (a : Addr) (ns : List Int), ns.length ≤ n → (∀ z ∈ ns, Builtin.Int.intBits z ≤ 1048576) → a ∉ cs.map (·.2) → SqL K (hGs K a o) a (ns.map V.int) → sp [.ref a] (hHs K a o (cs.map (·.2))) (fun v _ => v = .bl true) fun _ _ _ => False) ∧
        ∀ base : Heap, K.In base → base.Ns mainGlobals mg → (∀ p ∈ cs, LamX.TabB base mg p.1 p.2) → FnG l.prog w K mg base (L2.CX l.prog w) k fa fd [x] sp) :
    PySem.W.WalkO q loose XP YP l.row.toRowW d [] (fun f vs => PySem.call f vs) := by
  refine Att.attach_callB hn hdf fun w s₀ s₁ mg mb fa o pm cd doc a vs ns G Y ho hd hcd hmg hobj hints hlen hbits hg => ?_
  obtain ⟨K, fd, cs, sp, KX, hT, nT, C, hb, hsp, hF⟩ := F w mg fa _ Y G.T.g hmg
  exact law_callG KX G.T.g G.T.b G.T.builtins G.T.nolimit hg hT nT C G.T.bmain hobj hints (Nat.le_trans hlen hn2) hr hF hb fun o na hS => hsp o a ns hlen hbits na hS
end
structure TxtA (i : InitA) (lit sf Pn : Str) : Prop where
  bod : ∃ (j : Nat) (p0 p1 p2 p3 p4 p5 p6 p7 p8 p9 : Pos), i.body = OiX.bodyOf lit sf Pn i.f j p0 p1 p2 p3 p4 p5 p6 p7 p8 p9 ∧ (p2.endLine == p4.line) = true
  head : ∃ ar, (i.params.posonlyargs ++ i.params.args).head? = some ar ∧ ar.arg = sf
  bind : ∀ fd : FuncData, fd.params = i.params → fd.defaults = .none → ∀ a b : Value, bindArgs fd ⟨[a, b], []⟩ = pure [(sf, a), (Pn, b)]
  kS : i.scope.names.lookup ("super" : Str) = some .globalImplicit
  kC : i.scope.names.lookup ("__class__" : Str) = some .free
  kA : i.scope.names.lookup sf = some .local
  kP : i.scope.names.lookup Pn = some .local
  cells : ∀ x ∈ i.scope.names, x.2 ≠ .cell
  kind : i.scope.kind = .function
  co : i.scope.isCoroutine = false
  gen : i.scope.isGenerator = false
  ne : sf ≠ Pn
  dS : (sf == ("__debug__" : Str)) = false
  dP : (Pn == ("__debug__" : Str)) = false
theorem oink_of {P : Program} {w : World} {K : PySem.W.Frag} {mg : Str → Option Value} {base : Heap} {i : InitA} {lit sf Pn : Str} (hg : mg i.x = some (.ref (He.ga K i.x))) (o : InitOk K i) (hP : ((P.main.file : Str) == i.file) = true) (hT : (P.main.scope.names.lookup ("super" : Str)).isSome = false) (t : TxtA i lit sf Pn) : OInK ⟨P, w, K, mg, base⟩ i.x i.f := by
  obtain ⟨fd, e1, e2, e3, e4, e5, F⟩ := o.fn
  refine ⟨hg, o.keep, _, fd, lit, sf, Pn, F P lit hP hT, ?_⟩
  obtain ⟨j, p0, p1, p2, p3, p4, p5, p6, p7, p8, p9, hb, hl⟩ := t.bod
  exact ⟨⟨j, p0, p1, p2, p3, p4, p5, p6, p7, p8, p9, by rw [e3, hb], hl⟩, by rw [e2]; exact t.head, fun a b s => .of_eq (t.bind fd e2 e5 a b), by rw [e4]; exact t.kS, by rw [e4]; exact t.kC, by rw [e4]; exact t.kA, by rw [e4]; exact t.kP, by rw [e4]; exact t.cells, by rw [e4]; exact t.kind, by rw [e4]; exact t.co, by rw [e4]; exact t.gen, t.ne, t.dS, t.dP⟩
theorem fldOk_of {K : PySem.W.Frag} {l : List (Str × Str)} (h : ∀ p ∈ l, XfC K (He.ga K p.1) ∧ PySem.W.findIn K (.ref (He.ga K p.1)) p.2 = some none) : FldOk K fun c f => l.any fun p => decide (p.1 = c) && decide (p.2 = f) := ⟨fun c f e => by
  obtain ⟨p, hp, q⟩ := List.any_eq_true.mp e
  obtain ⟨q1, q2⟩ := Bool.and_eq_true_iff.mp q
  have q3 := of_decide_eq_true q1
  have q4 := of_decide_eq_true q2
  subst q3 q4
  exact h p hp⟩
end DL
namespace GK
open PySem PySem.Spec PyProof.Rows L2 DL NdefX
def supC : List Str := (["BuildError", "BadAct", "BadChosen", "BadCondition", "BadCosts", "BadCube", "BadEdit", "BadExpression", "BadFork", "BadForm"] : List Str) ++ (["BadHouse", "BadIndex", "BadInterface", "BadInterfaces", "BadLine", "BadLot", "BadLots", "BadMeasure", "BadMost", "BadMove"] : List Str) ++ (["BadNames", "BadNumber", "BadNumbers", "BadPart", "BadParts", "BadPatch", "BadPath", "BadRow", "BadRows", "BadSetting"] : List Str) ++ (["BadStep", "BadSwitch", "BadTable", "BadTerm", "BadText", "BadTold", "Caught", "Clash", "Clashing", "LastSwitch"] : List Str) ++ (["Mixed", "NotAlike", "NotEnough", "NotGiven", "NotRight", "NotTold", "NothingDone", "NothingUndone", "TooMany", "Unfit"] : List Str)
def supT : List Ty := ([.own "BadAct", .own "BadChosen", .own "BadCondition", .own "BadCosts", .own "BadCube", .own "BadEdit", .own "BadExpression", .own "BadFork", .own "BadForm", .own "BadHouse"] : List Ty) ++ ([.own "BadIndex", .own "BadInterface", .own "BadInterfaces", .own "BadLine", .own "BadLot", .own "BadLots", .own "BadMeasure", .own "BadMost", .own "BadMove", .own "BadNames"] : List Ty) ++ ([.own "BadNumber", .own "BadNumbers", .own "BadPart", .own "BadParts", .own "BadPatch", .own "BadPath", .own "BadRow", .own "BadRows", .own "BadSetting", .own "BadStep"] : List Ty) ++ ([.own "BadSwitch", .own "BadTable", .own "BadTerm", .own "BadText", .own "BadTold", .own "BuildError", .own "Caught", .own "Clash", .own "Clashing", .own "LastSwitch"] : List Ty) ++ ([.own "Mixed", .own "NotAlike", .own "NotEnough", .own "NotGiven", .own "NotRight", .own "NotTold", .own "NothingDone", .own "NothingUndone", .own "TooMany", .own "Unfit"] : List Ty) ++ ([.b "ValueError"] : List Ty)
def supV (c : Str) : Ty → Bool
  | .own x => decide (c = x) || decide (x = "BuildError")
  | .b T => T == "ValueError"
def exmL : List (Str × Str × Bool) := []
def tyEq : Ty → Ty → Bool
  | .b x, .b y => x == y
  | .own x, .own y => decide (x = y)
  | _, _ => false
def sup (c : Str) (t : Ty) : Option Bool := if (supC.any fun x => decide (x = c)) && supT.any (fun u => tyEq u t) then some (supV c t) else none
def exm (x y : Str) : Option Bool := (exmL.find? fun q => decide (q.1 = x) && decide (q.2.1 = y)).map (·.2.2)
def fldL : List (Str × Str) := [("BadRows", "at"), ("Caught", "path"), ("Clash", "path"), ("Clashing", "setting"), ("Mixed", "x"), ("NotTold", "setting"), ("TooMany", "most")]
def fl (c f : Str) : Bool := fldL.any fun p => decide (p.1 = c) && decide (p.2 = f)
def jsl : Nat → List Nat
  | _ => []
def np : Nat → Nat
  | _ => 0
def N_52 : List Str := ["_law_script", "_law_wide", "_law_grain"]
theorem nd_52 : N_52.Nodup := by decide
def m_52 (F : Nat → Fd) (Λ : Nat → List D → Fd) : M Fl := mThen (mOwn 1 (mLc [2] (mItems (mVar 0)) (mPut 2) (mTest (mBin geD (mApp absB (mCons (mVar 2) mNil)) (mBin powD (M.pure (.int 10)) (M.pure (.int 18))))) (mBin subD (mApp absB (mCons (mVar 2) mNil)) (mBin powD (M.pure (.int 10)) (M.pure (.int 18)))))) (mRet (mNew (mDictF [(.inr "wide", mMove 1), (.inr "cells", mOb (mLc [2] (mItems (mVar 0)) (mPut 2) (M.pure true) (mBin modD (mApp intB (mCons (mApp absB (mCons (mVar 2) mNil)) mNil)) (M.pure (.int 2147483629))))), (.inr "rest", M.pure (.int 0)), (.inr "turn", M.pure (.int 0))])))
def N_53 : List Str := ["_law_draw", "_law_turn", "_law_found", "_law_prime", "_law_blend", "_law_grain"]
theorem nd_53 : N_53.Nodup := by decide
def m_53 (F : Nat → Fd) (Λ : Nat → List D → Fd) : M Fl := mThen (mParV 1 2 (mVal (mBin addD (mBin ixS (mVar 0) (M.pure (.str "turn"))) (M.pure (.int 1)))) (mVal (M.pure (.int 0)))) (mThen (mDPut (mVar 0) (M.pure (.str "turn")) (mVar 1)) (mThen (mFor (mItems (mLst (mCons (M.pure (.int 2147483647)) (mCons (M.pure (.int 2147483629)) (mCons (M.pure (.int 2147483587)) (mCons (M.pure (.int 2147483579)) mNil)))))) (mPut 3) (mThen (mSet 4 (mBin addD (mBin mulD (M.pure (.int 48271)) (mVar 1)) (mBin fdivD (mVar 3) (M.pure (.int 37))))) (mThen (mFor (mItems (mBin ixS (mVar 0) (M.pure (.str "cells")))) (mPut 5) (mSet 4 (mBin modD (mApp intB (mCons (mBin addD (mBin addD (mBin mulD (mVar 4) (M.pure (.int 69621))) (mVar 5)) (mVar 1)) mNil)) (mVar 3)))) (mSet 2 (mBin addD (mBin mulD (mVar 2) (M.pure (.int 2147483647))) (mBin modD (mApp intB (mCons (mBin powD (mVar 4) (M.pure (.int 5))) mNil)) (mVar 3))))))) (mRet (mVar 2))))
def N_54 : List Str := ["_law_draw", "_law_many", "_law_found"]
theorem nd_54 : N_54.Nodup := by decide
def m_54 (F : Nat → Fd) (Λ : Nat → List D → Fd) : M Fl := mThen (mIfS (mTest (mBin eqS (mBin ixS (mVar 0) (M.pure (.str "rest"))) (M.pure (.int 0)))) (mDPut (mVar 0) (M.pure (.str "rest")) (mIf (mTest (mBin neS (mBin ixS (mVar 0) (M.pure (.str "wide"))) (mLst mNil))) (mMeL popAtL (mBin ixS (mVar 0) (M.pure (.str "wide"))) (mCons (M.pure (.int 0)) mNil)) (mCall (F 53) 1 (mCons (mVar 0) mNil)))) (mNext)) (mThen (mSet 2 (mBin modD (mApp intB (mCons (mBin ixS (mVar 0) (M.pure (.str "rest"))) mNil)) (mVar 1))) (mThen (mDPut (mVar 0) (M.pure (.str "rest")) (mBin fdivD (mBin ixS (mVar 0) (M.pure (.str "rest"))) (mVar 1))) (mRet (mVar 2))))
def N_55 : List Str := ["_law_draw", "_law_some"]
theorem nd_55 : N_55.Nodup := by decide
def m_55 (F : Nat → Fd) (Λ : Nat → List D → Fd) : M Fl := mRet (mBin ixS (mVar 1) (mCall (F 54) 2 (mCons (mVar 0) (mCons (mApp lenB (mCons (mVar 1) mNil)) mNil))))
def N_56 : List Str := ["_law_found"]
theorem nd_56 : N_56.Nodup := by decide
def m_56 (F : Nat → Fd) (Λ : Nat → List D → Fd) : M Fl := mThen (mSet 0 (mLst (mCons (mExc "BadAct" (M.pure (.str "a"))) (mCons (mExc "BadChosen" (M.pure (.str "a"))) (mCons (mExc "BadCondition" (M.pure (.str "a"))) (mCons (mExc "BadCosts" (M.pure (.str "a"))) (mCons (mExc "BadCube" (M.pure (.str "a"))) (mCons (mExc "BadEdit" (M.pure (.str "a"))) (mCons (mExc "BadExpression" (M.pure (.str "a"))) (mCons (mExc "BadFork" (M.pure (.str "a"))) (mCons (mExc "BadForm" (M.pure (.str "a"))) (mCons (mExc "BadHouse" (M.pure (.str "a"))) mNil)))))))))))) (mThen (mSet 0 (mBin addD (mVar 0) (mLst (mCons (mExc "BadIndex" (M.pure (.str "a"))) (mCons (mExc "BadInterface" (M.pure (.str "a"))) (mCons (mExc "BadInterfaces" (M.pure (.str "a"))) (mCons (mExc "BadLine" (M.pure (.str "a"))) (mCons (mExc "BadLot" (M.pure (.str "a"))) (mCons (mExc "BadLots" (M.pure (.str "a"))) (mCons (mExc "BadMeasure" (M.pure (.str "a"))) (mCons (mExc "BadMost" (M.pure (.str "a"))) (mCons (mExc "BadMove" (M.pure (.str "a"))) mNil)))))))))))) (mThen (mSet 0 (mBin addD (mVar 0) (mLst (mCons (mExc "BadNames" (M.pure (.str "a"))) (mCons (mExc "BadNumber" (M.pure (.str "a"))) (mCons (mExc "BadNumbers" (M.pure (.str "a"))) (mCons (mExc "BadPart" (M.pure (.str "a"))) (mCons (mExc "BadParts" (M.pure (.str "a"))) (mCons (mExc "BadPatch" (M.pure (.str "a"))) (mCons (mExc "BadPath" (M.pure (.str "a"))) (mCons (mExc "BadRow" (M.pure (.str "a"))) (mCons (mExc "BadSetting" (M.pure (.str "a"))) (mCons (mExc "BadStep" (M.pure (.str "a"))) mNil))))))))))))) (mThen (mSet 0 (mBin addD (mVar 0) (mLst (mCons (mExc "BadSwitch" (M.pure (.str "a"))) (mCons (mExc "BadTable" (M.pure (.str "a"))) (mCons (mExc "BadTerm" (M.pure (.str "a"))) (mCons (mExc "BadText" (M.pure (.str "a"))) (mCons (mExc "BadTold" (M.pure (.str "a"))) (mCons (mExc "LastSwitch" (M.pure (.str "a"))) (mCons (mExc "NotAlike" (M.pure (.str "a"))) (mCons (mExc "NotEnough" (M.pure (.str "a"))) (mCons (mExc "NotGiven" (M.pure (.str "a"))) (mCons (mExc "NotRight" (M.pure (.str "a"))) mNil))))))))))))) (mThen (mSet 0 (mBin addD (mVar 0) (mLst (mCons (mExc "NothingDone" (M.pure (.str "a"))) (mCons (mExc "NothingUndone" (M.pure (.str "a"))) (mCons (mExc "Unfit" (M.pure (.str "a"))) mNil)))))) (mRet (mVar 0))))))
def N_57 : List Str := ["_law_one", "_law_other", "_law_found", "_law_error"]
theorem nd_57 : N_57.Nodup := by decide
def m_57 (F : Nat → Fd) (Λ : Nat → List D → Fd) : M Fl := mThen (mOwn 2 (mLstF mNil)) (mThen (mSet 3 (mOx "BadRows" "at" (mVar 0))) (mThen (mExpr (mMeO 2 appendL (mCons (mTup (mCons (mVar 3) (mCons (mLst (mCons (mAt fl "at" (mVar 3)) mNil)) (mCons (mLst (mCons (mVar 0) mNil)) mNil)))) mNil))) (mThen (mSet 3 (mOx "Caught" "path" (mVar 0))) (mThen (mExpr (mMeO 2 appendL (mCons (mTup (mCons (mVar 3) (mCons (mLst (mCons (mAt fl "path" (mVar 3)) mNil)) (mCons (mLst (mCons (mVar 0) mNil)) mNil)))) mNil))) (mThen (mSet 3 (mOx "Clash" "path" (mVar 0))) (mThen (mExpr (mMeO 2 appendL (mCons (mTup (mCons (mVar 3) (mCons (mLst (mCons (mAt fl "path" (mVar 3)) mNil)) (mCons (mLst (mCons (mVar 0) mNil)) mNil)))) mNil))) (mThen (mSet 3 (mOx "Clashing" "setting" (mVar 0))) (mThen (mExpr (mMeO 2 appendL (mCons (mTup (mCons (mVar 3) (mCons (mLst (mCons (mAt fl "setting" (mVar 3)) mNil)) (mCons (mLst (mCons (mVar 0) mNil)) mNil)))) mNil))) (mThen (mSet 3 (mOx "Mixed" "x" (mVar 0))) (mThen (mExpr (mMeO 2 appendL (mCons (mTup (mCons (mVar 3) (mCons (mLst (mCons (mAt fl "x" (mVar 3)) mNil)) (mCons (mLst (mCons (mVar 0) mNil)) mNil)))) mNil))) (mThen (mSet 3 (mOx "NotTold" "setting" (mVar 0))) (mThen (mExpr (mMeO 2 appendL (mCons (mTup (mCons (mVar 3) (mCons (mLst (mCons (mAt fl "setting" (mVar 3)) mNil)) (mCons (mLst (mCons (mVar 0) mNil)) mNil)))) mNil))) (mThen (mSet 3 (mOx "TooMany" "most" (mVar 0))) (mThen (mExpr (mMeO 2 appendL (mCons (mTup (mCons (mVar 3) (mCons (mLst (mCons (mAt fl "most" (mVar 3)) mNil)) (mCons (mLst (mCons (mVar 0) mNil)) mNil)))) mNil))) (mRet (mVar 2))))))))))))))))
def N_58 : List Str := ["_law_error", "_law_found", "_law_k", "_law_is_one"]
theorem nd_58 : N_58.Nodup := by decide
def m_58 (F : Nat → Fd) (Λ : Nat → List D → Fd) : M Fl := mThen (mSet 1 (mLst (mCons (mIsiX sup (.own "BadAct") (mVar 0)) (mCons (mIsiX sup (.own "BadChosen") (mVar 0)) (mCons (mIsiX sup (.own "BadCondition") (mVar 0)) (mCons (mIsiX sup (.own "BadCosts") (mVar 0)) (mCons (mIsiX sup (.own "BadCube") (mVar 0)) mNil))))))) (mThen (mSet 1 (mBin addD (mVar 1) (mLst (mCons (mIsiX sup (.own "BadEdit") (mVar 0)) (mCons (mIsiX sup (.own "BadExpression") (mVar 0)) (mCons (mIsiX sup (.own "BadFork") (mVar 0)) (mCons (mIsiX sup (.own "BadForm") (mVar 0)) (mCons (mIsiX sup (.own "BadHouse") (mVar 0)) mNil)))))))) (mThen (mSet 1 (mBin addD (mVar 1) (mLst (mCons (mIsiX sup (.own "BadIndex") (mVar 0)) (mCons (mIsiX sup (.own "BadInterface") (mVar 0)) (mCons (mIsiX sup (.own "BadInterfaces") (mVar 0)) (mCons (mIsiX sup (.own "BadLine") (mVar 0)) (mCons (mIsiX sup (.own "BadLot") (mVar 0)) mNil)))))))) (mThen (mSet 1 (mBin addD (mVar 1) (mLst (mCons (mIsiX sup (.own "BadLots") (mVar 0)) (mCons (mIsiX sup (.own "BadMeasure") (mVar 0)) (mCons (mIsiX sup (.own "BadMost") (mVar 0)) (mCons (mIsiX sup (.own "BadMove") (mVar 0)) (mCons (mIsiX sup (.own "BadNames") (mVar 0)) mNil)))))))) (mThen (mSet 1 (mBin addD (mVar 1) (mLst (mCons (mIsiX sup (.own "BadNumber") (mVar 0)) (mCons (mIsiX sup (.own "BadNumbers") (mVar 0)) (mCons (mIsiX sup (.own "BadPart") (mVar 0)) (mCons (mIsiX sup (.own "BadParts") (mVar 0)) (mCons (mIsiX sup (.own "BadPatch") (mVar 0)) mNil)))))))) (mThen (mSet 1 (mBin addD (mVar 1) (mLst (mCons (mIsiX sup (.own "BadPath") (mVar 0)) (mCons (mIsiX sup (.own "BadRow") (mVar 0)) (mCons (mIsiX sup (.own "BadRows") (mVar 0)) (mCons (mIsiX sup (.own "BadSetting") (mVar 0)) (mCons (mIsiX sup (.own "BadStep") (mVar 0)) mNil)))))))) (mThen (mSet 1 (mBin addD (mVar 1) (mLst (mCons (mIsiX sup (.own "BadSwitch") (mVar 0)) (mCons (mIsiX sup (.own "BadTable") (mVar 0)) (mCons (mIsiX sup (.own "BadTerm") (mVar 0)) (mCons (mIsiX sup (.own "BadText") (mVar 0)) (mCons (mIsiX sup (.own "BadTold") (mVar 0)) mNil)))))))) (mThen (mSet 1 (mBin addD (mVar 1) (mLst (mCons (mIsiX sup (.own "Caught") (mVar 0)) (mCons (mIsiX sup (.own "Clash") (mVar 0)) (mCons (mIsiX sup (.own "Clashing") (mVar 0)) (mCons (mIsiX sup (.own "LastSwitch") (mVar 0)) (mCons (mIsiX sup (.own "Mixed") (mVar 0)) mNil)))))))) (mThen (mSet 1 (mBin addD (mVar 1) (mLst (mCons (mIsiX sup (.own "NotAlike") (mVar 0)) (mCons (mIsiX sup (.own "NotEnough") (mVar 0)) (mCons (mIsiX sup (.own "NotGiven") (mVar 0)) (mCons (mIsiX sup (.own "NotRight") (mVar 0)) (mCons (mIsiX sup (.own "NotTold") (mVar 0)) mNil)))))))) (mThen (mSet 1 (mBin addD (mVar 1) (mLst (mCons (mIsiX sup (.own "NothingDone") (mVar 0)) (mCons (mIsiX sup (.own "NothingUndone") (mVar 0)) (mCons (mIsiX sup (.own "TooMany") (mVar 0)) (mCons (mIsiX sup (.own "Unfit") (mVar 0)) mNil))))))) (mRet (mOb (mLc [2, 3] (mEnumX (mVar 1)) (mUnp [(mPut 2), (mPut 3)]) (mTest (mVar 3)) (mVar 2)))))))))))))
def N_59 : List Str := ["_law_script", "_law_draw", "_law_some", "_law_one", "_law_other", "_law_told", "_law_errors_here", "_law_classes_here", "_law_error", "_law_mine", "_law_due", "_law_entry", "_law_found"]
theorem nd_59 : N_59.Nodup := by decide
def m_59 (F : Nat → Fd) (Λ : Nat → List D → Fd) : M Fl := mThen (mSet 1 (mCall (F 52) 1 (mCons (mVar 0) mNil))) (mThen (mSet 2 (mLst (mCons (M.pure .non) (mCons (M.pure (.int 0)) (mCons (mNeg (M.pure (.int 7))) (mCons (M.pure (.str "x")) (mCons (M.pure (.str "")) (mCons (mTup (mCons (M.pure (.int 1)) (mCons (M.pure (.int 2)) mNil))) (mCons (mLst (mCons (M.pure (.int 3)) mNil)) (mCons (mOb (mDictF [(.inr "a", M.pure (.int 4))])) (mCons (M.pure (.bl true)) (mCons (mBin powD (M.pure (.int 10)) (M.pure (.int 20))) mNil)))))))))))) (mThen (mParV 3 4 (mVal (mCall (F 55) 2 (mCons (mVar 1) (mCons (mVar 2) mNil)))) (mVal (mCall (F 55) 2 (mCons (mVar 1) (mCons (mVar 2) mNil))))) (mThen (mSet 5 (mCall (F 57) 2 (mCons (mVar 3) (mCons (mVar 4) mNil)))) (mThen (mSet 6 (mBin addD (mCall0 (F 56)) (mOb (mLc [11] (mItems (mVar 5)) (mPut 11) (M.pure true) (mBin ixS (mVar 11) (M.pure (.int 0))))))) (mThen (mOwn 7 (mLc [8] (mItems (mVar 6)) (mPut 8) (M.pure true) (mCall (F 58) 1 (mCons (mVar 8) mNil)))) (mThen (mIfS (mOrT (mTest (mBin neS (mOb (mLc [12] (mItems (mVar 7)) (mPut 12) (mTest (mBin neS (mApp lenB (mCons (mVar 12) mNil)) (M.pure (.int 1)))) (M.pure (.int 1)))) (mLst mNil))) (mTest (mBin neS (mLenS (mOb (mLc [12] (mItems (mVar 7)) (mPut 12) (M.pure true) (mBin ixS (mVar 12) (M.pure (.int 0)))))) (mApp lenB (mCons (mVar 6) mNil))))) (mRet (M.pure (.bl false))) (mNext)) (mThen (mFor (mItems (mVar 5)) (mUnp [(mPut 8), (mPut 9), (mPut 10)]) (mIfS (mTest (mBin neS (mApp reprE (mCons (mVar 9) mNil)) (mApp reprE (mCons (mVar 10) mNil)))) (mRet (M.pure (.bl false))) (mNext))) (mThen (mFor (mItems (mVar 6)) (mPut 8) (mIfS (mOrT (mNotT (mTest (mIsiX sup (.own "BuildError") (mVar 8)))) (mNotT (mTest (mIsiX sup (.b "ValueError") (mVar 8))))) (mRet (M.pure (.bl false))) (mNext))) (mRet (M.pure (.bl true)))))))))))
def PL : Nat → (Nat → Fd) × (Nat → List D → Fd)
  | 0 => (fun _ _ _ => .stuck, fun _ _ _ _ => .stuck)
  | n + 1 => (fun i => match i with
    | 52 => runDef N_52.length (m_52 (PL n).1 (PL n).2)
    | 53 => runDef N_53.length (m_53 (PL n).1 (PL n).2)
    | 54 => runDef N_54.length (m_54 (PL n).1 (PL n).2)
    | 55 => runDef N_55.length (m_55 (PL n).1 (PL n).2)
    | 56 => runDef N_56.length (m_56 (PL n).1 (PL n).2)
    | 57 => runDef N_57.length (m_57 (PL n).1 (PL n).2)
    | 58 => runDef N_58.length (m_58 (PL n).1 (PL n).2)
    | 59 => runDef N_59.length (m_59 (PL n).1 (PL n).2)
    | _ => fun _ _ => .stuck, fun k => match k with
    | _ => fun _ _ _ => .stuck)
abbrev Phi (n : Nat) : Nat → Fd := (PL n).1
abbrev Lam (n : Nat) : Nat → List D → Fd := (PL n).2
theorem phi_52 (n : Nat) : Phi (n + 1) 52 = runDef 3 (m_52 (Phi n) (Lam n)) := rfl
theorem phi_53 (n : Nat) : Phi (n + 1) 53 = runDef 6 (m_53 (Phi n) (Lam n)) := rfl
theorem phi_54 (n : Nat) : Phi (n + 1) 54 = runDef 3 (m_54 (Phi n) (Lam n)) := rfl
theorem phi_55 (n : Nat) : Phi (n + 1) 55 = runDef 2 (m_55 (Phi n) (Lam n)) := rfl
theorem phi_57 (n : Nat) : Phi (n + 1) 57 = runDef 4 (m_57 (Phi n) (Lam n)) := rfl
theorem phi_59 (n : Nat) : Phi (n + 1) 59 = runDef 13 (m_59 (Phi n) (Lam n)) := rfl
end GK
namespace GK
open PySem PySem.Spec PyProof.Rows L2 DL NdefX
def top (i : Nat) : Stmt := PySem.Challenge.pw_manybuilds_k06_errors_made_and_bases.main.body.getD i (.Pass ⟨0, 0, 0, 0⟩)
def e0 : Expr := .Constant .none 0 ⟨0, 0, 0, 0⟩
def lamTab : Nat → Option LamSpec
  | _ => none
class TK where
  tabs : PySem.W.Frag → List (Addr × Str)
variable [TK]
instance : LT := ⟨lamTab, TK.tabs⟩
theorem hj : ∀ id L, (LT.lam id : Option LamSpec) = some L → jsl id = L.js := by
  intro id L h
  have h2 : lamTab id = some L := h
  unfold lamTab at h2
  split at h2 <;> first | (cases h2; rfl) | cases h2
structure GF (g : Gs) (n : Nat) (F : Nat → Fd) (Λ : Nat → List D → Fd) : Prop where
  sup : SupOk g.K GK.sup
  exm : ∀ x y b, GK.exm x y = some b → PySem.W.exmOne g.K (.ref (He.ga g.K y)) (.ref (He.ga g.K x)) = some b
  lams : LamsOk g n Λ np
  c52 : Callee g n "_law_begun" ["_law_script"] (F 52)
  c53 : Callee g n "_law_mixed" ["_law_draw"] (F 53)
  c54 : Callee g n "_law_take" ["_law_draw", "_law_many"] (F 54)
  c55 : Callee g n "_law_pick" ["_law_draw", "_law_some"] (F 55)
  c56 : Callee g n "_law_plain_errors" [] (F 56)
  c57 : Callee g n "_law_told_errors" ["_law_one", "_law_other"] (F 57)
  c58 : Callee g n "_law_classes" ["_law_error"] (F 58)
  bsys : BSys g.base
  b_ValueError : g.mg "ValueError" = none
  b_abs : g.mg "abs" = none
  b_enumerate : g.mg "enumerate" = none
  b_int : g.mg "int" = none
  b_isinstance : g.mg "isinstance" = none
  b_len : g.mg "len" = none
  b_repr : g.mg "repr" = none
  b_set : g.mg "set" = none
  e_BadAct : ExcK g "BadAct"
  e_BadChosen : ExcK g "BadChosen"
  e_BadCondition : ExcK g "BadCondition"
  e_BadCosts : ExcK g "BadCosts"
  e_BadCube : ExcK g "BadCube"
  e_BadEdit : ExcK g "BadEdit"
  e_BadExpression : ExcK g "BadExpression"
  e_BadFork : ExcK g "BadFork"
  e_BadForm : ExcK g "BadForm"
  e_BadHouse : ExcK g "BadHouse"
  e_BadIndex : ExcK g "BadIndex"
  e_BadInterface : ExcK g "BadInterface"
  e_BadInterfaces : ExcK g "BadInterfaces"
  e_BadLine : ExcK g "BadLine"
  e_BadLot : ExcK g "BadLot"
  e_BadLots : ExcK g "BadLots"
  e_BadMeasure : ExcK g "BadMeasure"
  e_BadMost : ExcK g "BadMost"
  e_BadMove : ExcK g "BadMove"
  e_BadNames : ExcK g "BadNames"
  e_BadNumber : ExcK g "BadNumber"
  e_BadNumbers : ExcK g "BadNumbers"
  e_BadPart : ExcK g "BadPart"
  e_BadParts : ExcK g "BadParts"
  e_BadPatch : ExcK g "BadPatch"
  e_BadPath : ExcK g "BadPath"
  e_BadRow : ExcK g "BadRow"
  e_BadSetting : ExcK g "BadSetting"
  e_BadStep : ExcK g "BadStep"
  e_BadSwitch : ExcK g "BadSwitch"
  e_BadTable : ExcK g "BadTable"
  e_BadTerm : ExcK g "BadTerm"
  e_BadText : ExcK g "BadText"
  e_BadTold : ExcK g "BadTold"
  e_BuildError : ExcK g "BuildError"
  e_LastSwitch : ExcK g "LastSwitch"
  e_NotAlike : ExcK g "NotAlike"
  e_NotEnough : ExcK g "NotEnough"
  e_NotGiven : ExcK g "NotGiven"
  e_NotRight : ExcK g "NotRight"
  e_NothingDone : ExcK g "NothingDone"
  e_NothingUndone : ExcK g "NothingUndone"
  e_Unfit : ExcK g "Unfit"
  o_BadRows : OInK g "BadRows" "at"
  o_Caught : OInK g "Caught" "path"
  o_Clash : OInK g "Clash" "path"
  o_Clashing : OInK g "Clashing" "setting"
  o_Mixed : OInK g "Mixed" "x"
  o_NotTold : OInK g "NotTold" "setting"
  o_TooMany : OInK g "TooMany" "most"
  flds : FldOk g.K GK.fl
theorem d_52 {P : Program} {w : World} {K : PySem.W.Frag} {mg : Str → Option Value} {base : Heap} {n : Nat} {F : Nat → Fd} {Λ : Nat → List D → Fd} (G : GF ⟨P, w, K, mg, base⟩ n F Λ) (f : Addr) (qual : Str) (cdv : Value) : BodyD P w K mg base n N_52 qual (defScope (top 52)) f cdv (defBody (top 52)) (m_52 F Λ) := by
  intro A outer s H E hr
  letI : FrI := frOf (cxOf (L2.CX P w) P w K mg base N_52 qual (defScope (top 52)) f cdv A outer s H E)
  have tk : Takes (cxOf (L2.CX P w) P w K mg base N_52 qual (defScope (top 52)) f cdv A outer s H E) (WE E) := takes_of rfl rfl rfl rfl
  exact (dss_cons (ds_lc 1 [("_law_grain", 2)] nd_52 (by rfl) (di_seq (de_var 0)) (fun _ _ _ _ _ => (pgc_name 2 (by decide) nd_52 (by rfl) (by first | exact Or.inl rfl | exact Or.inr rfl))) (fun _ _ _ _ _ => (dts_one (dt_cmp (f := geD) op_geD hop_cmp (de_abs G.b_abs (da_cons (de_var 2) da_nil)) (de_bin op_pow hop_pow de_int de_int)))) (fun _ _ _ _ _ => (de_bin op_sub hop_sub (de_abs G.b_abs (da_cons (de_var 2) da_nil)) (de_bin op_pow hop_pow de_int de_int))))
  (dss_one (ds_ret (de_new (df_dict (dps_str (de_move 1 (by rfl)) (dps_str (de_of (df_lc [("_law_grain", 2)] nd_52 (di_seq (de_var 0)) (fun _ _ _ _ _ => (pgc_name 2 (by decide) nd_52 (by rfl) (by first | exact Or.inl rfl | exact Or.inr rfl))) (fun _ _ _ _ _ => dts_nil) (fun _ _ _ _ _ => (de_bin op_mod hop_mod (de_int1 G.b_int (da_cons (de_abs G.b_abs (da_cons (de_var 2) da_nil)) da_nil)) de_int)))) (dps_str de_int (dps_str de_int dps_nil)))))))))
theorem d_53 {P : Program} {w : World} {K : PySem.W.Frag} {mg : Str → Option Value} {base : Heap} {n : Nat} {F : Nat → Fd} {Λ : Nat → List D → Fd} (G : GF ⟨P, w, K, mg, base⟩ n F Λ) (f : Addr) (qual : Str) (cdv : Value) : BodyD P w K mg base n N_53 qual (defScope (top 53)) f cdv (defBody (top 53)) (m_53 F Λ) := by
  intro A outer s H E hr
  letI : FrI := frOf (cxOf (L2.CX P w) P w K mg base N_53 qual (defScope (top 53)) f cdv A outer s H E)
  have tk : Takes (cxOf (L2.CX P w) P w K mg base N_53 qual (defScope (top 53)) f cdv A outer s H E) (WE E) := takes_of rfl rfl rfl rfl
  exact (dss_cons (ds_parV (i := 1) (j := 2) nd_53 (by rfl) (by rfl) (by decide) (dv_val (de_bin op_addD hop_add (de_ixS (de_var 0) de_str) de_int)) (dv_val de_int))
  (dss_cons (ds_dput (hu_1 hr) (de_var 0) de_str (de_var 1))
  (dss_cons (ds_for (passes_of rfl) rfl (di_seq (de_lst (da_cons de_int (da_cons de_int (da_cons de_int (da_cons de_int da_nil)))))) (pg_d 3 nd_53 (by rfl) (by first | exact Or.inl rfl | exact Or.inr rfl))
  (dss_cons (ds_set 4 nd_53 (by rfl) (by first | exact Or.inl rfl | exact Or.inr rfl) (de_bin op_addD hop_add (de_bin op_mul hop_mul de_int (de_var 1)) (de_bin op_fdiv hop_fdiv (de_var 3) de_int)))
  (dss_cons (ds_for (passes_of rfl) rfl (di_seq (de_ixS (de_var 0) de_str)) (pg_d 5 nd_53 (by rfl) (by first | exact Or.inl rfl | exact Or.inr rfl))
  (dss_one (ds_set 4 nd_53 (by rfl) (by first | exact Or.inl rfl | exact Or.inr rfl) (de_bin op_mod hop_mod (de_int1 G.b_int (da_cons (de_bin op_addD hop_add (de_bin op_addD hop_add (de_bin op_mul hop_mul (de_var 4) de_int) (de_var 5)) (de_var 1)) da_nil)) (de_var 3)))))
  (dss_one (ds_set 2 nd_53 (by rfl) (by first | exact Or.inl rfl | exact Or.inr rfl) (de_bin op_addD hop_add (de_bin op_mul hop_mul (de_var 2) de_int) (de_bin op_mod hop_mod (de_int1 G.b_int (da_cons (de_bin op_pow hop_pow (de_var 4) de_int) da_nil)) (de_var 3))))))))
  (dss_one (ds_ret (de_var 2))))))
theorem d_54 {P : Program} {w : World} {K : PySem.W.Frag} {mg : Str → Option Value} {base : Heap} {n : Nat} {F : Nat → Fd} {Λ : Nat → List D → Fd} (G : GF ⟨P, w, K, mg, base⟩ n F Λ) (f : Addr) (qual : Str) (cdv : Value) : BodyD P w K mg base n N_54 qual (defScope (top 54)) f cdv (defBody (top 54)) (m_54 F Λ) := by
  intro A outer s H E hr
  letI : FrI := frOf (cxOf (L2.CX P w) P w K mg base N_54 qual (defScope (top 54)) f cdv A outer s H E)
  have tk : Takes (cxOf (L2.CX P w) P w K mg base N_54 qual (defScope (top 54)) f cdv A outer s H E) (WE E) := takes_of rfl rfl rfl rfl
  exact (dss_cons (ds_if (dt_cmp (f := eqS) (op_eqA (hu_64 hr)) hop_eqS (de_ixS (de_var 0) de_str) de_int)
  (dss_one (ds_dput (hu_1 hr) (de_var 0) de_str (de_if (dt_cmp (f := neS) (op_neD (hu_64 hr)) hop_neS (de_ixS (de_var 0) de_str) (de_lst da_nil)) (de_meL PySem.F.slot_list_pop PySem.F.type_list_pop mt_popAt me_popAt (de_ixS (de_var 0) de_str) (da_cons de_int da_nil)) (de_call G.c53 hr tk (da_cons (de_var 0) da_nil)))))
  dss_nil)
  (dss_cons (ds_set 2 nd_54 (by rfl) (by first | exact Or.inl rfl | exact Or.inr rfl) (de_bin op_mod hop_mod (de_int1 G.b_int (da_cons (de_ixS (de_var 0) de_str) da_nil)) (de_var 1)))
  (dss_cons (ds_dput (hu_1 hr) (de_var 0) de_str (de_bin op_fdiv hop_fdiv (de_ixS (de_var 0) de_str) (de_var 1)))
  (dss_one (ds_ret (de_var 2))))))
theorem d_55 {P : Program} {w : World} {K : PySem.W.Frag} {mg : Str → Option Value} {base : Heap} {n : Nat} {F : Nat → Fd} {Λ : Nat → List D → Fd} (G : GF ⟨P, w, K, mg, base⟩ n F Λ) (f : Addr) (qual : Str) (cdv : Value) : BodyD P w K mg base n N_55 qual (defScope (top 55)) f cdv (defBody (top 55)) (m_55 F Λ) := by
  intro A outer s H E hr
  letI : FrI := frOf (cxOf (L2.CX P w) P w K mg base N_55 qual (defScope (top 55)) f cdv A outer s H E)
  have tk : Takes (cxOf (L2.CX P w) P w K mg base N_55 qual (defScope (top 55)) f cdv A outer s H E) (WE E) := takes_of rfl rfl rfl rfl
  exact (dss_one (ds_ret (de_ixS (de_var 1) (de_call G.c54 hr tk (da_cons (de_var 0) (da_cons (de_len G.b_len (da_cons (de_var 1) da_nil)) da_nil))))))
theorem d_56 {P : Program} {w : World} {K : PySem.W.Frag} {mg : Str → Option Value} {base : Heap} {n : Nat} {F : Nat → Fd} {Λ : Nat → List D → Fd} (G : GF ⟨P, w, K, mg, base⟩ n F Λ) (f : Addr) (qual : Str) (cdv : Value) : BodyD P w K mg base n N_56 qual (defScope (top 56)) f cdv (defBody (top 56)) (m_56 F Λ) := by
  intro A outer s H E hr
  letI : FrI := frOf (cxOf (L2.CX P w) P w K mg base N_56 qual (defScope (top 56)) f cdv A outer s H E)
  have tk : Takes (cxOf (L2.CX P w) P w K mg base N_56 qual (defScope (top 56)) f cdv A outer s H E) (WE E) := takes_of rfl rfl rfl rfl
  exact (dss_cons (ds_set 0 nd_56 (by rfl) (by first | exact Or.inl rfl | exact Or.inr rfl) (de_lst (da_cons (de_exc G.e_BadAct de_str) (da_cons (de_exc G.e_BadChosen de_str) (da_cons (de_exc G.e_BadCondition de_str) (da_cons (de_exc G.e_BadCosts de_str) (da_cons (de_exc G.e_BadCube de_str) (da_cons (de_exc G.e_BadEdit de_str) (da_cons (de_exc G.e_BadExpression de_str) (da_cons (de_exc G.e_BadFork de_str) (da_cons (de_exc G.e_BadForm de_str) (da_cons (de_exc G.e_BadHouse de_str) da_nil))))))))))))
  (dss_cons (ds_set 0 nd_56 (by rfl) (by first | exact Or.inl rfl | exact Or.inr rfl) (de_bin op_addD hop_add (de_var 0) (de_lst (da_cons (de_exc G.e_BadIndex de_str) (da_cons (de_exc G.e_BadInterface de_str) (da_cons (de_exc G.e_BadInterfaces de_str) (da_cons (de_exc G.e_BadLine de_str) (da_cons (de_exc G.e_BadLot de_str) (da_cons (de_exc G.e_BadLots de_str) (da_cons (de_exc G.e_BadMeasure de_str) (da_cons (de_exc G.e_BadMost de_str) (da_cons (de_exc G.e_BadMove de_str) da_nil))))))))))))
  (dss_cons (ds_set 0 nd_56 (by rfl) (by first | exact Or.inl rfl | exact Or.inr rfl) (de_bin op_addD hop_add (de_var 0) (de_lst (da_cons (de_exc G.e_BadNames de_str) (da_cons (de_exc G.e_BadNumber de_str) (da_cons (de_exc G.e_BadNumbers de_str) (da_cons (de_exc G.e_BadPart de_str) (da_cons (de_exc G.e_BadParts de_str) (da_cons (de_exc G.e_BadPatch de_str) (da_cons (de_exc G.e_BadPath de_str) (da_cons (de_exc G.e_BadRow de_str) (da_cons (de_exc G.e_BadSetting de_str) (da_cons (de_exc G.e_BadStep de_str) da_nil)))))))))))))
  (dss_cons (ds_set 0 nd_56 (by rfl) (by first | exact Or.inl rfl | exact Or.inr rfl) (de_bin op_addD hop_add (de_var 0) (de_lst (da_cons (de_exc G.e_BadSwitch de_str) (da_cons (de_exc G.e_BadTable de_str) (da_cons (de_exc G.e_BadTerm de_str) (da_cons (de_exc G.e_BadText de_str) (da_cons (de_exc G.e_BadTold de_str) (da_cons (de_exc G.e_LastSwitch de_str) (da_cons (de_exc G.e_NotAlike de_str) (da_cons (de_exc G.e_NotEnough de_str) (da_cons (de_exc G.e_NotGiven de_str) (da_cons (de_exc G.e_NotRight de_str) da_nil)))))))))))))
  (dss_cons (ds_set 0 nd_56 (by rfl) (by first | exact Or.inl rfl | exact Or.inr rfl) (de_bin op_addD hop_add (de_var 0) (de_lst (da_cons (de_exc G.e_NothingDone de_str) (da_cons (de_exc G.e_NothingUndone de_str) (da_cons (de_exc G.e_Unfit de_str) da_nil))))))
  (dss_one (ds_ret (de_var 0))))))))
theorem d_57 {P : Program} {w : World} {K : PySem.W.Frag} {mg : Str → Option Value} {base : Heap} {n : Nat} {F : Nat → Fd} {Λ : Nat → List D → Fd} (G : GF ⟨P, w, K, mg, base⟩ n F Λ) (f : Addr) (qual : Str) (cdv : Value) : BodyD P w K mg base n N_57 qual (defScope (top 57)) f cdv (defBody (top 57)) (m_57 F Λ) := by
  intro A outer s H E hr
  letI : FrI := frOf (cxOf (L2.CX P w) P w K mg base N_57 qual (defScope (top 57)) f cdv A outer s H E)
  have tk : Takes (cxOf (L2.CX P w) P w K mg base N_57 qual (defScope (top 57)) f cdv A outer s H E) (WE E) := takes_of rfl rfl rfl rfl
  exact (dss_cons (ds_own 2 nd_57 (by rfl) (by first | exact Or.inl rfl | exact Or.inr rfl) (df_lst da_nil))
  (dss_cons (ds_set 3 nd_57 (by rfl) (by first | exact Or.inl rfl | exact Or.inr rfl) (de_oinit G.o_BadRows hr (de_var 0)))
  (dss_cons (ds_expr (de_meO 2 PySem.F.slot_list_append PySem.F.type_list_append mt_append me_append (by rfl) (da_cons (de_tup (da_cons (de_var 3) (da_cons (de_lst (da_cons (de_at G.flds (de_var 3)) da_nil)) (da_cons (de_lst (da_cons (de_var 0) da_nil)) da_nil)))) da_nil)))
  (dss_cons (ds_set 3 nd_57 (by rfl) (by first | exact Or.inl rfl | exact Or.inr rfl) (de_oinit G.o_Caught hr (de_var 0)))
  (dss_cons (ds_expr (de_meO 2 PySem.F.slot_list_append PySem.F.type_list_append mt_append me_append (by rfl) (da_cons (de_tup (da_cons (de_var 3) (da_cons (de_lst (da_cons (de_at G.flds (de_var 3)) da_nil)) (da_cons (de_lst (da_cons (de_var 0) da_nil)) da_nil)))) da_nil)))
  (dss_cons (ds_set 3 nd_57 (by rfl) (by first | exact Or.inl rfl | exact Or.inr rfl) (de_oinit G.o_Clash hr (de_var 0)))
  (dss_cons (ds_expr (de_meO 2 PySem.F.slot_list_append PySem.F.type_list_append mt_append me_append (by rfl) (da_cons (de_tup (da_cons (de_var 3) (da_cons (de_lst (da_cons (de_at G.flds (de_var 3)) da_nil)) (da_cons (de_lst (da_cons (de_var 0) da_nil)) da_nil)))) da_nil)))
  (dss_cons (ds_set 3 nd_57 (by rfl) (by first | exact Or.inl rfl | exact Or.inr rfl) (de_oinit G.o_Clashing hr (de_var 0)))
  (dss_cons (ds_expr (de_meO 2 PySem.F.slot_list_append PySem.F.type_list_append mt_append me_append (by rfl) (da_cons (de_tup (da_cons (de_var 3) (da_cons (de_lst (da_cons (de_at G.flds (de_var 3)) da_nil)) (da_cons (de_lst (da_cons (de_var 0) da_nil)) da_nil)))) da_nil)))
  (dss_cons (ds_set 3 nd_57 (by rfl) (by first | exact Or.inl rfl | exact Or.inr rfl) (de_oinit G.o_Mixed hr (de_var 0)))
  (dss_cons (ds_expr (de_meO 2 PySem.F.slot_list_append PySem.F.type_list_append mt_append me_append (by rfl) (da_cons (de_tup (da_cons (de_var 3) (da_cons (de_lst (da_cons (de_at G.flds (de_var 3)) da_nil)) (da_cons (de_lst (da_cons (de_var 0) da_nil)) da_nil)))) da_nil)))
  (dss_cons (ds_set 3 nd_57 (by rfl) (by first | exact Or.inl rfl | exact Or.inr rfl) (de_oinit G.o_NotTold hr (de_var 0)))
  (dss_cons (ds_expr (de_meO 2 PySem.F.slot_list_append PySem.F.type_list_append mt_append me_append (by rfl) (da_cons (de_tup (da_cons (de_var 3) (da_cons (de_lst (da_cons (de_at G.flds (de_var 3)) da_nil)) (da_cons (de_lst (da_cons (de_var 0) da_nil)) da_nil)))) da_nil)))
  (dss_cons (ds_set 3 nd_57 (by rfl) (by first | exact Or.inl rfl | exact Or.inr rfl) (de_oinit G.o_TooMany hr (de_var 0)))
  (dss_cons (ds_expr (de_meO 2 PySem.F.slot_list_append PySem.F.type_list_append mt_append me_append (by rfl) (da_cons (de_tup (da_cons (de_var 3) (da_cons (de_lst (da_cons (de_at G.flds (de_var 3)) da_nil)) (da_cons (de_lst (da_cons (de_var 0) da_nil)) da_nil)))) da_nil)))
  (dss_one (ds_ret (de_var 2))))))))))))))))))
theorem d_58 {P : Program} {w : World} {K : PySem.W.Frag} {mg : Str → Option Value} {base : Heap} {n : Nat} {F : Nat → Fd} {Λ : Nat → List D → Fd} (G : GF ⟨P, w, K, mg, base⟩ n F Λ) (f : Addr) (qual : Str) (cdv : Value) : BodyD P w K mg base n N_58 qual (defScope (top 58)) f cdv (defBody (top 58)) (m_58 F Λ) := by
  intro A outer s H E hr
  letI : FrI := frOf (cxOf (L2.CX P w) P w K mg base N_58 qual (defScope (top 58)) f cdv A outer s H E)
  have tk : Takes (cxOf (L2.CX P w) P w K mg base N_58 qual (defScope (top 58)) f cdv A outer s H E) (WE E) := takes_of rfl rfl rfl rfl
  exact (dss_cons (ds_set 1 nd_58 (by rfl) (by first | exact Or.inl rfl | exact Or.inr rfl) (de_lst (da_cons (de_isiXC G.sup G.b_isinstance G.e_BadAct.mg (de_var 0)) (da_cons (de_isiXC G.sup G.b_isinstance G.e_BadChosen.mg (de_var 0)) (da_cons (de_isiXC G.sup G.b_isinstance G.e_BadCondition.mg (de_var 0)) (da_cons (de_isiXC G.sup G.b_isinstance G.e_BadCosts.mg (de_var 0)) (da_cons (de_isiXC G.sup G.b_isinstance G.e_BadCube.mg (de_var 0)) da_nil)))))))
  (dss_cons (ds_set 1 nd_58 (by rfl) (by first | exact Or.inl rfl | exact Or.inr rfl) (de_bin op_addD hop_add (de_var 1) (de_lst (da_cons (de_isiXC G.sup G.b_isinstance G.e_BadEdit.mg (de_var 0)) (da_cons (de_isiXC G.sup G.b_isinstance G.e_BadExpression.mg (de_var 0)) (da_cons (de_isiXC G.sup G.b_isinstance G.e_BadFork.mg (de_var 0)) (da_cons (de_isiXC G.sup G.b_isinstance G.e_BadForm.mg (de_var 0)) (da_cons (de_isiXC G.sup G.b_isinstance G.e_BadHouse.mg (de_var 0)) da_nil))))))))
  (dss_cons (ds_set 1 nd_58 (by rfl) (by first | exact Or.inl rfl | exact Or.inr rfl) (de_bin op_addD hop_add (de_var 1) (de_lst (da_cons (de_isiXC G.sup G.b_isinstance G.e_BadIndex.mg (de_var 0)) (da_cons (de_isiXC G.sup G.b_isinstance G.e_BadInterface.mg (de_var 0)) (da_cons (de_isiXC G.sup G.b_isinstance G.e_BadInterfaces.mg (de_var 0)) (da_cons (de_isiXC G.sup G.b_isinstance G.e_BadLine.mg (de_var 0)) (da_cons (de_isiXC G.sup G.b_isinstance G.e_BadLot.mg (de_var 0)) da_nil))))))))
  (dss_cons (ds_set 1 nd_58 (by rfl) (by first | exact Or.inl rfl | exact Or.inr rfl) (de_bin op_addD hop_add (de_var 1) (de_lst (da_cons (de_isiXC G.sup G.b_isinstance G.e_BadLots.mg (de_var 0)) (da_cons (de_isiXC G.sup G.b_isinstance G.e_BadMeasure.mg (de_var 0)) (da_cons (de_isiXC G.sup G.b_isinstance G.e_BadMost.mg (de_var 0)) (da_cons (de_isiXC G.sup G.b_isinstance G.e_BadMove.mg (de_var 0)) (da_cons (de_isiXC G.sup G.b_isinstance G.e_BadNames.mg (de_var 0)) da_nil))))))))
  (dss_cons (ds_set 1 nd_58 (by rfl) (by first | exact Or.inl rfl | exact Or.inr rfl) (de_bin op_addD hop_add (de_var 1) (de_lst (da_cons (de_isiXC G.sup G.b_isinstance G.e_BadNumber.mg (de_var 0)) (da_cons (de_isiXC G.sup G.b_isinstance G.e_BadNumbers.mg (de_var 0)) (da_cons (de_isiXC G.sup G.b_isinstance G.e_BadPart.mg (de_var 0)) (da_cons (de_isiXC G.sup G.b_isinstance G.e_BadParts.mg (de_var 0)) (da_cons (de_isiXC G.sup G.b_isinstance G.e_BadPatch.mg (de_var 0)) da_nil))))))))
  (dss_cons (ds_set 1 nd_58 (by rfl) (by first | exact Or.inl rfl | exact Or.inr rfl) (de_bin op_addD hop_add (de_var 1) (de_lst (da_cons (de_isiXC G.sup G.b_isinstance G.e_BadPath.mg (de_var 0)) (da_cons (de_isiXC G.sup G.b_isinstance G.e_BadRow.mg (de_var 0)) (da_cons (de_isiXC G.sup G.b_isinstance G.o_BadRows.mg (de_var 0)) (da_cons (de_isiXC G.sup G.b_isinstance G.e_BadSetting.mg (de_var 0)) (da_cons (de_isiXC G.sup G.b_isinstance G.e_BadStep.mg (de_var 0)) da_nil))))))))
  (dss_cons (ds_set 1 nd_58 (by rfl) (by first | exact Or.inl rfl | exact Or.inr rfl) (de_bin op_addD hop_add (de_var 1) (de_lst (da_cons (de_isiXC G.sup G.b_isinstance G.e_BadSwitch.mg (de_var 0)) (da_cons (de_isiXC G.sup G.b_isinstance G.e_BadTable.mg (de_var 0)) (da_cons (de_isiXC G.sup G.b_isinstance G.e_BadTerm.mg (de_var 0)) (da_cons (de_isiXC G.sup G.b_isinstance G.e_BadText.mg (de_var 0)) (da_cons (de_isiXC G.sup G.b_isinstance G.e_BadTold.mg (de_var 0)) da_nil))))))))
  (dss_cons (ds_set 1 nd_58 (by rfl) (by first | exact Or.inl rfl | exact Or.inr rfl) (de_bin op_addD hop_add (de_var 1) (de_lst (da_cons (de_isiXC G.sup G.b_isinstance G.o_Caught.mg (de_var 0)) (da_cons (de_isiXC G.sup G.b_isinstance G.o_Clash.mg (de_var 0)) (da_cons (de_isiXC G.sup G.b_isinstance G.o_Clashing.mg (de_var 0)) (da_cons (de_isiXC G.sup G.b_isinstance G.e_LastSwitch.mg (de_var 0)) (da_cons (de_isiXC G.sup G.b_isinstance G.o_Mixed.mg (de_var 0)) da_nil))))))))
  (dss_cons (ds_set 1 nd_58 (by rfl) (by first | exact Or.inl rfl | exact Or.inr rfl) (de_bin op_addD hop_add (de_var 1) (de_lst (da_cons (de_isiXC G.sup G.b_isinstance G.e_NotAlike.mg (de_var 0)) (da_cons (de_isiXC G.sup G.b_isinstance G.e_NotEnough.mg (de_var 0)) (da_cons (de_isiXC G.sup G.b_isinstance G.e_NotGiven.mg (de_var 0)) (da_cons (de_isiXC G.sup G.b_isinstance G.e_NotRight.mg (de_var 0)) (da_cons (de_isiXC G.sup G.b_isinstance G.o_NotTold.mg (de_var 0)) da_nil))))))))
  (dss_cons (ds_set 1 nd_58 (by rfl) (by first | exact Or.inl rfl | exact Or.inr rfl) (de_bin op_addD hop_add (de_var 1) (de_lst (da_cons (de_isiXC G.sup G.b_isinstance G.e_NothingDone.mg (de_var 0)) (da_cons (de_isiXC G.sup G.b_isinstance G.e_NothingUndone.mg (de_var 0)) (da_cons (de_isiXC G.sup G.b_isinstance G.o_TooMany.mg (de_var 0)) (da_cons (de_isiXC G.sup G.b_isinstance G.e_Unfit.mg (de_var 0)) da_nil)))))))
  (dss_one (ds_ret (de_of (df_lc [("_law_k", 2), ("_law_is_one", 3)] nd_58 (di_enumX G.b_enumerate (de_var 1)) (fun _ _ _ _ _ => (pgc_tup rfl (pgsc_cons (pgc_name 2 (by decide) nd_58 (by rfl) (by first | exact Or.inl rfl | exact Or.inr rfl)) (pgsc_cons (pgc_name 3 (by decide) nd_58 (by rfl) (by first | exact Or.inl rfl | exact Or.inr rfl)) pgsc_nil)))) (fun _ _ _ _ _ => (dts_one (dt_val (de_var 3)))) (fun _ _ _ _ _ => (de_var 2))))))))))))))))
theorem d_59 {P : Program} {w : World} {K : PySem.W.Frag} {mg : Str → Option Value} {base : Heap} {n : Nat} {F : Nat → Fd} {Λ : Nat → List D → Fd} (G : GF ⟨P, w, K, mg, base⟩ n F Λ) (f : Addr) (qual : Str) (cdv : Value) : BodyD P w K mg base n N_59 qual (defScope (top 59)) f cdv (defBody (top 59)) (m_59 F Λ) := by
  intro A outer s H E hr
  letI : FrI := frOf (cxOf (L2.CX P w) P w K mg base N_59 qual (defScope (top 59)) f cdv A outer s H E)
  have tk : Takes (cxOf (L2.CX P w) P w K mg base N_59 qual (defScope (top 59)) f cdv A outer s H E) (WE E) := takes_of rfl rfl rfl rfl
  exact (dss_cons (ds_set 1 nd_59 (by rfl) (by first | exact Or.inl rfl | exact Or.inr rfl) (de_call G.c52 hr tk (da_cons (de_var 0) da_nil)))
  (dss_cons (ds_set 2 nd_59 (by rfl) (by first | exact Or.inl rfl | exact Or.inr rfl) (de_lst (da_cons de_non (da_cons de_int (da_cons (de_neg de_int) (da_cons de_str (da_cons de_str (da_cons (de_tup (da_cons de_int (da_cons de_int da_nil))) (da_cons (de_lst (da_cons de_int da_nil)) (da_cons (de_of (df_dict (dps_str de_int dps_nil))) (da_cons de_bl (da_cons (de_bin op_pow hop_pow de_int de_int) da_nil))))))))))))
  (dss_cons (ds_parV (i := 3) (j := 4) nd_59 (by rfl) (by rfl) (by decide) (dv_val (de_call G.c55 hr tk (da_cons (de_var 1) (da_cons (de_var 2) da_nil)))) (dv_val (de_call G.c55 hr tk (da_cons (de_var 1) (da_cons (de_var 2) da_nil)))))
  (dss_cons (ds_set 5 nd_59 (by rfl) (by first | exact Or.inl rfl | exact Or.inr rfl) (de_call G.c57 hr tk (da_cons (de_var 3) (da_cons (de_var 4) da_nil))))
  (dss_cons (ds_set 6 nd_59 (by rfl) (by first | exact Or.inl rfl | exact Or.inr rfl) (de_bin op_addD hop_add (de_call0 G.c56 hr tk) (de_of (df_lc [("_law_entry", 11)] nd_59 (di_seq (de_var 5)) (fun _ _ _ _ _ => (pgc_name 11 (by decide) nd_59 (by rfl) (by first | exact Or.inl rfl | exact Or.inr rfl))) (fun _ _ _ _ _ => dts_nil) (fun _ _ _ _ _ => (de_ixS (de_var 11) de_int))))))
  (dss_cons (ds_lc 7 [("_law_error", 8)] nd_59 (by rfl) (di_seq (de_var 6)) (fun _ _ _ _ _ => (pgc_name 8 (by decide) nd_59 (by rfl) (by first | exact Or.inl rfl | exact Or.inr rfl))) (fun _ _ _ _ _ => dts_nil) (fun _ _ _ _ _ => (de_call G.c58 hr tk0 (da_cons (de_var 8) da_nil))))
  (dss_cons (ds_if (dt_w (dw_or (dt_cmp (f := neS) (op_neD (hu_64 hr)) hop_neS (de_of (df_lc [("_law_found", 12)] nd_59 (di_seq (de_var 7)) (fun _ _ _ _ _ => (pgc_name 12 (by decide) nd_59 (by rfl) (by first | exact Or.inl rfl | exact Or.inr rfl))) (fun _ _ _ _ _ => (dts_one (dt_cmp (f := neS) (op_neD (hu_64 hr)) hop_neS (de_len G.b_len (da_cons (de_var 12) da_nil)) de_int))) (fun _ _ _ _ _ => de_int))) (de_lst da_nil)) (dw_one' (dt_cmp (f := neS) (op_neD (hu_64 hr)) hop_neS (de_lenS G.b_len G.b_set (de_of (df_lc [("_law_found", 12)] nd_59 (di_seq (de_var 7)) (fun _ _ _ _ _ => (pgc_name 12 (by decide) nd_59 (by rfl) (by first | exact Or.inl rfl | exact Or.inr rfl))) (fun _ _ _ _ _ => dts_nil) (fun _ _ _ _ _ => (de_ixS (de_var 12) de_int))))) (de_len G.b_len (da_cons (de_var 6) da_nil))))))
  (dss_one (ds_ret de_bl))
  dss_nil)
  (dss_cons (ds_for (passes_of rfl) rfl (di_seq (de_var 5)) (pg_d_tup rfl (pgs_d_cons (pg_d 8 nd_59 (by rfl) (by first | exact Or.inl rfl | exact Or.inr rfl)) (pgs_d_cons (pg_d 9 nd_59 (by rfl) (by first | exact Or.inl rfl | exact Or.inr rfl)) (pgs_d_cons (pg_d 10 nd_59 (by rfl) (by first | exact Or.inl rfl | exact Or.inr rfl)) pgs_d_nil))))
  (dss_one (ds_if (dt_cmp (f := neS) (op_neD (hu_64 hr)) hop_neS (de_reprE G.bsys hr G.b_repr (da_cons (de_var 9) da_nil)) (de_reprE G.bsys hr G.b_repr (da_cons (de_var 10) da_nil)))
  (dss_one (ds_ret de_bl))
  dss_nil)))
  (dss_cons (ds_for (passes_of rfl) rfl (di_seq (de_var 6)) (pg_d 8 nd_59 (by rfl) (by first | exact Or.inl rfl | exact Or.inr rfl))
  (dss_one (ds_if (dt_w (dw_or (dt_not (dt_val (de_isiXC G.sup G.b_isinstance G.e_BuildError.mg (de_var 8)))) (dw_one' (dt_not (dt_val (de_isiX G.sup G.b_isinstance G.b_ValueError (by kernel_rfl) (de_var 8)))))))
  (dss_one (ds_ret de_bl))
  dss_nil)))
  (dss_one (ds_ret de_bl)))))))))))
end GK
namespace TI
open PySem PySem.Spec PyProof.Rows L2 DL GK
instance tkI : TK := ⟨fun K => HK.ask.tabs.map fun t => (tabAd K t.1, t.2)⟩
abbrev csOf (K : PySem.W.Frag) : List (Addr × Addr) := HK.ask.tabs.map fun t => (codeAd K t.1, tabAd K t.1)
section
variable {P : Program} {w : World} {K : PySem.W.Frag} {mg : Str → Option Value} {base h : Heap} {n : Nat}
structure Hd (w : World) (K : PySem.W.Frag) (h : Heap) (mg : Str → Option Value) : Prop where
  X : K.In h
  G : h.Ns mainGlobals mg
  c : He.SaysD HK.fa HK.fn K
  a : AskOk HK.ask w K h
theorem F_52 (h : He.SaysD HK.fa HK.fn K) : ∃ fd, FunE K "_law_begun" (GK.top 52) (He.ga K "_law_begun") fd := h.def_ 0 (d := HK.dOf 52 "_law_begun") rfl
theorem b_52 : BindN (GK.top 52) "_law_begun" ["_law_script"] := fun _ _ _ _ _ _ us hl => match us, hl with | [_], _ => rfl
theorem S_52 : FnScope N_52 ["_law_script"] (defScope (GK.top 52)) := ⟨rfl, rfl, rfl, nd_52, rfl, by decide +kernel, by decide +kernel⟩
theorem g0_52 (H : Hd w K h mg) (hg : mg "_law_begun" = some (.ref (He.ga K "_law_begun"))) : ∃ fd, FunG P w K mg base 0 "_law_begun" (GK.top 52) (He.ga K "_law_begun") fd ["_law_script"] (Phi 0 52) := by
  obtain ⟨fd, F⟩ := F_52 H.c
  exact ⟨fd, funG_0 F hg b_52⟩
theorem gs_52 (H : Hd w K h mg) (hg : mg "_law_begun" = some (.ref (He.ga K "_law_begun"))) (G : GF ⟨P, w, K, mg, base⟩ n (Phi n) (Lam n)) : ∃ fd, FunG P w K mg base (n + 1) "_law_begun" (GK.top 52) (He.ga K "_law_begun") fd ["_law_script"] (Phi (n + 1) 52) := by
  obtain ⟨fd, F⟩ := F_52 H.c
  exact ⟨fd, funG_s F hg b_52 S_52 (d_52 G _ _ _)⟩
theorem F_53 (h : He.SaysD HK.fa HK.fn K) : ∃ fd, FunE K "_law_mixed" (GK.top 53) (He.ga K "_law_mixed") fd := h.def_ 1 (d := HK.dOf 53 "_law_mixed") rfl
theorem b_53 : BindN (GK.top 53) "_law_mixed" ["_law_draw"] := fun _ _ _ _ _ _ us hl => match us, hl with | [_], _ => rfl
theorem S_53 : FnScope N_53 ["_law_draw"] (defScope (GK.top 53)) := ⟨rfl, rfl, rfl, nd_53, rfl, by decide +kernel, by decide +kernel⟩
theorem g0_53 (H : Hd w K h mg) (hg : mg "_law_mixed" = some (.ref (He.ga K "_law_mixed"))) : ∃ fd, FunG P w K mg base 0 "_law_mixed" (GK.top 53) (He.ga K "_law_mixed") fd ["_law_draw"] (Phi 0 53) := by
  obtain ⟨fd, F⟩ := F_53 H.c
  exact ⟨fd, funG_0 F hg b_53⟩
theorem gs_53 (H : Hd w K h mg) (hg : mg "_law_mixed" = some (.ref (He.ga K "_law_mixed"))) (G : GF ⟨P, w, K, mg, base⟩ n (Phi n) (Lam n)) : ∃ fd, FunG P w K mg base (n + 1) "_law_mixed" (GK.top 53) (He.ga K "_law_mixed") fd ["_law_draw"] (Phi (n + 1) 53) := by
  obtain ⟨fd, F⟩ := F_53 H.c
  exact ⟨fd, funG_s F hg b_53 S_53 (d_53 G _ _ _)⟩
theorem F_54 (h : He.SaysD HK.fa HK.fn K) : ∃ fd, FunE K "_law_take" (GK.top 54) (He.ga K "_law_take") fd := h.def_ 2 (d := HK.dOf 54 "_law_take") rfl
theorem b_54 : BindN (GK.top 54) "_law_take" ["_law_draw", "_law_many"] := fun _ _ _ _ _ _ us hl => match us, hl with | [_, _], _ => rfl
theorem S_54 : FnScope N_54 ["_law_draw", "_law_many"] (defScope (GK.top 54)) := ⟨rfl, rfl, rfl, nd_54, rfl, by decide +kernel, by decide +kernel⟩
theorem g0_54 (H : Hd w K h mg) (hg : mg "_law_take" = some (.ref (He.ga K "_law_take"))) : ∃ fd, FunG P w K mg base 0 "_law_take" (GK.top 54) (He.ga K "_law_take") fd ["_law_draw", "_law_many"] (Phi 0 54) := by
  obtain ⟨fd, F⟩ := F_54 H.c
  exact ⟨fd, funG_0 F hg b_54⟩
theorem gs_54 (H : Hd w K h mg) (hg : mg "_law_take" = some (.ref (He.ga K "_law_take"))) (G : GF ⟨P, w, K, mg, base⟩ n (Phi n) (Lam n)) : ∃ fd, FunG P w K mg base (n + 1) "_law_take" (GK.top 54) (He.ga K "_law_take") fd ["_law_draw", "_law_many"] (Phi (n + 1) 54) := by
  obtain ⟨fd, F⟩ := F_54 H.c
  exact ⟨fd, funG_s F hg b_54 S_54 (d_54 G _ _ _)⟩
theorem F_55 (h : He.SaysD HK.fa HK.fn K) : ∃ fd, FunE K "_law_pick" (GK.top 55) (He.ga K "_law_pick") fd := h.def_ 3 (d := HK.dOf 55 "_law_pick") rfl
theorem b_55 : BindN (GK.top 55) "_law_pick" ["_law_draw", "_law_some"] := fun _ _ _ _ _ _ us hl => match us, hl with | [_, _], _ => rfl
theorem S_55 : FnScope N_55 ["_law_draw", "_law_some"] (defScope (GK.top 55)) := ⟨rfl, rfl, rfl, nd_55, rfl, by decide +kernel, by decide +kernel⟩
theorem g0_55 (H : Hd w K h mg) (hg : mg "_law_pick" = some (.ref (He.ga K "_law_pick"))) : ∃ fd, FunG P w K mg base 0 "_law_pick" (GK.top 55) (He.ga K "_law_pick") fd ["_law_draw", "_law_some"] (Phi 0 55) := by
  obtain ⟨fd, F⟩ := F_55 H.c
  exact ⟨fd, funG_0 F hg b_55⟩
theorem gs_55 (H : Hd w K h mg) (hg : mg "_law_pick" = some (.ref (He.ga K "_law_pick"))) (G : GF ⟨P, w, K, mg, base⟩ n (Phi n) (Lam n)) : ∃ fd, FunG P w K mg base (n + 1) "_law_pick" (GK.top 55) (He.ga K "_law_pick") fd ["_law_draw", "_law_some"] (Phi (n + 1) 55) := by
  obtain ⟨fd, F⟩ := F_55 H.c
  exact ⟨fd, funG_s F hg b_55 S_55 (d_55 G _ _ _)⟩
theorem F_56 (h : He.SaysD HK.fa HK.fn K) : ∃ fd, FunE K "_law_plain_errors" (GK.top 56) (He.ga K "_law_plain_errors") fd := h.def_ 4 (d := HK.dOf 56 "_law_plain_errors") rfl
theorem b_56 : BindN (GK.top 56) "_law_plain_errors" [] := fun _ _ _ _ _ _ us hl => match us, hl with | [], _ => rfl
theorem S_56 : FnScope N_56 [] (defScope (GK.top 56)) := ⟨rfl, rfl, rfl, nd_56, rfl, by decide +kernel, by decide +kernel⟩
theorem g0_56 (H : Hd w K h mg) (hg : mg "_law_plain_errors" = some (.ref (He.ga K "_law_plain_errors"))) : ∃ fd, FunG P w K mg base 0 "_law_plain_errors" (GK.top 56) (He.ga K "_law_plain_errors") fd [] (Phi 0 56) := by
  obtain ⟨fd, F⟩ := F_56 H.c
  exact ⟨fd, funG_0 F hg b_56⟩
theorem gs_56 (H : Hd w K h mg) (hg : mg "_law_plain_errors" = some (.ref (He.ga K "_law_plain_errors"))) (G : GF ⟨P, w, K, mg, base⟩ n (Phi n) (Lam n)) : ∃ fd, FunG P w K mg base (n + 1) "_law_plain_errors" (GK.top 56) (He.ga K "_law_plain_errors") fd [] (Phi (n + 1) 56) := by
  obtain ⟨fd, F⟩ := F_56 H.c
  exact ⟨fd, funG_s F hg b_56 S_56 (d_56 G _ _ _)⟩
theorem F_57 (h : He.SaysD HK.fa HK.fn K) : ∃ fd, FunE K "_law_told_errors" (GK.top 57) (He.ga K "_law_told_errors") fd := h.def_ 5 (d := HK.dOf 57 "_law_told_errors") rfl
theorem b_57 : BindN (GK.top 57) "_law_told_errors" ["_law_one", "_law_other"] := fun _ _ _ _ _ _ us hl => match us, hl with | [_, _], _ => rfl
theorem S_57 : FnScope N_57 ["_law_one", "_law_other"] (defScope (GK.top 57)) := ⟨rfl, rfl, rfl, nd_57, rfl, by decide +kernel, by decide +kernel⟩
theorem g0_57 (H : Hd w K h mg) (hg : mg "_law_told_errors" = some (.ref (He.ga K "_law_told_errors"))) : ∃ fd, FunG P w K mg base 0 "_law_told_errors" (GK.top 57) (He.ga K "_law_told_errors") fd ["_law_one", "_law_other"] (Phi 0 57) := by
  obtain ⟨fd, F⟩ := F_57 H.c
  exact ⟨fd, funG_0 F hg b_57⟩
theorem gs_57 (H : Hd w K h mg) (hg : mg "_law_told_errors" = some (.ref (He.ga K "_law_told_errors"))) (G : GF ⟨P, w, K, mg, base⟩ n (Phi n) (Lam n)) : ∃ fd, FunG P w K mg base (n + 1) "_law_told_errors" (GK.top 57) (He.ga K "_law_told_errors") fd ["_law_one", "_law_other"] (Phi (n + 1) 57) := by
  obtain ⟨fd, F⟩ := F_57 H.c
  exact ⟨fd, funG_s F hg b_57 S_57 (d_57 G _ _ _)⟩
theorem F_58 (h : He.SaysD HK.fa HK.fn K) : ∃ fd, FunE K "_law_classes" (GK.top 58) (He.ga K "_law_classes") fd := h.def_ 6 (d := HK.dOf 58 "_law_classes") rfl
theorem b_58 : BindN (GK.top 58) "_law_classes" ["_law_error"] := fun _ _ _ _ _ _ us hl => match us, hl with | [_], _ => rfl
theorem S_58 : FnScope N_58 ["_law_error"] (defScope (GK.top 58)) := ⟨rfl, rfl, rfl, nd_58, rfl, by decide +kernel, by decide +kernel⟩
theorem g0_58 (H : Hd w K h mg) (hg : mg "_law_classes" = some (.ref (He.ga K "_law_classes"))) : ∃ fd, FunG P w K mg base 0 "_law_classes" (GK.top 58) (He.ga K "_law_classes") fd ["_law_error"] (Phi 0 58) := by
  obtain ⟨fd, F⟩ := F_58 H.c
  exact ⟨fd, funG_0 F hg b_58⟩
theorem gs_58 (H : Hd w K h mg) (hg : mg "_law_classes" = some (.ref (He.ga K "_law_classes"))) (G : GF ⟨P, w, K, mg, base⟩ n (Phi n) (Lam n)) : ∃ fd, FunG P w K mg base (n + 1) "_law_classes" (GK.top 58) (He.ga K "_law_classes") fd ["_law_error"] (Phi (n + 1) 58) := by
  obtain ⟨fd, F⟩ := F_58 H.c
  exact ⟨fd, funG_s F hg b_58 S_58 (d_58 G _ _ _)⟩
theorem F_59 (h : He.SaysD HK.fa HK.fn K) : ∃ fd, FunE K "law" (GK.top 59) (He.ga K "law") fd := h.def_ 7 (d := HK.dOf 59 "law") rfl
theorem b_59 : BindN (GK.top 59) "law" ["_law_script"] := fun _ _ _ _ _ _ us hl => match us, hl with | [_], _ => rfl
theorem S_59 : FnScope N_59 ["_law_script"] (defScope (GK.top 59)) := ⟨rfl, rfl, rfl, nd_59, rfl, by decide +kernel, by decide +kernel⟩
theorem gs_59 (H : Hd w K h mg) (hg : mg "law" = some (.ref (He.ga K "law"))) (G : GF ⟨P, w, K, mg, base⟩ n (Phi n) (Lam n)) : ∃ fd, FunG P w K mg base (n + 1) "law" (GK.top 59) (He.ga K "law") fd ["_law_script"] (Phi (n + 1) 59) := by
  obtain ⟨fd, F⟩ := F_59 H.c
  exact ⟨fd, funG_s F hg b_59 S_59 (d_59 G _ _ _)⟩
theorem tyEq_ok : ∀ {a b : Ty}, GK.tyEq a b = true → a = b
  | .b x, .b y, h => by rw [show x = y from eq_of_beq h]
  | .own x, .own y, h => by rw [show x = y from of_decide_eq_true h]
  | .b _, .own _, h => by cases h
  | .own _, .b _, h => by cases h
theorem sup_t : supT.all (fun u => match u with | .own x => supC.any (fun y => decide (y = x)) | .b T => T == "ValueError") = true := by decide +kernel
theorem sup_b : ("BuildError" : Str) ∈ GK.supC := by decide +kernel
theorem sup_of (h : ClsOk K HK.ask.clss) : SupOk K GK.sup := ⟨fun c t r e => by
  have h : ClsOk K GK.supC := h
  unfold GK.sup at e
  by_cases z : ((supC.any fun x => decide (x = c)) && supT.any (fun u => tyEq u t)) = true
  · rw [if_pos z] at e
    cases e
    obtain ⟨z1, z2⟩ := Bool.and_eq_true_iff.mp z
    obtain ⟨x, hx, ex⟩ := List.any_eq_true.mp z1
    obtain ⟨u, hu, eu⟩ := List.any_eq_true.mp z2
    have ex := of_decide_eq_true ex
    have eu := tyEq_ok eu
    subst ex eu
    have hu2 := List.all_eq_true.mp sup_t u hu
    refine ⟨(h.ok x hx).1, ?_⟩
    cases u with
    | own y =>
      obtain ⟨y2, hy, ey⟩ := List.any_eq_true.mp hu2
      have ey := of_decide_eq_true ey
      subst ey
      exact h.own sup_b hx hy
    | b T =>
      have eT : T = "ValueError" := eq_of_beq hu2
      subst eT
      exact h.ve hx
  · rw [if_neg z] at e
    cases e⟩
theorem exm_of (h : ∀ q ∈ GK.exmL, PySem.W.exmOne K (.ref (He.ga K q.2.1)) (.ref (He.ga K q.1)) = some q.2.2) : ∀ x y b, GK.exm x y = some b → PySem.W.exmOne K (.ref (He.ga K y)) (.ref (He.ga K x)) = some b := fun x y b e => by
  unfold GK.exm at e
  obtain ⟨q, hq, rfl⟩ := Option.map_eq_some_iff.mp e
  have m := List.mem_of_find?_eq_some hq
  have p := List.find?_some hq
  obtain ⟨p1, p2⟩ := Bool.and_eq_true_iff.mp p
  have p3 := of_decide_eq_true p1
  have p4 := of_decide_eq_true p2
  subst p3
  subst p4
  exact h q m
def ProgOk (P : Program) : Prop := ((P.main.file : Str) == PySem.Challenge.pw_manybuilds_k06_errors_made_and_bases.main.file) = true ∧ (P.main.scope.names.lookup ("super" : Str)).isSome = false
theorem ti_BadRows : TxtA HK.in_BadRows "bad rows" "self" "at" := ⟨⟨_, _, _, _, _, _, _, _, _, _, _, by rfl, by rfl⟩, ⟨_, by rfl, by rfl⟩, fun fd h1 h2 a b => by
  obtain ⟨n1, n2, n3, n4, n5, n6, n7, n8, n9, n10, n11, n12, n13, n14, n15⟩ := fd
  have h1 : n3 = _ := h1
  have h2 : n8 = _ := h2
  subst h1 h2
  rfl, by rfl, by rfl, by rfl, by rfl, by decide +kernel, by rfl, by rfl, by rfl, by decide +kernel, by decide +kernel, by decide +kernel⟩
theorem ti_Caught : TxtA HK.in_Caught "caught" "self" "path" := ⟨⟨_, _, _, _, _, _, _, _, _, _, _, by rfl, by rfl⟩, ⟨_, by rfl, by rfl⟩, fun fd h1 h2 a b => by
  obtain ⟨n1, n2, n3, n4, n5, n6, n7, n8, n9, n10, n11, n12, n13, n14, n15⟩ := fd
  have h1 : n3 = _ := h1
  have h2 : n8 = _ := h2
  subst h1 h2
  rfl, by rfl, by rfl, by rfl, by rfl, by decide +kernel, by rfl, by rfl, by rfl, by decide +kernel, by decide +kernel, by decide +kernel⟩
theorem ti_Clash : TxtA HK.in_Clash "clash" "self" "path" := ⟨⟨_, _, _, _, _, _, _, _, _, _, _, by rfl, by rfl⟩, ⟨_, by rfl, by rfl⟩, fun fd h1 h2 a b => by
  obtain ⟨n1, n2, n3, n4, n5, n6, n7, n8, n9, n10, n11, n12, n13, n14, n15⟩ := fd
  have h1 : n3 = _ := h1
  have h2 : n8 = _ := h2
  subst h1 h2
  rfl, by rfl, by rfl, by rfl, by rfl, by decide +kernel, by rfl, by rfl, by rfl, by decide +kernel, by decide +kernel, by decide +kernel⟩
theorem ti_Clashing : TxtA HK.in_Clashing "clashing" "self" "setting" := ⟨⟨_, _, _, _, _, _, _, _, _, _, _, by rfl, by rfl⟩, ⟨_, by rfl, by rfl⟩, fun fd h1 h2 a b => by
  obtain ⟨n1, n2, n3, n4, n5, n6, n7, n8, n9, n10, n11, n12, n13, n14, n15⟩ := fd
  have h1 : n3 = _ := h1
  have h2 : n8 = _ := h2
  subst h1 h2
  rfl, by rfl, by rfl, by rfl, by rfl, by decide +kernel, by rfl, by rfl, by rfl, by decide +kernel, by decide +kernel, by decide +kernel⟩
theorem ti_Mixed : TxtA HK.in_Mixed "mixed" "self" "x" := ⟨⟨_, _, _, _, _, _, _, _, _, _, _, by rfl, by rfl⟩, ⟨_, by rfl, by rfl⟩, fun fd h1 h2 a b => by
  obtain ⟨n1, n2, n3, n4, n5, n6, n7, n8, n9, n10, n11, n12, n13, n14, n15⟩ := fd
  have h1 : n3 = _ := h1
  have h2 : n8 = _ := h2
  subst h1 h2
  rfl, by rfl, by rfl, by rfl, by rfl, by decide +kernel, by rfl, by rfl, by rfl, by decide +kernel, by decide +kernel, by decide +kernel⟩
theorem ti_NotTold : TxtA HK.in_NotTold "not told" "self" "setting" := ⟨⟨_, _, _, _, _, _, _, _, _, _, _, by rfl, by rfl⟩, ⟨_, by rfl, by rfl⟩, fun fd h1 h2 a b => by
  obtain ⟨n1, n2, n3, n4, n5, n6, n7, n8, n9, n10, n11, n12, n13, n14, n15⟩ := fd
  have h1 : n3 = _ := h1
  have h2 : n8 = _ := h2
  subst h1 h2
  rfl, by rfl, by rfl, by rfl, by rfl, by decide +kernel, by rfl, by rfl, by rfl, by decide +kernel, by decide +kernel, by decide +kernel⟩
theorem ti_TooMany : TxtA HK.in_TooMany "too many" "self" "most" := ⟨⟨_, _, _, _, _, _, _, _, _, _, _, by rfl, by rfl⟩, ⟨_, by rfl, by rfl⟩, fun fd h1 h2 a b => by
  obtain ⟨n1, n2, n3, n4, n5, n6, n7, n8, n9, n10, n11, n12, n13, n14, n15⟩ := fd
  have h1 : n3 = _ := h1
  have h2 : n8 = _ := h2
  subst h1 h2
  rfl, by rfl, by rfl, by rfl, by rfl, by decide +kernel, by rfl, by rfl, by rfl, by decide +kernel, by decide +kernel, by decide +kernel⟩
theorem gf0 (H : Hd w K h mg) (hB : K.In base) (HP : ProgOk P) (T : ∀ p ∈ csOf K, LamX.TabB base mg p.1 p.2) : GF ⟨P, w, K, mg, base⟩ (0) (Phi (0)) (Lam (0)) := by
  obtain ⟨_, c52⟩ := g0_52 (P := P) (base := base) H (He.glo_ok H.X H.G (H.c.fact 0 (f := .glo "_law_begun") rfl))
  obtain ⟨_, c53⟩ := g0_53 (P := P) (base := base) H (He.glo_ok H.X H.G (H.c.fact 1 (f := .glo "_law_mixed") rfl))
  obtain ⟨_, c54⟩ := g0_54 (P := P) (base := base) H (He.glo_ok H.X H.G (H.c.fact 2 (f := .glo "_law_take") rfl))
  obtain ⟨_, c55⟩ := g0_55 (P := P) (base := base) H (He.glo_ok H.X H.G (H.c.fact 3 (f := .glo "_law_pick") rfl))
  obtain ⟨_, c56⟩ := g0_56 (P := P) (base := base) H (He.glo_ok H.X H.G (H.c.fact 4 (f := .glo "_law_plain_errors") rfl))
  obtain ⟨_, c57⟩ := g0_57 (P := P) (base := base) H (He.glo_ok H.X H.G (H.c.fact 5 (f := .glo "_law_told_errors") rfl))
  obtain ⟨_, c58⟩ := g0_58 (P := P) (base := base) H (He.glo_ok H.X H.G (H.c.fact 6 (f := .glo "_law_classes") rfl))
  exact {
    sup := sup_of H.a.clss
    exm := exm_of fun q hq => by
      cases hq
    lams := ⟨fun id L e => by
      have e2 : lamTab id = some L := e
      unfold lamTab at e2
      split at e2
      · cases e2⟩
    c52 := c52.callee
    c53 := c53.callee
    c54 := c54.callee
    c55 := c55.callee
    c56 := c56.callee
    c57 := c57.callee
    c58 := c58.callee
    bsys := ⟨by obtain ⟨o, e, hc⟩ := H.a.sys; exact ⟨o, hB _ _ e, hc⟩⟩
    b_ValueError := He.free_ok H.X H.G (H.c.fact 58 (f := .free "ValueError") rfl)
    b_abs := He.free_ok H.X H.G (H.c.fact 59 (f := .free "abs") rfl)
    b_enumerate := He.free_ok H.X H.G (H.c.fact 60 (f := .free "enumerate") rfl)
    b_int := He.free_ok H.X H.G (H.c.fact 61 (f := .free "int") rfl)
    b_isinstance := He.free_ok H.X H.G (H.c.fact 62 (f := .free "isinstance") rfl)
    b_len := He.free_ok H.X H.G (H.c.fact 63 (f := .free "len") rfl)
    b_repr := He.free_ok H.X H.G (H.c.fact 64 (f := .free "repr") rfl)
    b_set := He.free_ok H.X H.G (H.c.fact 65 (f := .free "set") rfl)
    e_BadAct := exck_of (He.glo_ok H.X H.G (H.c.fact 8 (f := .glo "BadAct") rfl)) (H.c.fact 66 (f := .exc "BadAct") rfl)
    e_BadChosen := exck_of (He.glo_ok H.X H.G (H.c.fact 9 (f := .glo "BadChosen") rfl)) (H.c.fact 67 (f := .exc "BadChosen") rfl)
    e_BadCondition := exck_of (He.glo_ok H.X H.G (H.c.fact 10 (f := .glo "BadCondition") rfl)) (H.c.fact 68 (f := .exc "BadCondition") rfl)
    e_BadCosts := exck_of (He.glo_ok H.X H.G (H.c.fact 11 (f := .glo "BadCosts") rfl)) (H.c.fact 69 (f := .exc "BadCosts") rfl)
    e_BadCube := exck_of (He.glo_ok H.X H.G (H.c.fact 12 (f := .glo "BadCube") rfl)) (H.c.fact 70 (f := .exc "BadCube") rfl)
    e_BadEdit := exck_of (He.glo_ok H.X H.G (H.c.fact 13 (f := .glo "BadEdit") rfl)) (H.c.fact 71 (f := .exc "BadEdit") rfl)
    e_BadExpression := exck_of (He.glo_ok H.X H.G (H.c.fact 14 (f := .glo "BadExpression") rfl)) (H.c.fact 72 (f := .exc "BadExpression") rfl)
    e_BadFork := exck_of (He.glo_ok H.X H.G (H.c.fact 15 (f := .glo "BadFork") rfl)) (H.c.fact 73 (f := .exc "BadFork") rfl)
    e_BadForm := exck_of (He.glo_ok H.X H.G (H.c.fact 16 (f := .glo "BadForm") rfl)) (H.c.fact 74 (f := .exc "BadForm") rfl)
    e_BadHouse := exck_of (He.glo_ok H.X H.G (H.c.fact 17 (f := .glo "BadHouse") rfl)) (H.c.fact 75 (f := .exc "BadHouse") rfl)
    e_BadIndex := exck_of (He.glo_ok H.X H.G (H.c.fact 18 (f := .glo "BadIndex") rfl)) (H.c.fact 76 (f := .exc "BadIndex") rfl)
    e_BadInterface := exck_of (He.glo_ok H.X H.G (H.c.fact 19 (f := .glo "BadInterface") rfl)) (H.c.fact 77 (f := .exc "BadInterface") rfl)
    e_BadInterfaces := exck_of (He.glo_ok H.X H.G (H.c.fact 20 (f := .glo "BadInterfaces") rfl)) (H.c.fact 78 (f := .exc "BadInterfaces") rfl)
    e_BadLine := exck_of (He.glo_ok H.X H.G (H.c.fact 21 (f := .glo "BadLine") rfl)) (H.c.fact 79 (f := .exc "BadLine") rfl)
    e_BadLot := exck_of (He.glo_ok H.X H.G (H.c.fact 22 (f := .glo "BadLot") rfl)) (H.c.fact 80 (f := .exc "BadLot") rfl)
    e_BadLots := exck_of (He.glo_ok H.X H.G (H.c.fact 23 (f := .glo "BadLots") rfl)) (H.c.fact 81 (f := .exc "BadLots") rfl)
    e_BadMeasure := exck_of (He.glo_ok H.X H.G (H.c.fact 24 (f := .glo "BadMeasure") rfl)) (H.c.fact 82 (f := .exc "BadMeasure") rfl)
    e_BadMost := exck_of (He.glo_ok H.X H.G (H.c.fact 25 (f := .glo "BadMost") rfl)) (H.c.fact 83 (f := .exc "BadMost") rfl)
    e_BadMove := exck_of (He.glo_ok H.X H.G (H.c.fact 26 (f := .glo "BadMove") rfl)) (H.c.fact 84 (f := .exc "BadMove") rfl)
    e_BadNames := exck_of (He.glo_ok H.X H.G (H.c.fact 27 (f := .glo "BadNames") rfl)) (H.c.fact 85 (f := .exc "BadNames") rfl)
    e_BadNumber := exck_of (He.glo_ok H.X H.G (H.c.fact 28 (f := .glo "BadNumber") rfl)) (H.c.fact 86 (f := .exc "BadNumber") rfl)
    e_BadNumbers := exck_of (He.glo_ok H.X H.G (H.c.fact 29 (f := .glo "BadNumbers") rfl)) (H.c.fact 87 (f := .exc "BadNumbers") rfl)
    e_BadPart := exck_of (He.glo_ok H.X H.G (H.c.fact 30 (f := .glo "BadPart") rfl)) (H.c.fact 88 (f := .exc "BadPart") rfl)
    e_BadParts := exck_of (He.glo_ok H.X H.G (H.c.fact 31 (f := .glo "BadParts") rfl)) (H.c.fact 89 (f := .exc "BadParts") rfl)
    e_BadPatch := exck_of (He.glo_ok H.X H.G (H.c.fact 32 (f := .glo "BadPatch") rfl)) (H.c.fact 90 (f := .exc "BadPatch") rfl)
    e_BadPath := exck_of (He.glo_ok H.X H.G (H.c.fact 33 (f := .glo "BadPath") rfl)) (H.c.fact 91 (f := .exc "BadPath") rfl)
    e_BadRow := exck_of (He.glo_ok H.X H.G (H.c.fact 34 (f := .glo "BadRow") rfl)) (H.c.fact 92 (f := .exc "BadRow") rfl)
    e_BadSetting := exck_of (He.glo_ok H.X H.G (H.c.fact 36 (f := .glo "BadSetting") rfl)) (H.c.fact 93 (f := .exc "BadSetting") rfl)
    e_BadStep := exck_of (He.glo_ok H.X H.G (H.c.fact 37 (f := .glo "BadStep") rfl)) (H.c.fact 94 (f := .exc "BadStep") rfl)
    e_BadSwitch := exck_of (He.glo_ok H.X H.G (H.c.fact 38 (f := .glo "BadSwitch") rfl)) (H.c.fact 95 (f := .exc "BadSwitch") rfl)
    e_BadTable := exck_of (He.glo_ok H.X H.G (H.c.fact 39 (f := .glo "BadTable") rfl)) (H.c.fact 96 (f := .exc "BadTable") rfl)
    e_BadTerm := exck_of (He.glo_ok H.X H.G (H.c.fact 40 (f := .glo "BadTerm") rfl)) (H.c.fact 97 (f := .exc "BadTerm") rfl)
    e_BadText := exck_of (He.glo_ok H.X H.G (H.c.fact 41 (f := .glo "BadText") rfl)) (H.c.fact 98 (f := .exc "BadText") rfl)
    e_BadTold := exck_of (He.glo_ok H.X H.G (H.c.fact 42 (f := .glo "BadTold") rfl)) (H.c.fact 99 (f := .exc "BadTold") rfl)
    e_BuildError := exck_of (He.glo_ok H.X H.G (H.c.fact 43 (f := .glo "BuildError") rfl)) (H.c.fact 100 (f := .exc "BuildError") rfl)
    e_LastSwitch := exck_of (He.glo_ok H.X H.G (H.c.fact 47 (f := .glo "LastSwitch") rfl)) (H.c.fact 101 (f := .exc "LastSwitch") rfl)
    e_NotAlike := exck_of (He.glo_ok H.X H.G (H.c.fact 49 (f := .glo "NotAlike") rfl)) (H.c.fact 102 (f := .exc "NotAlike") rfl)
    e_NotEnough := exck_of (He.glo_ok H.X H.G (H.c.fact 50 (f := .glo "NotEnough") rfl)) (H.c.fact 103 (f := .exc "NotEnough") rfl)
    e_NotGiven := exck_of (He.glo_ok H.X H.G (H.c.fact 51 (f := .glo "NotGiven") rfl)) (H.c.fact 104 (f := .exc "NotGiven") rfl)
    e_NotRight := exck_of (He.glo_ok H.X H.G (H.c.fact 52 (f := .glo "NotRight") rfl)) (H.c.fact 105 (f := .exc "NotRight") rfl)
    e_NothingDone := exck_of (He.glo_ok H.X H.G (H.c.fact 54 (f := .glo "NothingDone") rfl)) (H.c.fact 106 (f := .exc "NothingDone") rfl)
    e_NothingUndone := exck_of (He.glo_ok H.X H.G (H.c.fact 55 (f := .glo "NothingUndone") rfl)) (H.c.fact 107 (f := .exc "NothingUndone") rfl)
    e_Unfit := exck_of (He.glo_ok H.X H.G (H.c.fact 57 (f := .glo "Unfit") rfl)) (H.c.fact 108 (f := .exc "Unfit") rfl)
    o_BadRows := oink_of (He.glo_ok H.X H.G (H.c.fact 35 (f := .glo "BadRows") rfl)) (H.a.inits HK.in_BadRows (List.mem_of_getElem? (i := 0) rfl)) HP.1 HP.2 ti_BadRows
    o_Caught := oink_of (He.glo_ok H.X H.G (H.c.fact 44 (f := .glo "Caught") rfl)) (H.a.inits HK.in_Caught (List.mem_of_getElem? (i := 1) rfl)) HP.1 HP.2 ti_Caught
    o_Clash := oink_of (He.glo_ok H.X H.G (H.c.fact 45 (f := .glo "Clash") rfl)) (H.a.inits HK.in_Clash (List.mem_of_getElem? (i := 2) rfl)) HP.1 HP.2 ti_Clash
    o_Clashing := oink_of (He.glo_ok H.X H.G (H.c.fact 46 (f := .glo "Clashing") rfl)) (H.a.inits HK.in_Clashing (List.mem_of_getElem? (i := 3) rfl)) HP.1 HP.2 ti_Clashing
    o_Mixed := oink_of (He.glo_ok H.X H.G (H.c.fact 48 (f := .glo "Mixed") rfl)) (H.a.inits HK.in_Mixed (List.mem_of_getElem? (i := 4) rfl)) HP.1 HP.2 ti_Mixed
    o_NotTold := oink_of (He.glo_ok H.X H.G (H.c.fact 53 (f := .glo "NotTold") rfl)) (H.a.inits HK.in_NotTold (List.mem_of_getElem? (i := 5) rfl)) HP.1 HP.2 ti_NotTold
    o_TooMany := oink_of (He.glo_ok H.X H.G (H.c.fact 56 (f := .glo "TooMany") rfl)) (H.a.inits HK.in_TooMany (List.mem_of_getElem? (i := 6) rfl)) HP.1 HP.2 ti_TooMany
    flds := fldOk_of fun p hp => H.a.flds p hp
  }
theorem gf_s (H : Hd w K h mg) (hB : K.In base) (HP : ProgOk P) (T : ∀ p ∈ csOf K, LamX.TabB base mg p.1 p.2) (G : GF ⟨P, w, K, mg, base⟩ n (Phi n) (Lam n)) : GF ⟨P, w, K, mg, base⟩ (n + 1) (Phi (n + 1)) (Lam (n + 1)) := by
  obtain ⟨_, c52⟩ := gs_52 (P := P) (base := base) H (He.glo_ok H.X H.G (H.c.fact 0 (f := .glo "_law_begun") rfl)) G
  obtain ⟨_, c53⟩ := gs_53 (P := P) (base := base) H (He.glo_ok H.X H.G (H.c.fact 1 (f := .glo "_law_mixed") rfl)) G
  obtain ⟨_, c54⟩ := gs_54 (P := P) (base := base) H (He.glo_ok H.X H.G (H.c.fact 2 (f := .glo "_law_take") rfl)) G
  obtain ⟨_, c55⟩ := gs_55 (P := P) (base := base) H (He.glo_ok H.X H.G (H.c.fact 3 (f := .glo "_law_pick") rfl)) G
  obtain ⟨_, c56⟩ := gs_56 (P := P) (base := base) H (He.glo_ok H.X H.G (H.c.fact 4 (f := .glo "_law_plain_errors") rfl)) G
  obtain ⟨_, c57⟩ := gs_57 (P := P) (base := base) H (He.glo_ok H.X H.G (H.c.fact 5 (f := .glo "_law_told_errors") rfl)) G
  obtain ⟨_, c58⟩ := gs_58 (P := P) (base := base) H (He.glo_ok H.X H.G (H.c.fact 6 (f := .glo "_law_classes") rfl)) G
  exact {
    sup := sup_of H.a.clss
    exm := exm_of fun q hq => by
      cases hq
    lams := ⟨fun id L e => by
      have e2 : lamTab id = some L := e
      unfold lamTab at e2
      split at e2
      · cases e2⟩
    c52 := c52.callee
    c53 := c53.callee
    c54 := c54.callee
    c55 := c55.callee
    c56 := c56.callee
    c57 := c57.callee
    c58 := c58.callee
    bsys := ⟨by obtain ⟨o, e, hc⟩ := H.a.sys; exact ⟨o, hB _ _ e, hc⟩⟩
    b_ValueError := He.free_ok H.X H.G (H.c.fact 58 (f := .free "ValueError") rfl)
    b_abs := He.free_ok H.X H.G (H.c.fact 59 (f := .free "abs") rfl)
    b_enumerate := He.free_ok H.X H.G (H.c.fact 60 (f := .free "enumerate") rfl)
    b_int := He.free_ok H.X H.G (H.c.fact 61 (f := .free "int") rfl)
    b_isinstance := He.free_ok H.X H.G (H.c.fact 62 (f := .free "isinstance") rfl)
    b_len := He.free_ok H.X H.G (H.c.fact 63 (f := .free "len") rfl)
    b_repr := He.free_ok H.X H.G (H.c.fact 64 (f := .free "repr") rfl)
    b_set := He.free_ok H.X H.G (H.c.fact 65 (f := .free "set") rfl)
    e_BadAct := exck_of (He.glo_ok H.X H.G (H.c.fact 8 (f := .glo "BadAct") rfl)) (H.c.fact 66 (f := .exc "BadAct") rfl)
    e_BadChosen := exck_of (He.glo_ok H.X H.G (H.c.fact 9 (f := .glo "BadChosen") rfl)) (H.c.fact 67 (f := .exc "BadChosen") rfl)
    e_BadCondition := exck_of (He.glo_ok H.X H.G (H.c.fact 10 (f := .glo "BadCondition") rfl)) (H.c.fact 68 (f := .exc "BadCondition") rfl)
    e_BadCosts := exck_of (He.glo_ok H.X H.G (H.c.fact 11 (f := .glo "BadCosts") rfl)) (H.c.fact 69 (f := .exc "BadCosts") rfl)
    e_BadCube := exck_of (He.glo_ok H.X H.G (H.c.fact 12 (f := .glo "BadCube") rfl)) (H.c.fact 70 (f := .exc "BadCube") rfl)
    e_BadEdit := exck_of (He.glo_ok H.X H.G (H.c.fact 13 (f := .glo "BadEdit") rfl)) (H.c.fact 71 (f := .exc "BadEdit") rfl)
    e_BadExpression := exck_of (He.glo_ok H.X H.G (H.c.fact 14 (f := .glo "BadExpression") rfl)) (H.c.fact 72 (f := .exc "BadExpression") rfl)
    e_BadFork := exck_of (He.glo_ok H.X H.G (H.c.fact 15 (f := .glo "BadFork") rfl)) (H.c.fact 73 (f := .exc "BadFork") rfl)
    e_BadForm := exck_of (He.glo_ok H.X H.G (H.c.fact 16 (f := .glo "BadForm") rfl)) (H.c.fact 74 (f := .exc "BadForm") rfl)
    e_BadHouse := exck_of (He.glo_ok H.X H.G (H.c.fact 17 (f := .glo "BadHouse") rfl)) (H.c.fact 75 (f := .exc "BadHouse") rfl)
    e_BadIndex := exck_of (He.glo_ok H.X H.G (H.c.fact 18 (f := .glo "BadIndex") rfl)) (H.c.fact 76 (f := .exc "BadIndex") rfl)
    e_BadInterface := exck_of (He.glo_ok H.X H.G (H.c.fact 19 (f := .glo "BadInterface") rfl)) (H.c.fact 77 (f := .exc "BadInterface") rfl)
    e_BadInterfaces := exck_of (He.glo_ok H.X H.G (H.c.fact 20 (f := .glo "BadInterfaces") rfl)) (H.c.fact 78 (f := .exc "BadInterfaces") rfl)
    e_BadLine := exck_of (He.glo_ok H.X H.G (H.c.fact 21 (f := .glo "BadLine") rfl)) (H.c.fact 79 (f := .exc "BadLine") rfl)
    e_BadLot := exck_of (He.glo_ok H.X H.G (H.c.fact 22 (f := .glo "BadLot") rfl)) (H.c.fact 80 (f := .exc "BadLot") rfl)
    e_BadLots := exck_of (He.glo_ok H.X H.G (H.c.fact 23 (f := .glo "BadLots") rfl)) (H.c.fact 81 (f := .exc "BadLots") rfl)
    e_BadMeasure := exck_of (He.glo_ok H.X H.G (H.c.fact 24 (f := .glo "BadMeasure") rfl)) (H.c.fact 82 (f := .exc "BadMeasure") rfl)
    e_BadMost := exck_of (He.glo_ok H.X H.G (H.c.fact 25 (f := .glo "BadMost") rfl)) (H.c.fact 83 (f := .exc "BadMost") rfl)
    e_BadMove := exck_of (He.glo_ok H.X H.G (H.c.fact 26 (f := .glo "BadMove") rfl)) (H.c.fact 84 (f := .exc "BadMove") rfl)
    e_BadNames := exck_of (He.glo_ok H.X H.G (H.c.fact 27 (f := .glo "BadNames") rfl)) (H.c.fact 85 (f := .exc "BadNames") rfl)
    e_BadNumber := exck_of (He.glo_ok H.X H.G (H.c.fact 28 (f := .glo "BadNumber") rfl)) (H.c.fact 86 (f := .exc "BadNumber") rfl)
    e_BadNumbers := exck_of (He.glo_ok H.X H.G (H.c.fact 29 (f := .glo "BadNumbers") rfl)) (H.c.fact 87 (f := .exc "BadNumbers") rfl)
    e_BadPart := exck_of (He.glo_ok H.X H.G (H.c.fact 30 (f := .glo "BadPart") rfl)) (H.c.fact 88 (f := .exc "BadPart") rfl)
    e_BadParts := exck_of (He.glo_ok H.X H.G (H.c.fact 31 (f := .glo "BadParts") rfl)) (H.c.fact 89 (f := .exc "BadParts") rfl)
    e_BadPatch := exck_of (He.glo_ok H.X H.G (H.c.fact 32 (f := .glo "BadPatch") rfl)) (H.c.fact 90 (f := .exc "BadPatch") rfl)
    e_BadPath := exck_of (He.glo_ok H.X H.G (H.c.fact 33 (f := .glo "BadPath") rfl)) (H.c.fact 91 (f := .exc "BadPath") rfl)
    e_BadRow := exck_of (He.glo_ok H.X H.G (H.c.fact 34 (f := .glo "BadRow") rfl)) (H.c.fact 92 (f := .exc "BadRow") rfl)
    e_BadSetting := exck_of (He.glo_ok H.X H.G (H.c.fact 36 (f := .glo "BadSetting") rfl)) (H.c.fact 93 (f := .exc "BadSetting") rfl)
    e_BadStep := exck_of (He.glo_ok H.X H.G (H.c.fact 37 (f := .glo "BadStep") rfl)) (H.c.fact 94 (f := .exc "BadStep") rfl)
    e_BadSwitch := exck_of (He.glo_ok H.X H.G (H.c.fact 38 (f := .glo "BadSwitch") rfl)) (H.c.fact 95 (f := .exc "BadSwitch") rfl)
    e_BadTable := exck_of (He.glo_ok H.X H.G (H.c.fact 39 (f := .glo "BadTable") rfl)) (H.c.fact 96 (f := .exc "BadTable") rfl)
    e_BadTerm := exck_of (He.glo_ok H.X H.G (H.c.fact 40 (f := .glo "BadTerm") rfl)) (H.c.fact 97 (f := .exc "BadTerm") rfl)
    e_BadText := exck_of (He.glo_ok H.X H.G (H.c.fact 41 (f := .glo "BadText") rfl)) (H.c.fact 98 (f := .exc "BadText") rfl)
    e_BadTold := exck_of (He.glo_ok H.X H.G (H.c.fact 42 (f := .glo "BadTold") rfl)) (H.c.fact 99 (f := .exc "BadTold") rfl)
    e_BuildError := exck_of (He.glo_ok H.X H.G (H.c.fact 43 (f := .glo "BuildError") rfl)) (H.c.fact 100 (f := .exc "BuildError") rfl)
    e_LastSwitch := exck_of (He.glo_ok H.X H.G (H.c.fact 47 (f := .glo "LastSwitch") rfl)) (H.c.fact 101 (f := .exc "LastSwitch") rfl)
    e_NotAlike := exck_of (He.glo_ok H.X H.G (H.c.fact 49 (f := .glo "NotAlike") rfl)) (H.c.fact 102 (f := .exc "NotAlike") rfl)
    e_NotEnough := exck_of (He.glo_ok H.X H.G (H.c.fact 50 (f := .glo "NotEnough") rfl)) (H.c.fact 103 (f := .exc "NotEnough") rfl)
    e_NotGiven := exck_of (He.glo_ok H.X H.G (H.c.fact 51 (f := .glo "NotGiven") rfl)) (H.c.fact 104 (f := .exc "NotGiven") rfl)
    e_NotRight := exck_of (He.glo_ok H.X H.G (H.c.fact 52 (f := .glo "NotRight") rfl)) (H.c.fact 105 (f := .exc "NotRight") rfl)
    e_NothingDone := exck_of (He.glo_ok H.X H.G (H.c.fact 54 (f := .glo "NothingDone") rfl)) (H.c.fact 106 (f := .exc "NothingDone") rfl)
    e_NothingUndone := exck_of (He.glo_ok H.X H.G (H.c.fact 55 (f := .glo "NothingUndone") rfl)) (H.c.fact 107 (f := .exc "NothingUndone") rfl)
    e_Unfit := exck_of (He.glo_ok H.X H.G (H.c.fact 57 (f := .glo "Unfit") rfl)) (H.c.fact 108 (f := .exc "Unfit") rfl)
    o_BadRows := oink_of (He.glo_ok H.X H.G (H.c.fact 35 (f := .glo "BadRows") rfl)) (H.a.inits HK.in_BadRows (List.mem_of_getElem? (i := 0) rfl)) HP.1 HP.2 ti_BadRows
    o_Caught := oink_of (He.glo_ok H.X H.G (H.c.fact 44 (f := .glo "Caught") rfl)) (H.a.inits HK.in_Caught (List.mem_of_getElem? (i := 1) rfl)) HP.1 HP.2 ti_Caught
    o_Clash := oink_of (He.glo_ok H.X H.G (H.c.fact 45 (f := .glo "Clash") rfl)) (H.a.inits HK.in_Clash (List.mem_of_getElem? (i := 2) rfl)) HP.1 HP.2 ti_Clash
    o_Clashing := oink_of (He.glo_ok H.X H.G (H.c.fact 46 (f := .glo "Clashing") rfl)) (H.a.inits HK.in_Clashing (List.mem_of_getElem? (i := 3) rfl)) HP.1 HP.2 ti_Clashing
    o_Mixed := oink_of (He.glo_ok H.X H.G (H.c.fact 48 (f := .glo "Mixed") rfl)) (H.a.inits HK.in_Mixed (List.mem_of_getElem? (i := 4) rfl)) HP.1 HP.2 ti_Mixed
    o_NotTold := oink_of (He.glo_ok H.X H.G (H.c.fact 53 (f := .glo "NotTold") rfl)) (H.a.inits HK.in_NotTold (List.mem_of_getElem? (i := 5) rfl)) HP.1 HP.2 ti_NotTold
    o_TooMany := oink_of (He.glo_ok H.X H.G (H.c.fact 56 (f := .glo "TooMany") rfl)) (H.a.inits HK.in_TooMany (List.mem_of_getElem? (i := 6) rfl)) HP.1 HP.2 ti_TooMany
    flds := fldOk_of fun p hp => H.a.flds p hp
  }
theorem gf (H : Hd w K h mg) (hB : K.In base) (HP : ProgOk P) (T : ∀ p ∈ csOf K, LamX.TabB base mg p.1 p.2) : ∀ n, GF ⟨P, w, K, mg, base⟩ n (Phi n) (Lam n)
  | 0 => gf0 H hB HP T
  | n + 1 => gf_s H hB HP T (gf H hB HP T n)
theorem law_d (H : Hd w K h mg) (hB : K.In base) (HP : ProgOk P) (T : ∀ p ∈ csOf K, LamX.TabB base mg p.1 p.2) (n : Nat) : ∃ fd, FunG P w K mg base (n + 1) "law" (GK.top 59) (He.ga K "law") fd ["_law_script"] (Phi (n + 1) 59) := gs_59 H (He.glo_ok H.X H.G (H.c.fact 7 (f := .glo "law") rfl)) (gf H hB HP T n)
end
def Plain (k : Nat) : Prop := ∀ ns : List Int, ns.length ≤ 63 → (∀ z ∈ ns, Builtin.Int.intBits z ≤ 1048576) → ∃ st, Phi (k + 1) 59 [.lst (ns.map D.int)] [] = .ok (.bl true) ⟨[], st⟩
end TI
open PySem PySem.W PySem.Calls PyProof.Rows DL in
theorem tie_k06 {k : Nat} (hk : decide (3 * (k + 1) < 690) = true) (hp : TI.Plain k) : PySem.Challenge.rw_manybuilds_k06_errors_made_and_bases.Holds := by
  w_on; o_law
  refine HandSHeadRun.head_any (r := OpenLaw.row PySem.Challenge.rw_manybuilds_k06_errors_made_and_bases) (q := view (OpenLaw.row PySem.Challenge.rw_manybuilds_k06_errors_made_and_bases).prog [59]) (H := HK.hk) (ob := HK.ob) (M := 20000) (loose := HK.loose) (d := HandSHeadRun.topDef (OpenLaw.row PySem.Challenge.rw_manybuilds_k06_errors_made_and_bases).prog 59) (kwd := []) HK.ob_eq
    (by kernel_rfl) (fun s => by kernel_rfl) HK.run (by kernel_rfl) (by kernel_rfl) (by kernel_rfl) (by rfl) (by first | assumption | decide +kernel) (by decide +kernel) ⟨rfl, rfl, rfl, rfl, rfl, by decide +kernel⟩ ?hw ?hc
  case hw => w_witness2
  case hc =>
    refine DL.walk_ofX (l := PySem.Challenge.rw_manybuilds_k06_errors_made_and_bases) (n := 63) (k := k + 1) (x := "_law_script") rfl (by decide) (by kernel_rfl) (DL.roomG_k hk) ?F
    intro w mg fa h Y G hmg0
    obtain ⟨K, KX, c, a⟩ := Y
    have hmg : mg ("law" : PySem.Str) = some (.ref fa) := by
      have e : (HandSHeadRun.topDef (OpenLaw.row PySem.Challenge.rw_manybuilds_k06_errors_made_and_bases).prog 59).name = ("law" : PySem.Str) := by kernel_rfl
      rw [← e]
      exact hmg0
    have H : TI.Hd w K h mg := ⟨KX, G, c, a⟩
    have e := hmg.symm.trans (He.glo_ok KX G (c.fact 7 (f := .glo "law") rfl))
    cases e
    obtain ⟨fd, F⟩ := TI.F_59 (K := K) c
    refine ⟨K, fd, TI.csOf K, DL.spD (DL.cwOf PySem.Challenge.rw_manybuilds_k06_errors_made_and_bases.prog w K) 1 (GK.Phi (k + 1) 59), KX, fun p hp => ?_, fun p hp => ?_, fun p hp => ?_, fun s v => DL.bind1 F TI.b_59 s v, fun o sa ns hl hb na hS => DL.sp_start (g := GK.Phi (k + 1) 59) hS na (DL.tabs_in) (hp ns hl hb), fun base hB _ T => ?_⟩
    · obtain ⟨t, ht, rfl⟩ := List.mem_map.mp hp
      exact (a.tabs t ht).2.2.1
    · obtain ⟨t, ht, rfl⟩ := List.mem_map.mp hp
      exact (a.tabs t ht).2.2.2
    · obtain ⟨t, ht, rfl⟩ := List.mem_map.mp hp
      exact (a.tabs t ht).2.1
    · obtain ⟨fd', L⟩ := TI.law_d (P := PySem.Challenge.rw_manybuilds_k06_errors_made_and_bases.prog) (base := base) H hB ⟨by kernel_rfl, by kernel_rfl⟩ T k
      have e := DL.funE_fd F L.F
      cases e
      exact L.G
namespace DL
open PySem PySem.Spec PyProof.Rows L2
def WP {α : Type} (o : Out α) (Q : α → S → Prop) (E : DX → S → Prop) : Prop := match o with
  | .ok a s => Q a s
  | .exc x s => E x s
  | .stuck => False
abbrev NoE : DX → S → Prop := fun _ _ => False
section
variable {α β : Type} {Q Q' : α → S → Prop} {E E' : DX → S → Prop} {s : S} {a : α} {o : Out α}
theorem WP.imp (h : WP o Q E) (f : ∀ a s, Q a s → Q' a s) (g : ∀ x s, E x s → E' x s) : WP o Q' E' := by
  cases o with
  | ok a s => exact f _ _ h
  | exc x s => exact g _ _ h
  | stuck => exact h
theorem WP.mono (h : WP o Q E) (f : ∀ a s, Q a s → Q' a s) : WP o Q' E := h.imp f fun _ _ z => z
theorem wp_ok : WP (.ok a s) Q E = Q a s := rfl
theorem wp_pure : WP (M.pure a s) Q E = Q a s := rfl
theorem wp_pure' : WP ((pure a : M α) s) Q E = Q a s := rfl
theorem wp_bind {m : M β} {f : β → M α} : WP ((m >>= f) s) Q E = WP (m s) (fun b s' => WP (f b s') Q E) E := by
  show WP (M.bind m f s) Q E = _
  unfold M.bind
  cases m s <;> rfl
theorem wp_ofO {x : Option α} : WP (ofO x s) Q E = (∃ a, x = some a ∧ Q a s) := by
  cases x with
  | none => exact propext ⟨fun h => h.elim, fun ⟨_, z, _⟩ => by cases z⟩
  | some a => exact propext ⟨fun h => ⟨a, rfl, h⟩, fun ⟨_, z, h⟩ => by cases z; exact h⟩
theorem wp_ofO_some : WP (ofO (some a) s) Q E = Q a s := rfl
theorem wp_if {c : Prop} [Decidable c] {m m' : M α} : WP ((if c then m else m') s) Q E = if c then WP (m s) Q E else WP (m' s) Q E := by
  by_cases h : c
  · rw [if_pos h, if_pos h]
  · rw [if_neg h, if_neg h]
theorem wp_ifS {c : Prop} [Decidable c] {m : M α} : WP ((if c then m else stuck) s) Q E = (c ∧ WP (m s) Q E) := by
  by_cases h : c
  · rw [if_pos h]
    exact propext ⟨fun z => ⟨h, z⟩, fun z => z.2⟩
  · rw [if_neg h]
    exact propext ⟨fun z => z.elim, fun z => absurd z.1 h⟩
theorem wp_det (h : o = .ok a s) : WP o Q E = Q a s := by rw [h]; rfl
theorem wp_iff {o : Out α} {a : α} {s : S} : o = .ok a s ↔ WP o (fun b t => b = a ∧ t = s) NoE := by
  cases o with
  | ok b t => exact ⟨fun h => by cases h; exact ⟨rfl, rfl⟩, fun ⟨h1, h2⟩ => by rw [h1, h2]⟩
  | exc x t => exact ⟨fun h => (by cases h), fun h => h.elim⟩
  | stuck => exact ⟨fun h => (by cases h), fun h => h.elim⟩
theorem WP.ok (h : WP o Q NoE) : ∃ a s, o = .ok a s ∧ Q a s := by
  cases o with
  | ok a s => exact ⟨a, s, rfl, h⟩
  | exc x s => exact h.elim
  | stuck => exact h.elim
end
section
variable {Q : Fl → S → Prop} {R : D → S → Prop} {RL : List D → S → Prop} {RB : Bool → S → Prop} {E : DX → S → Prop} {s : S} {a b : M Fl} {m : M D}
def After (k : S → Prop) (Q : Fl → S → Prop) : Fl → S → Prop
  | .next, s => k s
  | f, s => Q f s
theorem wp_then : WP (mThen a b s) Q E = WP (a s) (After (fun s' => WP (b s') Q E) Q) E := by
  unfold mThen
  rw [wp_bind]
  congr 1
  funext f s'
  cases f <;> rfl
theorem after_next {k : S → Prop} : After k Q .next s = k s := rfl
theorem after_ret {k : S → Prop} {d : D} : After k Q (.ret d) s = Q (.ret d) s := rfl
theorem after_brk {k : S → Prop} : After k Q .brk s = Q .brk s := rfl
theorem after_cont {k : S → Prop} : After k Q .cont s = Q .cont s := rfl
theorem wp_next : WP (mNext s) Q E = Q .next s := rfl
theorem wp_ret : WP (mRet m s) Q E = WP (m s) (fun d s' => Q (.ret d) s') E := by unfold mRet; rw [wp_bind]; rfl
theorem wp_expr : WP (mExpr m s) Q E = WP (m s) (fun _ s' => Q .next s') E := by unfold mExpr; rw [wp_bind]; rfl
theorem wp_ifs {c : M Bool} : WP (mIfS c a b s) Q E = WP (c s) (fun x s' => if x = true then WP (a s') Q E else WP (b s') Q E) E := by
  unfold mIfS
  rw [wp_bind]
  congr 1
  funext x s'
  exact wp_if
theorem wp_set {i : Nat} : WP (mSet i m s) Q E = WP (m s) (fun d s' => Q .next (s'.put i (.val d))) E := by unfold mSet; rw [wp_bind]; rfl
theorem wp_asg {f : D → M Unit} : WP (mAsg f m s) Q E = WP (m s) (fun d s' => WP (f d s') (fun _ s2 => Q .next s2) E) E := by
  unfold mAsg
  rw [wp_bind]
  congr 1
  funext d s'
  unfold toS
  cases f d s' <;> rfl
theorem wp_test : WP (mTest m s) RB E = WP (m s) (fun d s' => ∃ x, boolO d = some x ∧ RB x s') E := by
  unfold mTest
  rw [wp_bind]
  congr 1
  funext d s'
  exact wp_ofO
theorem wp_bin {f : D → D → M D} {a b : M D} : WP (mBin f a b s) R E = WP (a s) (fun x s1 => WP (b s1) (fun y s2 => WP (f x y s2) R E) E) E := by
  unfold mBin
  rw [wp_bind]
  congr 1
  funext d s'
  rw [wp_bind]
theorem wp_nil : WP (mNil s) RL E = RL [] s := rfl
theorem wp_cons {r : M (List D)} : WP (mCons m r s) RL E = WP (m s) (fun x s1 => WP (r s1) (fun xs s2 => RL (x :: xs) s2) E) E := by
  unfold mCons
  rw [wp_bind]
  congr 1
  funext d s'
  rw [wp_bind]
  rfl
theorem wp_app {f : List D → M D} {r : M (List D)} : WP (mApp f r s) R E = WP (r s) (fun xs s1 => WP (f xs s1) R E) E := by unfold mApp; rw [wp_bind]
theorem wp_lst {r : M (List D)} : WP (mLst r s) R E = WP (r s) (fun xs s1 => xs.length ≤ sizeLine ∧ R (.lst xs) s1) E := by
  unfold mLst
  rw [wp_bind]
  congr 1
  funext xs s'
  exact wp_ifS
theorem wp_tup {r : M (List D)} : WP (mTup r s) R E = WP (r s) (fun xs s1 => xs.length ≤ sizeLine ∧ R (.tup xs) s1) E := by
  unfold mTup
  rw [wp_bind]
  congr 1
  funext xs s'
  exact wp_ifS
theorem wp_not : WP (mNot m s) R E = WP (m s) (fun d s' => ∃ x, boolO d = some x ∧ R (.bl (!x)) s') E := by
  unfold mNot
  rw [wp_bind]
  congr 1
  funext d s'
  rw [wp_bind, wp_ofO]
  rfl
theorem wp_notT {c : M Bool} : WP (mNotT c s) RB E = WP (c s) (fun x s' => RB (!x) s') E := by unfold mNotT; rw [wp_bind]; rfl
theorem wp_andT {c d : M Bool} : WP (mAndT c d s) RB E = WP (c s) (fun x s' => if x = true then WP (d s') RB E else RB false s') E := by
  unfold mAndT
  rw [wp_bind]
  congr 1
  funext x s'
  rw [wp_if]
  rfl
theorem wp_orT {c d : M Bool} : WP (mOrT c d s) RB E = WP (c s) (fun x s' => if x = true then RB true s' else WP (d s') RB E) E := by
  unfold mOrT
  rw [wp_bind]
  congr 1
  funext x s'
  rw [wp_if]
  rfl
theorem wp_cond {c : M Bool} {a b : M D} : WP (mIf c a b s) R E = WP (c s) (fun x s' => if x = true then WP (a s') R E else WP (b s') R E) E := by
  unfold mIf
  rw [wp_bind]
  congr 1
  funext x s'
  exact wp_if
theorem wp_items : WP (mItems m s) RL E = WP (m s) (fun d s' => ∃ ds, itemsO d = some ds ∧ RL ds s') E := by
  unfold mItems
  rw [wp_bind]
  congr 1
  funext d s'
  exact wp_ofO
theorem wp_runCall {g : Fd} {xs : List D} : WP (runCall g xs s) R E = WP (g xs s.st) (fun d s' => R d ⟨s.rho, s'.st⟩) (fun x s' => E x ⟨s.rho, s'.st⟩) := by
  unfold runCall
  cases g xs s.st <;> rfl
theorem wp_call {g : Fd} {n : Nat} {r : M (List D)} : WP (mCall g n r s) R E = WP (r s) (fun xs s1 => xs.length = n ∧ WP (g xs s1.st) (fun d s' => R d ⟨s1.rho, s'.st⟩) (fun x s' => E x ⟨s1.rho, s'.st⟩)) E := by
  unfold mCall
  rw [wp_bind]
  congr 1
  funext xs s'
  rw [wp_ifS, wp_runCall]
def EndsD (R : D → S → Prop) : Fl → S → Prop
  | .next, s => R .non ⟨[], s.st⟩
  | .ret d, s => R d ⟨[], s.st⟩
  | _, _ => False
theorem wp_runDef {n : Nat} {b : M Fl} {ds : List D} {st : List MO} : WP (runDef n b ds st) R E = WP (b (initS n ds st)) (EndsD R) (fun x s' => E x ⟨[], s'.st⟩) := by
  unfold runDef
  cases b (initS n ds st) with
  | ok f s => cases f <;> rfl
  | exc x s => rfl
  | stuck => rfl
theorem ends_ret {d : D} : EndsD R (.ret d) s = R d ⟨[], s.st⟩ := rfl
theorem ends_next : EndsD R .next s = R .non ⟨[], s.st⟩ := rfl
def Turn (k : S → Prop) (Q : Fl → S → Prop) : Fl → S → Prop
  | .next, s => k s
  | .cont, s => k s
  | .brk, s => Q .next s
  | .ret d, s => Q (.ret d) s
theorem turn_next {k : S → Prop} : Turn k Q .next s = k s := rfl
theorem turn_ret {k : S → Prop} {d : D} : Turn k Q (.ret d) s = Q (.ret d) s := rfl
theorem wp_forL_cons {f : D → M Unit} {d : D} {ds : List D} : WP (mForL f b (d :: ds) s) Q E = WP (f d s) (fun _ s1 => WP (b s1) (Turn (fun s2 => WP (mForL f b ds s2) Q E) Q) E) E := by
  rw [mForL, wp_bind]
  congr 1
  funext _ s1
  rw [wp_bind]
  congr 1
  funext g s2
  cases g <;> rfl
theorem wp_forL {f : D → M Unit} {I : List D → S → Prop} (step : ∀ d ds s, I (d :: ds) s → WP (f d s) (fun _ s1 => WP (b s1) (Turn (I ds) Q) E) E) (fin : ∀ s, I [] s → Q .next s) : ∀ (ds : List D) (s : S), I ds s → WP (mForL f b ds s) Q E
  | [], s, h => fin s h
  | d :: ds, s, h => by
    rw [wp_forL_cons]
    refine (step d ds s h).mono fun _ s1 h1 => h1.mono fun g s2 h2 => ?_
    cases g with
    | next => exact wp_forL step fin ds s2 h2
    | cont => exact wp_forL step fin ds s2 h2
    | brk => exact h2
    | ret d => exact h2
theorem wp_for {items : M (List D)} {f : D → M Unit} : WP (mFor items f b s) Q E = WP (items s) (fun ds s1 => WP (mForL f b ds s1) Q E) E := by unfold mFor; rw [wp_bind]
theorem wp_put {i : Nat} {d : D} {R : Unit → S → Prop} : WP (mPut i d s) R E = R () (s.put i (.val d)) := rfl
theorem wp_own {i : Nat} {o : M MO} : WP (mOwn i o s) Q E = WP (o s) (fun u s' => Q .next (s'.put i (.own u))) E := by unfold mOwn; rw [wp_bind]; rfl
theorem wp_ob {o : M MO} : WP (mOb o s) R E = WP (o s) (fun u s' => u.dat = true ∧ R u.d s') E := by
  unfold mOb
  rw [wp_bind]
  congr 1
  funext u s'
  exact wp_ifS
theorem wp_new {o : M MO} : WP (mNew o s) R E = WP (o s) (fun u s' => u.dat = true ∧ R (.loc s'.st.length) { s' with st := s'.st ++ [u] }) E := by
  unfold mNew
  rw [wp_bind]
  congr 1
  funext u s'
  rw [wp_ifS]
  rfl
theorem wp_pairs_nil {RP : List (Key × D) → S → Prop} : WP (mPairs [] s) RP E = RP [] s := rfl
theorem wp_pairs_cons {RP : List (Key × D) → S → Prop} {k : Key} {r : List (Key × M D)} : WP (mPairs ((k, m) :: r) s) RP E = WP (m s) (fun d s1 => WP (mPairs r s1) (fun ps s2 => RP ((k, d) :: ps) s2) E) E := by
  rw [mPairs, wp_bind]
  congr 1
  funext d s1
  rw [wp_bind]
  rfl
theorem wp_dictF {RM : MO → S → Prop} {kms : List (Key × M D)} : WP (mDictF kms s) RM E = WP (mPairs kms s) (fun ps s1 => (kms.length ≤ 15 ∧ (kms.map (·.1)).Nodup) ∧ RM (.dic ps) s1) E := by
  unfold mDictF
  rw [wp_bind]
  congr 1
  funext ps s'
  exact wp_ifS
end
theorem wp_parV {Q : Fl → S → Prop} {E : DX → S → Prop} {i j : Nat} {a b : M DO2} {s : S} : WP (mParV i j a b s) Q E = WP (a s) (fun x s1 => WP (b s1) (fun y s2 => Q .next ((s2.put i x.slot).put j y.slot)) E) E := by
  unfold mParV
  rw [wp_bind]
  congr 1
  funext x s1
  rw [wp_bind]
  rfl
theorem wp_val {R : DO2 → S → Prop} {E : DX → S → Prop} {m : M D} {s : S} : WP (mVal m s) R E = WP (m s) (fun d s1 => R (.inl d) s1) E := by unfold mVal; rw [wp_bind]; rfl
section
variable {Q : Fl → S → Prop} {R : D → S → Prop} {E : DX → S → Prop} {s : S}
def dputX (d i v : D) : M Fl := match d, keyO i with
  | .loc n, some k => dput n k v
  | _, _ => stuck
theorem wp_dput {md mi mv : M D} : WP (mDPut md mi mv s) Q E = WP (mv s) (fun v s1 => WP (md s1) (fun d s2 => WP (mi s2) (fun i s3 => WP (dputX d i v s3) Q E) E) E) E := by
  unfold mDPut
  rw [wp_bind]
  congr 1
  funext v s1
  rw [wp_bind]
  congr 1
  funext d s2
  rw [wp_bind]
  rfl
theorem wp_meL {f : Lm} {o : M D} {r : M (List D)} : WP (mMeL f o r s) R E = WP (o s) (fun d s1 => WP (isL d s1) (fun _ s2 => WP (r s2) (fun xs s3 => WP (meL f d xs s3) R E) E) E) E := by
  unfold mMeL
  rw [wp_bind]
  congr 1
  funext d s1
  rw [wp_bind]
  congr 1
  funext u s2
  rw [wp_bind]
end
section
variable {R : D → S → Prop} {E : DX → S → Prop} {st : List MO} {r : List Slot} {d : D} {a0 a1 a2 a3 a4 a5 a6 a7 a8 a9 a10 a11 a12 a13 a14 a15 a16 a17 a18 a19 a20 a21 : Slot}
theorem wp_var0 : WP (mVar 0 ⟨.val d :: r, st⟩) R E = R d ⟨.val d :: r, st⟩ := rfl
theorem wp_var1 : WP (mVar 1 ⟨a0 :: .val d :: r, st⟩) R E = R d ⟨a0 :: .val d :: r, st⟩ := rfl
theorem wp_var2 : WP (mVar 2 ⟨a0 :: a1 :: .val d :: r, st⟩) R E = R d ⟨a0 :: a1 :: .val d :: r, st⟩ := rfl
theorem wp_var3 : WP (mVar 3 ⟨a0 :: a1 :: a2 :: .val d :: r, st⟩) R E = R d ⟨a0 :: a1 :: a2 :: .val d :: r, st⟩ := rfl
theorem wp_var4 : WP (mVar 4 ⟨a0 :: a1 :: a2 :: a3 :: .val d :: r, st⟩) R E = R d ⟨a0 :: a1 :: a2 :: a3 :: .val d :: r, st⟩ := rfl
theorem wp_var5 : WP (mVar 5 ⟨a0 :: a1 :: a2 :: a3 :: a4 :: .val d :: r, st⟩) R E = R d ⟨a0 :: a1 :: a2 :: a3 :: a4 :: .val d :: r, st⟩ := rfl
theorem wp_var6 : WP (mVar 6 ⟨a0 :: a1 :: a2 :: a3 :: a4 :: a5 :: .val d :: r, st⟩) R E = R d ⟨a0 :: a1 :: a2 :: a3 :: a4 :: a5 :: .val d :: r, st⟩ := rfl
theorem wp_var7 : WP (mVar 7 ⟨a0 :: a1 :: a2 :: a3 :: a4 :: a5 :: a6 :: .val d :: r, st⟩) R E = R d ⟨a0 :: a1 :: a2 :: a3 :: a4 :: a5 :: a6 :: .val d :: r, st⟩ := rfl
theorem wp_var8 : WP (mVar 8 ⟨a0 :: a1 :: a2 :: a3 :: a4 :: a5 :: a6 :: a7 :: .val d :: r, st⟩) R E = R d ⟨a0 :: a1 :: a2 :: a3 :: a4 :: a5 :: a6 :: a7 :: .val d :: r, st⟩ := rfl
theorem wp_var9 : WP (mVar 9 ⟨a0 :: a1 :: a2 :: a3 :: a4 :: a5 :: a6 :: a7 :: a8 :: .val d :: r, st⟩) R E = R d ⟨a0 :: a1 :: a2 :: a3 :: a4 :: a5 :: a6 :: a7 :: a8 :: .val d :: r, st⟩ := rfl
theorem wp_var10 : WP (mVar 10 ⟨a0 :: a1 :: a2 :: a3 :: a4 :: a5 :: a6 :: a7 :: a8 :: a9 :: .val d :: r, st⟩) R E = R d ⟨a0 :: a1 :: a2 :: a3 :: a4 :: a5 :: a6 :: a7 :: a8 :: a9 :: .val d :: r, st⟩ := rfl
theorem wp_var11 : WP (mVar 11 ⟨a0 :: a1 :: a2 :: a3 :: a4 :: a5 :: a6 :: a7 :: a8 :: a9 :: a10 :: .val d :: r, st⟩) R E = R d ⟨a0 :: a1 :: a2 :: a3 :: a4 :: a5 :: a6 :: a7 :: a8 :: a9 :: a10 :: .val d :: r, st⟩ := rfl
theorem wp_var12 : WP (mVar 12 ⟨a0 :: a1 :: a2 :: a3 :: a4 :: a5 :: a6 :: a7 :: a8 :: a9 :: a10 :: a11 :: .val d :: r, st⟩) R E = R d ⟨a0 :: a1 :: a2 :: a3 :: a4 :: a5 :: a6 :: a7 :: a8 :: a9 :: a10 :: a11 :: .val d :: r, st⟩ := rfl
theorem wp_var13 : WP (mVar 13 ⟨a0 :: a1 :: a2 :: a3 :: a4 :: a5 :: a6 :: a7 :: a8 :: a9 :: a10 :: a11 :: a12 :: .val d :: r, st⟩) R E = R d ⟨a0 :: a1 :: a2 :: a3 :: a4 :: a5 :: a6 :: a7 :: a8 :: a9 :: a10 :: a11 :: a12 :: .val d :: r, st⟩ := rfl
theorem wp_var14 : WP (mVar 14 ⟨a0 :: a1 :: a2 :: a3 :: a4 :: a5 :: a6 :: a7 :: a8 :: a9 :: a10 :: a11 :: a12 :: a13 :: .val d :: r, st⟩) R E = R d ⟨a0 :: a1 :: a2 :: a3 :: a4 :: a5 :: a6 :: a7 :: a8 :: a9 :: a10 :: a11 :: a12 :: a13 :: .val d :: r, st⟩ := rfl
theorem wp_var15 : WP (mVar 15 ⟨a0 :: a1 :: a2 :: a3 :: a4 :: a5 :: a6 :: a7 :: a8 :: a9 :: a10 :: a11 :: a12 :: a13 :: a14 :: .val d :: r, st⟩) R E = R d ⟨a0 :: a1 :: a2 :: a3 :: a4 :: a5 :: a6 :: a7 :: a8 :: a9 :: a10 :: a11 :: a12 :: a13 :: a14 :: .val d :: r, st⟩ := rfl
theorem wp_var16 : WP (mVar 16 ⟨a0 :: a1 :: a2 :: a3 :: a4 :: a5 :: a6 :: a7 :: a8 :: a9 :: a10 :: a11 :: a12 :: a13 :: a14 :: a15 :: .val d :: r, st⟩) R E = R d ⟨a0 :: a1 :: a2 :: a3 :: a4 :: a5 :: a6 :: a7 :: a8 :: a9 :: a10 :: a11 :: a12 :: a13 :: a14 :: a15 :: .val d :: r, st⟩ := rfl
theorem wp_var17 : WP (mVar 17 ⟨a0 :: a1 :: a2 :: a3 :: a4 :: a5 :: a6 :: a7 :: a8 :: a9 :: a10 :: a11 :: a12 :: a13 :: a14 :: a15 :: a16 :: .val d :: r, st⟩) R E = R d ⟨a0 :: a1 :: a2 :: a3 :: a4 :: a5 :: a6 :: a7 :: a8 :: a9 :: a10 :: a11 :: a12 :: a13 :: a14 :: a15 :: a16 :: .val d :: r, st⟩ := rfl
theorem wp_var18 : WP (mVar 18 ⟨a0 :: a1 :: a2 :: a3 :: a4 :: a5 :: a6 :: a7 :: a8 :: a9 :: a10 :: a11 :: a12 :: a13 :: a14 :: a15 :: a16 :: a17 :: .val d :: r, st⟩) R E = R d ⟨a0 :: a1 :: a2 :: a3 :: a4 :: a5 :: a6 :: a7 :: a8 :: a9 :: a10 :: a11 :: a12 :: a13 :: a14 :: a15 :: a16 :: a17 :: .val d :: r, st⟩ := rfl
theorem wp_var19 : WP (mVar 19 ⟨a0 :: a1 :: a2 :: a3 :: a4 :: a5 :: a6 :: a7 :: a8 :: a9 :: a10 :: a11 :: a12 :: a13 :: a14 :: a15 :: a16 :: a17 :: a18 :: .val d :: r, st⟩) R E = R d ⟨a0 :: a1 :: a2 :: a3 :: a4 :: a5 :: a6 :: a7 :: a8 :: a9 :: a10 :: a11 :: a12 :: a13 :: a14 :: a15 :: a16 :: a17 :: a18 :: .val d :: r, st⟩ := rfl
theorem wp_var20 : WP (mVar 20 ⟨a0 :: a1 :: a2 :: a3 :: a4 :: a5 :: a6 :: a7 :: a8 :: a9 :: a10 :: a11 :: a12 :: a13 :: a14 :: a15 :: a16 :: a17 :: a18 :: a19 :: .val d :: r, st⟩) R E = R d ⟨a0 :: a1 :: a2 :: a3 :: a4 :: a5 :: a6 :: a7 :: a8 :: a9 :: a10 :: a11 :: a12 :: a13 :: a14 :: a15 :: a16 :: a17 :: a18 :: a19 :: .val d :: r, st⟩ := rfl
theorem wp_var21 : WP (mVar 21 ⟨a0 :: a1 :: a2 :: a3 :: a4 :: a5 :: a6 :: a7 :: a8 :: a9 :: a10 :: a11 :: a12 :: a13 :: a14 :: a15 :: a16 :: a17 :: a18 :: a19 :: a20 :: .val d :: r, st⟩) R E = R d ⟨a0 :: a1 :: a2 :: a3 :: a4 :: a5 :: a6 :: a7 :: a8 :: a9 :: a10 :: a11 :: a12 :: a13 :: a14 :: a15 :: a16 :: a17 :: a18 :: a19 :: a20 :: .val d :: r, st⟩ := rfl
end
section
variable {R : D → S → Prop} {E : DX → S → Prop} {s : S} {i j : Int}
theorem add_int : WP (addD (.int i) (.int j) s) R E = R (.int (i + j)) s := rfl
theorem add_lst {xs ys : List D} : WP (addD (.lst xs) (.lst ys) s) R E = (xs.length + ys.length ≤ sizeLine ∧ R (.lst (xs ++ ys)) s) := wp_ifS
theorem add_tup {xs ys : List D} : WP (addD (.tup xs) (.tup ys) s) R E = (xs.length + ys.length ≤ sizeLine ∧ R (.tup (xs ++ ys)) s) := wp_ifS
theorem add_str {x y : Str} : WP (addD (.str x) (.str y) s) R E = (x.length + y.length ≤ sizeLine ∧ R (.str (x ++ y)) s) := wp_ifS
theorem sub_int : WP (subD (.int i) (.int j) s) R E = R (.int (i - j)) s := rfl
theorem mul_int : WP (mulD (.int i) (.int j) s) R E = (CMul i j ∧ R (.int (i * j)) s) := wp_ifS
theorem fdiv_int : WP (fdivD (.int i) (.int j) s) R E = (CDiv i j ∧ R (.int (i / j)) s) := wp_ifS
theorem mod_int : WP (modD (.int i) (.int j) s) R E = (0 < j ∧ R (.int (i % j)) s) := wp_ifS
theorem pow_int : WP (powD (.int i) (.int j) s) R E = (CPow i j ∧ R (.int (i ^ j.toNat)) s) := wp_ifS
theorem int_int : WP (intB [.int i] s) R E = R (.int i) s := rfl
theorem int_bl {b : Bool} : WP (intB [.bl b] s) R E = R (.int (if b then 1 else 0)) s := rfl
theorem abs_int : WP (absB [.int i] s) R E = R (.int (if i < 0 then -i else i)) s := rfl
theorem len_lst {xs : List D} : WP (lenB [.lst xs] s) R E = R (.int xs.length) s := rfl
theorem len_tup {xs : List D} : WP (lenB [.tup xs] s) R E = R (.int xs.length) s := rfl
theorem len_str {x : Str} : WP (lenB [.str x] s) R E = (x.length ≤ sizeLine ∧ R (.int x.length) s) := wp_ifS
end
section
variable {R : MO → S → Prop} {RL : List D → S → Prop} {E : DX → S → Prop} {v : Nat} {items : M (List D)} {t : M Bool} {e : M D}
theorem wp_lcL {I : List D → List D → S → Prop} (step : ∀ d rem acc s, I (d :: rem) acc s → WP (t (s.put v (.val d))) (fun b s2 => if b = true then WP (e s2) (fun y s3 => acc.length < sizeLine ∧ I rem (acc ++ [y]) (s3.put v .un)) NoE else I rem acc (s2.put v .un)) NoE) :
    ∀ (ds acc : List D) (s : S), I ds acc s → WP (mLcL [v] (mPut v) t e ds acc s) (fun acc s => I [] acc s) NoE
  | [], acc, s, h => h
  | d :: ds, acc, s, h => by
    rw [mLcL, wp_bind, wp_put, wp_bind]
    refine (step d ds acc s h).mono fun b s2 h2 => ?_
    rw [wp_if]
    by_cases hb : b = true
    · rw [if_pos hb] at h2 ⊢
      rw [wp_bind]
      refine h2.mono fun y s3 h3 => ?_
      rw [wp_if, if_pos h3.1, wp_bind]
      exact wp_lcL step ds _ _ h3.2
    · rw [if_neg hb] at h2 ⊢
      rw [wp_bind]
      exact wp_lcL step ds _ _ h2
theorem wp_lcG {s : S} (h : WP (items s) (fun ds s1 => noOwn s1 [v] = true ∧ ∃ I : List D → List D → S → Prop, I ds [] (s1.put v .un) ∧ (∀ d rem acc s, I (d :: rem) acc s → WP (t (s.put v (.val d))) (fun b s2 => if b = true then WP (e s2) (fun y s3 => acc.length < sizeLine ∧ I rem (acc ++ [y]) (s3.put v .un)) NoE else I rem acc (s2.put v .un)) NoE) ∧
    ∀ acc s, I [] acc s → R (.lst acc) (s.put v ((s1.rho[v]?).getD .un))) E) : WP (mLc [v] items (mPut v) t e s) R E := by
  unfold mLc
  rw [wp_bind]
  refine h.mono fun ds s1 h1 => ?_
  obtain ⟨h2, I, h3, h4, h5⟩ := h1
  show WP (if noOwn s1 [v] = true then _ else _) _ _
  rw [if_pos h2]
  have w := wp_lcL h4 ds [] (s1.wipe [v]) h3
  cases q : mLcL [v] (mPut v) t e ds [] (s1.wipe [v]) with
  | ok acc s2 =>
    rw [q] at w
    exact h5 acc s2 w
  | exc x s2 => rw [q] at w; exact w.elim
  | stuck => rw [q] at w; exact w.elim
theorem wp_lc {s : S} (I : List D → List D → List MO → Prop) (h : WP (items s) (fun ds s1 => noOwn s1 [v] = true ∧ v < s1.rho.length ∧ I ds [] s1.st ∧ (∀ d rem acc st, I (d :: rem) acc st → WP (t ⟨s1.rho.set v (.val d), st⟩) (fun b s2 => s2.rho = s1.rho.set v (.val d) ∧ if b = true then WP (e s2) (fun y s3 => s3.rho = s1.rho.set v (.val d) ∧ acc.length < sizeLine ∧ I rem (acc ++ [y]) s3.st) NoE else I rem acc s2.st) NoE) ∧
    ∀ acc st, I [] acc st → R (.lst acc) ⟨s1.rho, st⟩) E) : WP (mLc [v] items (mPut v) t e s) R E := by
  refine wp_lcG (h.mono fun ds s1 h1 => ?_)
  obtain ⟨h1, h2, h3, h4, h5⟩ := h1
  refine ⟨h1, fun rem acc s => s.rho = s1.rho.set v .un ∧ I rem acc s.st, ⟨rfl, h3⟩, fun d rem acc s hi => ?_, fun acc s hi => ?_⟩
  · obtain ⟨rho, st⟩ := s
    obtain ⟨e1, hi⟩ := hi
    have e1' : rho = s1.rho.set v .un := e1
    subst e1'
    show WP (t ⟨(s1.rho.set v .un).set v (.val d), st⟩) _ _
    rw [List.set_set]
    refine (h4 d rem acc st hi).mono fun b s2 h6 => ?_
    obtain ⟨e2, h6⟩ := h6
    by_cases hb : b = true
    · rw [if_pos hb] at h6 ⊢
      refine h6.mono fun y s3 h7 => ⟨h7.2.1, ?_, h7.2.2⟩
      show s3.rho.set v .un = _
      rw [h7.1, List.set_set]
    · rw [if_neg hb] at h6 ⊢
      refine ⟨?_, h6⟩
      show s2.rho.set v .un = _
      rw [e2, List.set_set]
  · obtain ⟨rho, st⟩ := s
    obtain ⟨e1, hi⟩ := hi
    have e1' : rho = s1.rho.set v .un := e1
    subst e1'
    have e3 : (s1.rho.set v .un).set v ((s1.rho[v]?).getD .un) = s1.rho := by
      rw [List.set_set, List.getElem?_eq_getElem h2]
      exact List.set_getElem_self h2
    show R (.lst acc) ⟨(s1.rho.set v .un).set v ((s1.rho[v]?).getD .un), st⟩
    rw [e3]
    exact h5 acc st hi
theorem wp_lcP {s : S} (b : D → Bool) (y : D → D) (h : WP (items s) (fun ds s1 => noOwn s1 [v] = true ∧ v < s1.rho.length ∧ ds.length ≤ sizeLine ∧ (∀ d ∈ ds, WP (t ⟨s1.rho.set v (.val d), s1.st⟩) (fun x s2 => s2 = ⟨s1.rho.set v (.val d), s1.st⟩ ∧ x = b d) NoE ∧ (b d = true → WP (e ⟨s1.rho.set v (.val d), s1.st⟩) (fun z s2 => s2 = ⟨s1.rho.set v (.val d), s1.st⟩ ∧ z = y d) NoE)) ∧
    R (.lst ((ds.filter b).map y)) s1) E) : WP (mLc [v] items (mPut v) t e s) R E := by
  have h' := h
  cases q : items s with
  | exc x s1 =>
    rw [q] at h
    unfold mLc
    rw [wp_bind, q]
    exact h
  | stuck => rw [q] at h; exact h.elim
  | ok ds s1 =>
    rw [q] at h
    obtain ⟨h1, h2, h3, h4, h5⟩ := h
    refine wp_lc (fun rem acc st => st = s1.st ∧ (∀ d ∈ rem, d ∈ ds) ∧ acc.length + rem.length ≤ ds.length ∧ acc ++ (rem.filter b).map y = (ds.filter b).map y) ?_
    rw [q]
    refine ⟨h1, h2, ⟨rfl, fun _ z => z, by simp, rfl⟩, fun d rem acc st hi => ?_, fun acc st hi => ?_⟩
    · obtain ⟨rfl, h6, h7, h8⟩ := hi
      obtain ⟨h9, h10⟩ := h4 d (h6 d (List.mem_cons_self ..))
      rw [List.length_cons] at h7
      refine h9.mono fun x s2 h11 => ?_
      obtain ⟨rfl, rfl⟩ := h11
      refine ⟨rfl, ?_⟩
      by_cases hb : b d = true
      · rw [if_pos hb]
        refine (h10 hb).mono fun z s2 h12 => ?_
        obtain ⟨rfl, rfl⟩ := h12
        refine ⟨rfl, by omega, rfl, fun d hd => h6 d (List.mem_cons_of_mem _ hd), by rw [List.length_append]; simp only [List.length_cons, List.length_nil]; omega, ?_⟩
        rw [← h8, List.filter_cons_of_pos hb, List.map_cons, List.append_assoc]
        rfl
      · rw [if_neg hb]
        refine ⟨rfl, fun d hd => h6 d (List.mem_cons_of_mem _ hd), by omega, ?_⟩
        rw [← h8, List.filter_cons_of_neg hb]
    · obtain ⟨rfl, _, _, h8⟩ := hi
      rw [List.filter_nil, List.map_nil, List.append_nil] at h8
      rw [h8]
      exact h5
end
section
variable {R : D → S → Prop} {E : DX → S → Prop} {st : List MO} {r : List Slot} {ds : List D} {kvs : List (Key × D)} {a0 a1 a2 a3 a4 a5 a6 a7 a8 a9 a10 a11 : Slot}
theorem wp_move0 : WP (mMove 0 ⟨.own (.lst ds) :: r, st⟩) R E = R (.loc st.length) ⟨.val (.loc st.length) :: r, st ++ [.lst ds]⟩ := rfl
theorem wp_varo0 : WP (mVar 0 ⟨.own (.lst ds) :: r, st⟩) R E = R (.lst ds) ⟨.val (.lst ds) :: r, st⟩ := rfl
theorem wp_move1 : WP (mMove 1 ⟨a0 :: .own (.lst ds) :: r, st⟩) R E = R (.loc st.length) ⟨a0 :: .val (.loc st.length) :: r, st ++ [.lst ds]⟩ := rfl
theorem wp_varo1 : WP (mVar 1 ⟨a0 :: .own (.lst ds) :: r, st⟩) R E = R (.lst ds) ⟨a0 :: .val (.lst ds) :: r, st⟩ := rfl
theorem wp_move2 : WP (mMove 2 ⟨a0 :: a1 :: .own (.lst ds) :: r, st⟩) R E = R (.loc st.length) ⟨a0 :: a1 :: .val (.loc st.length) :: r, st ++ [.lst ds]⟩ := rfl
theorem wp_varo2 : WP (mVar 2 ⟨a0 :: a1 :: .own (.lst ds) :: r, st⟩) R E = R (.lst ds) ⟨a0 :: a1 :: .val (.lst ds) :: r, st⟩ := rfl
theorem wp_move3 : WP (mMove 3 ⟨a0 :: a1 :: a2 :: .own (.lst ds) :: r, st⟩) R E = R (.loc st.length) ⟨a0 :: a1 :: a2 :: .val (.loc st.length) :: r, st ++ [.lst ds]⟩ := rfl
theorem wp_varo3 : WP (mVar 3 ⟨a0 :: a1 :: a2 :: .own (.lst ds) :: r, st⟩) R E = R (.lst ds) ⟨a0 :: a1 :: a2 :: .val (.lst ds) :: r, st⟩ := rfl
theorem wp_move4 : WP (mMove 4 ⟨a0 :: a1 :: a2 :: a3 :: .own (.lst ds) :: r, st⟩) R E = R (.loc st.length) ⟨a0 :: a1 :: a2 :: a3 :: .val (.loc st.length) :: r, st ++ [.lst ds]⟩ := rfl
theorem wp_varo4 : WP (mVar 4 ⟨a0 :: a1 :: a2 :: a3 :: .own (.lst ds) :: r, st⟩) R E = R (.lst ds) ⟨a0 :: a1 :: a2 :: a3 :: .val (.lst ds) :: r, st⟩ := rfl
theorem wp_move5 : WP (mMove 5 ⟨a0 :: a1 :: a2 :: a3 :: a4 :: .own (.lst ds) :: r, st⟩) R E = R (.loc st.length) ⟨a0 :: a1 :: a2 :: a3 :: a4 :: .val (.loc st.length) :: r, st ++ [.lst ds]⟩ := rfl
theorem wp_varo5 : WP (mVar 5 ⟨a0 :: a1 :: a2 :: a3 :: a4 :: .own (.lst ds) :: r, st⟩) R E = R (.lst ds) ⟨a0 :: a1 :: a2 :: a3 :: a4 :: .val (.lst ds) :: r, st⟩ := rfl
theorem wp_move6 : WP (mMove 6 ⟨a0 :: a1 :: a2 :: a3 :: a4 :: a5 :: .own (.lst ds) :: r, st⟩) R E = R (.loc st.length) ⟨a0 :: a1 :: a2 :: a3 :: a4 :: a5 :: .val (.loc st.length) :: r, st ++ [.lst ds]⟩ := rfl
theorem wp_varo6 : WP (mVar 6 ⟨a0 :: a1 :: a2 :: a3 :: a4 :: a5 :: .own (.lst ds) :: r, st⟩) R E = R (.lst ds) ⟨a0 :: a1 :: a2 :: a3 :: a4 :: a5 :: .val (.lst ds) :: r, st⟩ := rfl
theorem wp_move7 : WP (mMove 7 ⟨a0 :: a1 :: a2 :: a3 :: a4 :: a5 :: a6 :: .own (.lst ds) :: r, st⟩) R E = R (.loc st.length) ⟨a0 :: a1 :: a2 :: a3 :: a4 :: a5 :: a6 :: .val (.loc st.length) :: r, st ++ [.lst ds]⟩ := rfl
theorem wp_varo7 : WP (mVar 7 ⟨a0 :: a1 :: a2 :: a3 :: a4 :: a5 :: a6 :: .own (.lst ds) :: r, st⟩) R E = R (.lst ds) ⟨a0 :: a1 :: a2 :: a3 :: a4 :: a5 :: a6 :: .val (.lst ds) :: r, st⟩ := rfl
theorem wp_move8 : WP (mMove 8 ⟨a0 :: a1 :: a2 :: a3 :: a4 :: a5 :: a6 :: a7 :: .own (.lst ds) :: r, st⟩) R E = R (.loc st.length) ⟨a0 :: a1 :: a2 :: a3 :: a4 :: a5 :: a6 :: a7 :: .val (.loc st.length) :: r, st ++ [.lst ds]⟩ := rfl
theorem wp_varo8 : WP (mVar 8 ⟨a0 :: a1 :: a2 :: a3 :: a4 :: a5 :: a6 :: a7 :: .own (.lst ds) :: r, st⟩) R E = R (.lst ds) ⟨a0 :: a1 :: a2 :: a3 :: a4 :: a5 :: a6 :: a7 :: .val (.lst ds) :: r, st⟩ := rfl
theorem wp_move9 : WP (mMove 9 ⟨a0 :: a1 :: a2 :: a3 :: a4 :: a5 :: a6 :: a7 :: a8 :: .own (.lst ds) :: r, st⟩) R E = R (.loc st.length) ⟨a0 :: a1 :: a2 :: a3 :: a4 :: a5 :: a6 :: a7 :: a8 :: .val (.loc st.length) :: r, st ++ [.lst ds]⟩ := rfl
theorem wp_varo9 : WP (mVar 9 ⟨a0 :: a1 :: a2 :: a3 :: a4 :: a5 :: a6 :: a7 :: a8 :: .own (.lst ds) :: r, st⟩) R E = R (.lst ds) ⟨a0 :: a1 :: a2 :: a3 :: a4 :: a5 :: a6 :: a7 :: a8 :: .val (.lst ds) :: r, st⟩ := rfl
theorem wp_move10 : WP (mMove 10 ⟨a0 :: a1 :: a2 :: a3 :: a4 :: a5 :: a6 :: a7 :: a8 :: a9 :: .own (.lst ds) :: r, st⟩) R E = R (.loc st.length) ⟨a0 :: a1 :: a2 :: a3 :: a4 :: a5 :: a6 :: a7 :: a8 :: a9 :: .val (.loc st.length) :: r, st ++ [.lst ds]⟩ := rfl
theorem wp_varo10 : WP (mVar 10 ⟨a0 :: a1 :: a2 :: a3 :: a4 :: a5 :: a6 :: a7 :: a8 :: a9 :: .own (.lst ds) :: r, st⟩) R E = R (.lst ds) ⟨a0 :: a1 :: a2 :: a3 :: a4 :: a5 :: a6 :: a7 :: a8 :: a9 :: .val (.lst ds) :: r, st⟩ := rfl
theorem wp_move11 : WP (mMove 11 ⟨a0 :: a1 :: a2 :: a3 :: a4 :: a5 :: a6 :: a7 :: a8 :: a9 :: a10 :: .own (.lst ds) :: r, st⟩) R E = R (.loc st.length) ⟨a0 :: a1 :: a2 :: a3 :: a4 :: a5 :: a6 :: a7 :: a8 :: a9 :: a10 :: .val (.loc st.length) :: r, st ++ [.lst ds]⟩ := rfl
theorem wp_varo11 : WP (mVar 11 ⟨a0 :: a1 :: a2 :: a3 :: a4 :: a5 :: a6 :: a7 :: a8 :: a9 :: a10 :: .own (.lst ds) :: r, st⟩) R E = R (.lst ds) ⟨a0 :: a1 :: a2 :: a3 :: a4 :: a5 :: a6 :: a7 :: a8 :: a9 :: a10 :: .val (.lst ds) :: r, st⟩ := rfl
end
theorem slot_non : D.slot .non = .val .non := rfl
theorem slot_bl {b : Bool} : D.slot (.bl b) = .val (.bl b) := rfl
theorem slot_int {i : Int} : D.slot (.int i) = .val (.int i) := rfl
theorem slot_str {x : Str} : D.slot (.str x) = .val (.str x) := rfl
theorem slot_tup {ds : List D} : D.slot (.tup ds) = .val (.tup ds) := rfl
theorem slot_lst {ds : List D} : D.slot (.lst ds) = .val (.lst ds) := rfl
theorem slot_loc {n : Nat} : D.slot (.loc n) = .val (.loc n) := rfl
theorem slot_dic {kvs : List (Key × D)} : D.slot (.dic kvs) = .val (.dic kvs) := rfl
theorem slot_kdic {kvs : List (Key × D)} : D.slot (.kdic kvs) = .val (.kdic kvs) := rfl
theorem boolO_bl {b : Bool} : boolO (.bl b) = some b := rfl
theorem itemsO_lst {ds : List D} : itemsO (.lst ds) = some ds := rfl
theorem itemsO_tup {ds : List D} : itemsO (.tup ds) = some ds := rfl
theorem items_str {x : Str} : itemsO (.str x) = some (x.cps.toList.map fun c => D.str ⟨#[c]⟩) := rfl
theorem keyO_str {x : Str} : keyO (.str x) = some (.inr x) := rfl
theorem keyO_int {i : Int} : keyO (.int i) = some (.inl i) := rfl
theorem dat_lst {ds : List D} : MO.dat (.lst ds) = true := rfl
theorem dat_dic {ds : List (Key × D)} : MO.dat (.dic ds) = true := rfl
theorem mod_lst {ds : List D} : MO.d (.lst ds) = .lst ds := rfl
theorem mod_dic {ds : List (Key × D)} : MO.d (.dic ds) = .dic ds := rfl
end DL
namespace DL
open PySem PySem.Spec PyProof.Rows L2
theorem szL : sizeLine = 16777216 := by decide
def dst (ws cs : List Int) (r t : Int) (R : List MO) : List MO := .lst (ws.map D.int) :: .dic [(.inr "wide", .loc 0), (.inr "cells", .lst (cs.map D.int)), (.inr "rest", .int r), (.inr "turn", .int t)] :: R
def tMixed : M Fl := mThen (mParV 1 2 (mVal (mBin addD (mBin ixS (mVar 0) (M.pure (.str "turn"))) (M.pure (.int 1)))) (mVal (M.pure (.int 0)))) (mThen (mDPut (mVar 0) (M.pure (.str "turn")) (mVar 1)) (mThen (mFor (mItems (mLst (mCons (M.pure (.int 2147483647)) (mCons (M.pure (.int 2147483629)) (mCons (M.pure (.int 2147483587)) (mCons (M.pure (.int 2147483579)) mNil)))))) (mPut 3) (mThen (mSet 4 (mBin addD (mBin mulD (M.pure (.int 48271)) (mVar 1)) (mBin fdivD (mVar 3) (M.pure (.int 37))))) (mThen (mFor (mItems (mBin ixS (mVar 0) (M.pure (.str "cells")))) (mPut 5) (mSet 4 (mBin modD (mApp intB (mCons (mBin addD (mBin addD (mBin mulD (mVar 4) (M.pure (.int 69621))) (mVar 5)) (mVar 1)) mNil)) (mVar 3)))) (mSet 2 (mBin addD (mBin mulD (mVar 2) (M.pure (.int 2147483647))) (mBin modD (mApp intB (mCons (mBin powD (mVar 4) (M.pure (.int 5))) mNil)) (mVar 3))))))) (mRet (mVar 2))))
def tTake (g : Fd) : M Fl := mThen (mIfS (mTest (mBin eqS (mBin ixS (mVar 0) (M.pure (.str "rest"))) (M.pure (.int 0)))) (mDPut (mVar 0) (M.pure (.str "rest")) (mIf (mTest (mBin neS (mBin ixS (mVar 0) (M.pure (.str "wide"))) (mLst mNil))) (mMeL popAtL (mBin ixS (mVar 0) (M.pure (.str "wide"))) (mCons (M.pure (.int 0)) mNil)) (mCall g 1 (mCons (mVar 0) mNil)))) (mNext)) (mThen (mSet 2 (mBin modD (mApp intB (mCons (mBin ixS (mVar 0) (M.pure (.str "rest"))) mNil)) (mVar 1))) (mThen (mDPut (mVar 0) (M.pure (.str "rest")) (mBin fdivD (mBin ixS (mVar 0) (M.pure (.str "rest"))) (mVar 1))) (mRet (mVar 2))))
def tPick (g : Fd) : M Fl := mRet (mBin ixS (mVar 1) (mCall g 2 (mCons (mVar 0) (mCons (mApp lenB (mCons (mVar 1) mNil)) mNil))))
section
variable {ws cs : List Int} {r t : Int} {R : List MO}
theorem ix_turn {rho : List Slot} {Q : D → S → Prop} {E : DX → S → Prop} : WP (ixS (.loc 1) (.str "turn") ⟨rho, dst ws cs r t R⟩) Q E = Q (.int t) ⟨rho, dst ws cs r t R⟩ := rfl
theorem ix_rest {rho : List Slot} {Q : D → S → Prop} {E : DX → S → Prop} : WP (ixS (.loc 1) (.str "rest") ⟨rho, dst ws cs r t R⟩) Q E = Q (.int r) ⟨rho, dst ws cs r t R⟩ := rfl
theorem ix_wide {rho : List Slot} {Q : D → S → Prop} {E : DX → S → Prop} : WP (ixS (.loc 1) (.str "wide") ⟨rho, dst ws cs r t R⟩) Q E = Q (.loc 0) ⟨rho, dst ws cs r t R⟩ := rfl
theorem ix_cells {rho : List Slot} {Q : D → S → Prop} {E : DX → S → Prop} : WP (ixS (.loc 1) (.str "cells") ⟨rho, dst ws cs r t R⟩) Q E = Q (.lst (cs.map D.int)) ⟨rho, dst ws cs r t R⟩ := rfl
theorem shaped_int (i : Int) : SeqAt.shaped (.int i) = true := by unfold SeqAt.shaped; simp [PyData.canLay0, PyData.depth]
theorem pys_ints : ∀ l : List Int, D.pys (l.map D.int) = some (l.map PyData.int)
  | [] => rfl
  | i :: l => by rw [List.map_cons, D.pys, pys_ints l]; rfl
theorem canLay_ints : ∀ l : List Int, PyData.canLayAll0 (l.map PyData.int) = true
  | [] => by simp [PyData.canLayAll0]
  | i :: l => by rw [List.map_cons]; simp [PyData.canLayAll0, PyData.canLay0, canLay_ints l]
theorem depth_ints : ∀ l : List Int, PyData.depthAll (l.map PyData.int) = 0
  | [] => by simp [PyData.depthAll]
  | i :: l => by rw [List.map_cons]; simp [PyData.depthAll, PyData.depth, depth_ints l]
theorem shaped_ints (l : List Int) : SeqAt.shaped (.list (l.map PyData.int)) = true := by unfold SeqAt.shaped; simp [PyData.canLay0, PyData.depth, canLay_ints, depth_ints]
section
variable {s : S} {Q : D → S → Prop} {E : DX → S → Prop} {i j : Int}
theorem eqO_int : eqO (.int i) (.int j) = some (decide (i = j)) := by
  unfold eqO
  simp only [D.py, shaped_int, Bool.and_self, if_true, PyData.eqv, Option.some.injEq]
  by_cases h : i = j <;> simp [h]
theorem eq_int : WP (eqS (.int i) (.int j) s) Q E = Q (.bl (decide (i = j))) s := by
  show WP (eqD (.int i) (.int j) s) Q E = _
  unfold eqD
  rw [eqO_int]
  rfl
theorem ne_int : WP (neS (.int i) (.int j) s) Q E = Q (.bl (!decide (i = j))) s := by
  show WP (neD (.int i) (.int j) s) Q E = _
  unfold neD
  rw [eqO_int]
  rfl
theorem lt_int : WP (ltD (.int i) (.int j) s) Q E = Q (.bl (decide (i < j))) s := rfl
theorem le_int : WP (leD (.int i) (.int j) s) Q E = Q (.bl (decide (i ≤ j))) s := rfl
theorem gt_int : WP (gtD (.int i) (.int j) s) Q E = Q (.bl (decide (j < i))) s := rfl
theorem ge_int : WP (geD (.int i) (.int j) s) Q E = Q (.bl (decide (j ≤ i))) s := rfl
theorem ne_wide {rho : List Slot} : WP (neS (.loc 0) (.lst []) ⟨rho, dst ws cs r t R⟩) Q E = Q (.bl (!ws.isEmpty)) ⟨rho, dst ws cs r t R⟩ := by
  show WP (neD (.lst (ws.map D.int)) (.lst []) ⟨rho, dst ws cs r t R⟩) Q E = _
  unfold neD eqO
  have h2 : SeqAt.shaped (.list []) = true := shaped_ints []
  simp only [D.py, pys_ints, Option.map_some, shaped_ints, D.pys, h2, Bool.and_self, if_true]
  rw [wp_ofO_some]
  cases ws <;> simp [PyData.eqv, PyData.eqvAll]
end
theorem put_turn {rho : List Slot} {Q : Fl → S → Prop} {E : DX → S → Prop} {i : Int} : WP (dputX (.loc 1) (.str "turn") (.int i) ⟨rho, dst ws cs r t R⟩) Q E = Q .next ⟨rho, dst ws cs r i R⟩ := by
  show WP (dput 1 (.inr "turn") (.int i) ⟨rho, dst ws cs r t R⟩) Q E = _
  unfold dput
  have h : [((.inr "wide" : Key), D.loc 0), (.inr "cells", .lst (cs.map D.int)), (.inr "rest", .int r), (.inr "turn", .int t)].length < sizeLine := by rw [szL]; exact (show (4 : Nat) < 16777216 by decide)
  show WP (if [((.inr "wide" : Key), D.loc 0), (.inr "cells", .lst (cs.map D.int)), (.inr "rest", .int r), (.inr "turn", .int t)].length < sizeLine then _ else _) Q E = _
  rw [if_pos h]
  rfl
theorem put_rest {rho : List Slot} {Q : Fl → S → Prop} {E : DX → S → Prop} {i : Int} : WP (dputX (.loc 1) (.str "rest") (.int i) ⟨rho, dst ws cs r t R⟩) Q E = Q .next ⟨rho, dst ws cs i t R⟩ := by
  show WP (dput 1 (.inr "rest") (.int i) ⟨rho, dst ws cs r t R⟩) Q E = _
  unfold dput
  have h : [((.inr "wide" : Key), D.loc 0), (.inr "cells", .lst (cs.map D.int)), (.inr "rest", .int r), (.inr "turn", .int t)].length < sizeLine := by rw [szL]; exact (show (4 : Nat) < 16777216 by decide)
  show WP (if [((.inr "wide" : Key), D.loc 0), (.inr "cells", .lst (cs.map D.int)), (.inr "rest", .int r), (.inr "turn", .int t)].length < sizeLine then _ else _) Q E = _
  rw [if_pos h]
  rfl
theorem is_wide {rho : List Slot} {Q : Unit → S → Prop} {E : DX → S → Prop} : WP (isL (.loc 0) ⟨rho, dst ws cs r t R⟩) Q E = Q () ⟨rho, dst ws cs r t R⟩ := rfl
theorem pop_wide {rho : List Slot} {Q : D → S → Prop} {E : DX → S → Prop} {w : Int} : WP (meL popAtL (.loc 0) [.int 0] ⟨rho, dst (w :: ws) cs r t R⟩) Q E = Q (.int w) ⟨rho, dst ws cs r t R⟩ := by
  show WP (match popAtL [.int 0] (.int w :: ws.map D.int) with | some (d, ds') => _ | none => _) Q E = _
  have h : popAtL [.int 0] (.int w :: ws.map D.int) = some (.int w, ws.map D.int) := by
    unfold popAtL
    have h1 : -(2 ^ 63) ≤ (0 : Int) ∧ (0 : Int) < 2 ^ 63 := by decide
    simp only [h1, and_self, if_true]
    unfold seqIndex?
    simp
  rw [h]
  rfl
def tBegun : M Fl := mThen (mOwn 1 (mLc [2] (mItems (mVar 0)) (mPut 2) (mTest (mBin geD (mApp absB (mCons (mVar 2) mNil)) (mBin powD (M.pure (.int 10)) (M.pure (.int 18))))) (mBin subD (mApp absB (mCons (mVar 2) mNil)) (mBin powD (M.pure (.int 10)) (M.pure (.int 18)))))) (mRet (mNew (mDictF [(.inr "wide", mMove 1), (.inr "cells", mOb (mLc [2] (mItems (mVar 0)) (mPut 2) (M.pure true) (mBin modD (mApp intB (mCons (mApp absB (mCons (mVar 2) mNil)) mNil)) (M.pure (.int 2147483629))))), (.inr "rest", M.pure (.int 0)), (.inr "turn", M.pure (.int 0))])))
def iabs (i : Int) : Int := if i < 0 then -i else i
def dint : D → Int
  | .int i => i
  | _ => 0
theorem map_int {f : Int → Int} : ∀ l : List Int, (l.map D.int).map (fun d => D.int (f (dint d))) = (l.map f).map D.int
  | [] => rfl
  | i :: l => by rw [List.map_cons, List.map_cons, List.map_cons, List.map_cons, map_int l]; rfl
theorem filter_int {p : Int → Bool} : ∀ l : List Int, (l.map D.int).filter (fun d => p (dint d)) = (l.filter p).map D.int
  | [] => rfl
  | i :: l => by
    rw [List.map_cons]
    have e : dint (.int i) = i := rfl
    by_cases h : p i = true
    · rw [List.filter_cons_of_pos (by rw [e]; exact h), List.filter_cons_of_pos h, List.map_cons, filter_int l]
    · rw [List.filter_cons_of_neg (by rw [e]; exact h), List.filter_cons_of_neg h, filter_int l]
theorem begun_ok {ns : List Int} (hl : ns.length ≤ 63) : WP (runDef 3 tBegun [.lst (ns.map D.int)] []) (fun d s => d = .loc 1 ∧ ∃ ws, s = ⟨[], dst ws (ns.map fun i => iabs i % 2147483629) 0 0 []⟩) NoE := by
  unfold tBegun
  try simp only [wp_then, after_next, after_ret, after_brk, after_cont, wp_next, wp_ret, wp_expr, wp_ifs, wp_set, wp_asg, wp_test, wp_bin, wp_nil, wp_cons, wp_app, wp_lst, wp_tup, wp_not, wp_notT, wp_andT, wp_orT, wp_cond, wp_items, wp_call, wp_runDef, ends_ret, ends_next, turn_next, turn_ret, wp_for, wp_put, wp_own, wp_ob, wp_new, wp_pairs_nil, wp_pairs_cons, wp_dictF, wp_dput, wp_meL, wp_pure, wp_pure', wp_ok, wp_ofO_some, wp_parV, wp_val, wp_var0, wp_var1, wp_var2, wp_var3, wp_var4, wp_var5, wp_var6, wp_var7, wp_var8, wp_var9, wp_var10, wp_var11, wp_var12, wp_var13, wp_var14, wp_var15, wp_var16, wp_var17, wp_var18, wp_var19, wp_var20, wp_var21, wp_move0, wp_varo0, wp_move1, wp_varo1, wp_move2, wp_varo2, wp_move3, wp_varo3, wp_move4, wp_varo4, wp_move5, wp_varo5, wp_move6, wp_varo6, wp_move7, wp_varo7, wp_move8, wp_varo8, wp_move9, wp_varo9, wp_move10, wp_varo10, wp_move11, wp_varo11, initS, DO2.slot, dat_lst, dat_dic, mod_lst, mod_dic, itemsO_lst, itemsO_tup, items_str, boolO_bl, Option.some.injEq, exists_eq_left', keyO_str, keyO_int,  slot_non, slot_bl, slot_int, slot_str, slot_tup, slot_lst, slot_loc, slot_dic, slot_kdic, S.put, List.map_cons, List.map_nil, List.length_cons, List.length_nil, List.set_cons_zero, List.set_cons_succ, List.getElem?_cons_zero, List.getElem?_cons_succ, List.cons_append, List.nil_append, List.replicate, Nat.reduceAdd, Nat.reduceSub, add_int, add_lst, add_tup, add_str, sub_int, mul_int, fdiv_int, mod_int, pow_int, int_int, int_bl, abs_int, len_lst, len_tup, len_str, wp_ifS, ix_turn, ix_rest, ix_wide, ix_cells, eq_int, ne_int, lt_int, le_int, ge_int, gt_int, ne_wide, put_turn, put_rest, is_wide, pop_wide]
  have hlen : (ns.map D.int).length ≤ sizeLine := by rw [szL, List.length_map]; omega
  refine wp_lcP (fun d => decide ((10 : Int) ^ 18 ≤ iabs (dint d))) (fun d => .int (iabs (dint d) - 10 ^ 18)) ?_
  try simp only [wp_then, after_next, after_ret, after_brk, after_cont, wp_next, wp_ret, wp_expr, wp_ifs, wp_set, wp_asg, wp_test, wp_bin, wp_nil, wp_cons, wp_app, wp_lst, wp_tup, wp_not, wp_notT, wp_andT, wp_orT, wp_cond, wp_items, wp_call, wp_runDef, ends_ret, ends_next, turn_next, turn_ret, wp_for, wp_put, wp_own, wp_ob, wp_new, wp_pairs_nil, wp_pairs_cons, wp_dictF, wp_dput, wp_meL, wp_pure, wp_pure', wp_ok, wp_ofO_some, wp_parV, wp_val, wp_var0, wp_var1, wp_var2, wp_var3, wp_var4, wp_var5, wp_var6, wp_var7, wp_var8, wp_var9, wp_var10, wp_var11, wp_var12, wp_var13, wp_var14, wp_var15, wp_var16, wp_var17, wp_var18, wp_var19, wp_var20, wp_var21, wp_move0, wp_varo0, wp_move1, wp_varo1, wp_move2, wp_varo2, wp_move3, wp_varo3, wp_move4, wp_varo4, wp_move5, wp_varo5, wp_move6, wp_varo6, wp_move7, wp_varo7, wp_move8, wp_varo8, wp_move9, wp_varo9, wp_move10, wp_varo10, wp_move11, wp_varo11, initS, DO2.slot, dat_lst, dat_dic, mod_lst, mod_dic, itemsO_lst, itemsO_tup, items_str, boolO_bl, Option.some.injEq, exists_eq_left', keyO_str, keyO_int,  slot_non, slot_bl, slot_int, slot_str, slot_tup, slot_lst, slot_loc, slot_dic, slot_kdic, S.put, List.map_cons, List.map_nil, List.length_cons, List.length_nil, List.set_cons_zero, List.set_cons_succ, List.getElem?_cons_zero, List.getElem?_cons_succ, List.cons_append, List.nil_append, List.replicate, Nat.reduceAdd, Nat.reduceSub, add_int, add_lst, add_tup, add_str, sub_int, mul_int, fdiv_int, mod_int, pow_int, int_int, int_bl, abs_int, len_lst, len_tup, len_str, wp_ifS, ix_turn, ix_rest, ix_wide, ix_cells, eq_int, ne_int, lt_int, le_int, ge_int, gt_int, ne_wide, put_turn, put_rest, is_wide, pop_wide]
  refine ⟨rfl, (by decide : (2 : Nat) < 3), hlen, fun d hd => ?_, ?_⟩
  · obtain ⟨i, _, rfl⟩ := List.mem_map.mp hd
    try simp only [wp_then, after_next, after_ret, after_brk, after_cont, wp_next, wp_ret, wp_expr, wp_ifs, wp_set, wp_asg, wp_test, wp_bin, wp_nil, wp_cons, wp_app, wp_lst, wp_tup, wp_not, wp_notT, wp_andT, wp_orT, wp_cond, wp_items, wp_call, wp_runDef, ends_ret, ends_next, turn_next, turn_ret, wp_for, wp_put, wp_own, wp_ob, wp_new, wp_pairs_nil, wp_pairs_cons, wp_dictF, wp_dput, wp_meL, wp_pure, wp_pure', wp_ok, wp_ofO_some, wp_parV, wp_val, wp_var0, wp_var1, wp_var2, wp_var3, wp_var4, wp_var5, wp_var6, wp_var7, wp_var8, wp_var9, wp_var10, wp_var11, wp_var12, wp_var13, wp_var14, wp_var15, wp_var16, wp_var17, wp_var18, wp_var19, wp_var20, wp_var21, wp_move0, wp_varo0, wp_move1, wp_varo1, wp_move2, wp_varo2, wp_move3, wp_varo3, wp_move4, wp_varo4, wp_move5, wp_varo5, wp_move6, wp_varo6, wp_move7, wp_varo7, wp_move8, wp_varo8, wp_move9, wp_varo9, wp_move10, wp_varo10, wp_move11, wp_varo11, initS, DO2.slot, dat_lst, dat_dic, mod_lst, mod_dic, itemsO_lst, itemsO_tup, items_str, boolO_bl, Option.some.injEq, exists_eq_left', keyO_str, keyO_int,  slot_non, slot_bl, slot_int, slot_str, slot_tup, slot_lst, slot_loc, slot_dic, slot_kdic, S.put, List.map_cons, List.map_nil, List.length_cons, List.length_nil, List.set_cons_zero, List.set_cons_succ, List.getElem?_cons_zero, List.getElem?_cons_succ, List.cons_append, List.nil_append, List.replicate, Nat.reduceAdd, Nat.reduceSub, add_int, add_lst, add_tup, add_str, sub_int, mul_int, fdiv_int, mod_int, pow_int, int_int, int_bl, abs_int, len_lst, len_tup, len_str, wp_ifS, ix_turn, ix_rest, ix_wide, ix_cells, eq_int, ne_int, lt_int, le_int, ge_int, gt_int, ne_wide, put_turn, put_rest, is_wide, pop_wide]
    exact ⟨⟨⟨by decide, by decide, by decide⟩, trivial, rfl⟩, fun _ => ⟨⟨by decide, by decide, by decide⟩, trivial, rfl⟩⟩
  · try simp only [wp_then, after_next, after_ret, after_brk, after_cont, wp_next, wp_ret, wp_expr, wp_ifs, wp_set, wp_asg, wp_test, wp_bin, wp_nil, wp_cons, wp_app, wp_lst, wp_tup, wp_not, wp_notT, wp_andT, wp_orT, wp_cond, wp_items, wp_call, wp_runDef, ends_ret, ends_next, turn_next, turn_ret, wp_for, wp_put, wp_own, wp_ob, wp_new, wp_pairs_nil, wp_pairs_cons, wp_dictF, wp_dput, wp_meL, wp_pure, wp_pure', wp_ok, wp_ofO_some, wp_parV, wp_val, wp_var0, wp_var1, wp_var2, wp_var3, wp_var4, wp_var5, wp_var6, wp_var7, wp_var8, wp_var9, wp_var10, wp_var11, wp_var12, wp_var13, wp_var14, wp_var15, wp_var16, wp_var17, wp_var18, wp_var19, wp_var20, wp_var21, wp_move0, wp_varo0, wp_move1, wp_varo1, wp_move2, wp_varo2, wp_move3, wp_varo3, wp_move4, wp_varo4, wp_move5, wp_varo5, wp_move6, wp_varo6, wp_move7, wp_varo7, wp_move8, wp_varo8, wp_move9, wp_varo9, wp_move10, wp_varo10, wp_move11, wp_varo11, initS, DO2.slot, dat_lst, dat_dic, mod_lst, mod_dic, itemsO_lst, itemsO_tup, items_str, boolO_bl, Option.some.injEq, exists_eq_left', keyO_str, keyO_int,  slot_non, slot_bl, slot_int, slot_str, slot_tup, slot_lst, slot_loc, slot_dic, slot_kdic, S.put, List.map_cons, List.map_nil, List.length_cons, List.length_nil, List.set_cons_zero, List.set_cons_succ, List.getElem?_cons_zero, List.getElem?_cons_succ, List.cons_append, List.nil_append, List.replicate, Nat.reduceAdd, Nat.reduceSub, add_int, add_lst, add_tup, add_str, sub_int, mul_int, fdiv_int, mod_int, pow_int, int_int, int_bl, abs_int, len_lst, len_tup, len_str, wp_ifS, ix_turn, ix_rest, ix_wide, ix_cells, eq_int, ne_int, lt_int, le_int, ge_int, gt_int, ne_wide, put_turn, put_rest, is_wide, pop_wide]
    refine wp_lcP (fun _ => true) (fun d => .int (iabs (dint d) % 2147483629)) ?_
    try simp only [wp_then, after_next, after_ret, after_brk, after_cont, wp_next, wp_ret, wp_expr, wp_ifs, wp_set, wp_asg, wp_test, wp_bin, wp_nil, wp_cons, wp_app, wp_lst, wp_tup, wp_not, wp_notT, wp_andT, wp_orT, wp_cond, wp_items, wp_call, wp_runDef, ends_ret, ends_next, turn_next, turn_ret, wp_for, wp_put, wp_own, wp_ob, wp_new, wp_pairs_nil, wp_pairs_cons, wp_dictF, wp_dput, wp_meL, wp_pure, wp_pure', wp_ok, wp_ofO_some, wp_parV, wp_val, wp_var0, wp_var1, wp_var2, wp_var3, wp_var4, wp_var5, wp_var6, wp_var7, wp_var8, wp_var9, wp_var10, wp_var11, wp_var12, wp_var13, wp_var14, wp_var15, wp_var16, wp_var17, wp_var18, wp_var19, wp_var20, wp_var21, wp_move0, wp_varo0, wp_move1, wp_varo1, wp_move2, wp_varo2, wp_move3, wp_varo3, wp_move4, wp_varo4, wp_move5, wp_varo5, wp_move6, wp_varo6, wp_move7, wp_varo7, wp_move8, wp_varo8, wp_move9, wp_varo9, wp_move10, wp_varo10, wp_move11, wp_varo11, initS, DO2.slot, dat_lst, dat_dic, mod_lst, mod_dic, itemsO_lst, itemsO_tup, items_str, boolO_bl, Option.some.injEq, exists_eq_left', keyO_str, keyO_int,  slot_non, slot_bl, slot_int, slot_str, slot_tup, slot_lst, slot_loc, slot_dic, slot_kdic, S.put, List.map_cons, List.map_nil, List.length_cons, List.length_nil, List.set_cons_zero, List.set_cons_succ, List.getElem?_cons_zero, List.getElem?_cons_succ, List.cons_append, List.nil_append, List.replicate, Nat.reduceAdd, Nat.reduceSub, add_int, add_lst, add_tup, add_str, sub_int, mul_int, fdiv_int, mod_int, pow_int, int_int, int_bl, abs_int, len_lst, len_tup, len_str, wp_ifS, ix_turn, ix_rest, ix_wide, ix_cells, eq_int, ne_int, lt_int, le_int, ge_int, gt_int, ne_wide, put_turn, put_rest, is_wide, pop_wide]
    refine ⟨rfl, (by decide : (2 : Nat) < 3), hlen, fun d hd => ?_, ?_⟩
    · obtain ⟨i, _, rfl⟩ := List.mem_map.mp hd
      try simp only [wp_then, after_next, after_ret, after_brk, after_cont, wp_next, wp_ret, wp_expr, wp_ifs, wp_set, wp_asg, wp_test, wp_bin, wp_nil, wp_cons, wp_app, wp_lst, wp_tup, wp_not, wp_notT, wp_andT, wp_orT, wp_cond, wp_items, wp_call, wp_runDef, ends_ret, ends_next, turn_next, turn_ret, wp_for, wp_put, wp_own, wp_ob, wp_new, wp_pairs_nil, wp_pairs_cons, wp_dictF, wp_dput, wp_meL, wp_pure, wp_pure', wp_ok, wp_ofO_some, wp_parV, wp_val, wp_var0, wp_var1, wp_var2, wp_var3, wp_var4, wp_var5, wp_var6, wp_var7, wp_var8, wp_var9, wp_var10, wp_var11, wp_var12, wp_var13, wp_var14, wp_var15, wp_var16, wp_var17, wp_var18, wp_var19, wp_var20, wp_var21, wp_move0, wp_varo0, wp_move1, wp_varo1, wp_move2, wp_varo2, wp_move3, wp_varo3, wp_move4, wp_varo4, wp_move5, wp_varo5, wp_move6, wp_varo6, wp_move7, wp_varo7, wp_move8, wp_varo8, wp_move9, wp_varo9, wp_move10, wp_varo10, wp_move11, wp_varo11, initS, DO2.slot, dat_lst, dat_dic, mod_lst, mod_dic, itemsO_lst, itemsO_tup, items_str, boolO_bl, Option.some.injEq, exists_eq_left', keyO_str, keyO_int,  slot_non, slot_bl, slot_int, slot_str, slot_tup, slot_lst, slot_loc, slot_dic, slot_kdic, S.put, List.map_cons, List.map_nil, List.length_cons, List.length_nil, List.set_cons_zero, List.set_cons_succ, List.getElem?_cons_zero, List.getElem?_cons_succ, List.cons_append, List.nil_append, List.replicate, Nat.reduceAdd, Nat.reduceSub, add_int, add_lst, add_tup, add_str, sub_int, mul_int, fdiv_int, mod_int, pow_int, int_int, int_bl, abs_int, len_lst, len_tup, len_str, wp_ifS, ix_turn, ix_rest, ix_wide, ix_cells, eq_int, ne_int, lt_int, le_int, ge_int, gt_int, ne_wide, put_turn, put_rest, is_wide, pop_wide]
      exact ⟨⟨trivial, trivial⟩, fun _ => ⟨by decide, trivial, rfl⟩⟩
    · try simp only [wp_then, after_next, after_ret, after_brk, after_cont, wp_next, wp_ret, wp_expr, wp_ifs, wp_set, wp_asg, wp_test, wp_bin, wp_nil, wp_cons, wp_app, wp_lst, wp_tup, wp_not, wp_notT, wp_andT, wp_orT, wp_cond, wp_items, wp_call, wp_runDef, ends_ret, ends_next, turn_next, turn_ret, wp_for, wp_put, wp_own, wp_ob, wp_new, wp_pairs_nil, wp_pairs_cons, wp_dictF, wp_dput, wp_meL, wp_pure, wp_pure', wp_ok, wp_ofO_some, wp_parV, wp_val, wp_var0, wp_var1, wp_var2, wp_var3, wp_var4, wp_var5, wp_var6, wp_var7, wp_var8, wp_var9, wp_var10, wp_var11, wp_var12, wp_var13, wp_var14, wp_var15, wp_var16, wp_var17, wp_var18, wp_var19, wp_var20, wp_var21, wp_move0, wp_varo0, wp_move1, wp_varo1, wp_move2, wp_varo2, wp_move3, wp_varo3, wp_move4, wp_varo4, wp_move5, wp_varo5, wp_move6, wp_varo6, wp_move7, wp_varo7, wp_move8, wp_varo8, wp_move9, wp_varo9, wp_move10, wp_varo10, wp_move11, wp_varo11, initS, DO2.slot, dat_lst, dat_dic, mod_lst, mod_dic, itemsO_lst, itemsO_tup, items_str, boolO_bl, Option.some.injEq, exists_eq_left', keyO_str, keyO_int,  slot_non, slot_bl, slot_int, slot_str, slot_tup, slot_lst, slot_loc, slot_dic, slot_kdic, S.put, List.map_cons, List.map_nil, List.length_cons, List.length_nil, List.set_cons_zero, List.set_cons_succ, List.getElem?_cons_zero, List.getElem?_cons_succ, List.cons_append, List.nil_append, List.replicate, Nat.reduceAdd, Nat.reduceSub, add_int, add_lst, add_tup, add_str, sub_int, mul_int, fdiv_int, mod_int, pow_int, int_int, int_bl, abs_int, len_lst, len_tup, len_str, wp_ifS, ix_turn, ix_rest, ix_wide, ix_cells, eq_int, ne_int, lt_int, le_int, ge_int, gt_int, ne_wide, put_turn, put_rest, is_wide, pop_wide]
      refine ⟨trivial, ⟨by decide, by decide⟩, trivial, ?_⟩
      have e1 : List.filter (fun d => decide ((10 : Int) ^ 18 ≤ iabs (dint d))) (List.map D.int ns) = _ := filter_int (p := fun i => decide ((10 : Int) ^ 18 ≤ iabs i)) ns
      have e2 : List.filter (fun _ => true) (List.map D.int ns) = List.map D.int ns := List.filter_eq_self.mpr fun _ _ => rfl
      rw [e1, e2]
      refine ⟨trivial, ((ns.filter fun i => decide ((10 : Int) ^ 18 ≤ iabs i)).map fun i => iabs i - 10 ^ 18), ?_⟩
      unfold dst
      rw [← map_int, ← map_int]
end
end DL
namespace DL
open PySem PySem.Spec PyProof.Rows L2
section
variable {ws cs : List Int} {r t : Int} {R : List MO} {T : Nat}
theorem mixed_b (t0 : 0 ≤ t) (t1 : t ≤ 1000000000) : WP (runDef 6 tMixed [.loc 1] (dst ws cs r t R)) (fun d s => ∃ i, d = .int i ∧ s = ⟨[], dst ws cs r (t + 1) R⟩) NoE := by
  unfold tMixed
  try simp only [wp_then, after_next, after_ret, after_brk, after_cont, wp_next, wp_ret, wp_expr, wp_ifs, wp_set, wp_asg, wp_test, wp_bin, wp_nil, wp_cons, wp_app, wp_lst, wp_tup, wp_not, wp_notT, wp_andT, wp_orT, wp_cond, wp_items, wp_call, wp_runDef, ends_ret, ends_next, turn_next, turn_ret, wp_for, wp_put, wp_own, wp_ob, wp_new, wp_pairs_nil, wp_pairs_cons, wp_dictF, wp_dput, wp_meL, wp_pure, wp_pure', wp_ok, wp_ofO_some, wp_parV, wp_val, wp_var0, wp_var1, wp_var2, wp_var3, wp_var4, wp_var5, wp_var6, wp_var7, wp_var8, wp_var9, wp_var10, wp_var11, wp_var12, wp_var13, wp_var14, wp_var15, wp_var16, wp_var17, wp_var18, wp_var19, wp_var20, wp_var21, wp_move0, wp_varo0, wp_move1, wp_varo1, wp_move2, wp_varo2, wp_move3, wp_varo3, wp_move4, wp_varo4, wp_move5, wp_varo5, wp_move6, wp_varo6, wp_move7, wp_varo7, wp_move8, wp_varo8, wp_move9, wp_varo9, wp_move10, wp_varo10, wp_move11, wp_varo11, initS, DO2.slot, dat_lst, dat_dic, mod_lst, mod_dic, itemsO_lst, itemsO_tup, items_str, boolO_bl, Option.some.injEq, exists_eq_left', keyO_str, keyO_int,  slot_non, slot_bl, slot_int, slot_str, slot_tup, slot_lst, slot_loc, slot_dic, slot_kdic, S.put, List.map_cons, List.map_nil, List.length_cons, List.length_nil, List.set_cons_zero, List.set_cons_succ, List.getElem?_cons_zero, List.getElem?_cons_succ, List.cons_append, List.nil_append, List.replicate, Nat.reduceAdd, Nat.reduceSub, add_int, add_lst, add_tup, add_str, sub_int, mul_int, fdiv_int, mod_int, pow_int, int_int, int_bl, abs_int, len_lst, len_tup, len_str, wp_ifS, ix_turn, ix_rest, ix_wide, ix_cells, eq_int, ne_int, lt_int, le_int, ge_int, gt_int, ne_wide, put_turn, put_rest, is_wide, pop_wide]
  refine ⟨by rw [szL]; decide, ?_⟩
  refine wp_forL (I := fun ds s => (∀ d ∈ ds, ∃ p : Int, d = .int p ∧ 0 < p ∧ p < 2 ^ 32) ∧ ∃ f x3 x4 x5, s = ⟨[.val (.loc 1), .val (.int (t + 1)), .val (.int f), x3, x4, x5], dst ws cs r (t + 1) R⟩) (fun d ds s h => ?_) (fun s h => ?_) _ _ ⟨?_, _, _, _, _, rfl⟩
  · obtain ⟨h1, f, x3, x4, x5, rfl⟩ := h
    obtain ⟨p, rfl, p1, p2⟩ := h1 d (List.mem_cons_self ..)
    try simp only [wp_then, after_next, after_ret, after_brk, after_cont, wp_next, wp_ret, wp_expr, wp_ifs, wp_set, wp_asg, wp_test, wp_bin, wp_nil, wp_cons, wp_app, wp_lst, wp_tup, wp_not, wp_notT, wp_andT, wp_orT, wp_cond, wp_items, wp_call, wp_runDef, ends_ret, ends_next, turn_next, turn_ret, wp_for, wp_put, wp_own, wp_ob, wp_new, wp_pairs_nil, wp_pairs_cons, wp_dictF, wp_dput, wp_meL, wp_pure, wp_pure', wp_ok, wp_ofO_some, wp_parV, wp_val, wp_var0, wp_var1, wp_var2, wp_var3, wp_var4, wp_var5, wp_var6, wp_var7, wp_var8, wp_var9, wp_var10, wp_var11, wp_var12, wp_var13, wp_var14, wp_var15, wp_var16, wp_var17, wp_var18, wp_var19, wp_var20, wp_var21, wp_move0, wp_varo0, wp_move1, wp_varo1, wp_move2, wp_varo2, wp_move3, wp_varo3, wp_move4, wp_varo4, wp_move5, wp_varo5, wp_move6, wp_varo6, wp_move7, wp_varo7, wp_move8, wp_varo8, wp_move9, wp_varo9, wp_move10, wp_varo10, wp_move11, wp_varo11, initS, DO2.slot, dat_lst, dat_dic, mod_lst, mod_dic, itemsO_lst, itemsO_tup, items_str, boolO_bl, Option.some.injEq, exists_eq_left', keyO_str, keyO_int,  slot_non, slot_bl, slot_int, slot_str, slot_tup, slot_lst, slot_loc, slot_dic, slot_kdic, S.put, List.map_cons, List.map_nil, List.length_cons, List.length_nil, List.set_cons_zero, List.set_cons_succ, List.getElem?_cons_zero, List.getElem?_cons_succ, List.cons_append, List.nil_append, List.replicate, Nat.reduceAdd, Nat.reduceSub, add_int, add_lst, add_tup, add_str, sub_int, mul_int, fdiv_int, mod_int, pow_int, int_int, int_bl, abs_int, len_lst, len_tup, len_str, wp_ifS, ix_turn, ix_rest, ix_wide, ix_cells, eq_int, ne_int, lt_int, le_int, ge_int, gt_int, ne_wide, put_turn, put_rest, is_wide, pop_wide]
    refine ⟨.inl (by omega), by unfold CDiv; omega, ?_⟩
    refine wp_forL (I := fun ds s => (∀ d ∈ ds, ∃ p : Int, d = .int p) ∧ ∃ b x5, (ds = [] → -70000000000000 < b ∧ b < 70000000000000) ∧ s = ⟨[.val (.loc 1), .val (.int (t + 1)), .val (.int f), .val (.int p), .val (.int b), x5], dst ws cs r (t + 1) R⟩) (fun d ds s h => ?_) (fun s h => ?_) _ _ ⟨?_, _, _, ?_, rfl⟩
    · obtain ⟨h2, b, x5, _, rfl⟩ := h
      obtain ⟨c, rfl⟩ := h2 d (List.mem_cons_self ..)
      try simp only [wp_then, after_next, after_ret, after_brk, after_cont, wp_next, wp_ret, wp_expr, wp_ifs, wp_set, wp_asg, wp_test, wp_bin, wp_nil, wp_cons, wp_app, wp_lst, wp_tup, wp_not, wp_notT, wp_andT, wp_orT, wp_cond, wp_items, wp_call, wp_runDef, ends_ret, ends_next, turn_next, turn_ret, wp_for, wp_put, wp_own, wp_ob, wp_new, wp_pairs_nil, wp_pairs_cons, wp_dictF, wp_dput, wp_meL, wp_pure, wp_pure', wp_ok, wp_ofO_some, wp_parV, wp_val, wp_var0, wp_var1, wp_var2, wp_var3, wp_var4, wp_var5, wp_var6, wp_var7, wp_var8, wp_var9, wp_var10, wp_var11, wp_var12, wp_var13, wp_var14, wp_var15, wp_var16, wp_var17, wp_var18, wp_var19, wp_var20, wp_var21, wp_move0, wp_varo0, wp_move1, wp_varo1, wp_move2, wp_varo2, wp_move3, wp_varo3, wp_move4, wp_varo4, wp_move5, wp_varo5, wp_move6, wp_varo6, wp_move7, wp_varo7, wp_move8, wp_varo8, wp_move9, wp_varo9, wp_move10, wp_varo10, wp_move11, wp_varo11, initS, DO2.slot, dat_lst, dat_dic, mod_lst, mod_dic, itemsO_lst, itemsO_tup, items_str, boolO_bl, Option.some.injEq, exists_eq_left', keyO_str, keyO_int,  slot_non, slot_bl, slot_int, slot_str, slot_tup, slot_lst, slot_loc, slot_dic, slot_kdic, S.put, List.map_cons, List.map_nil, List.length_cons, List.length_nil, List.set_cons_zero, List.set_cons_succ, List.getElem?_cons_zero, List.getElem?_cons_succ, List.cons_append, List.nil_append, List.replicate, Nat.reduceAdd, Nat.reduceSub, add_int, add_lst, add_tup, add_str, sub_int, mul_int, fdiv_int, mod_int, pow_int, int_int, int_bl, abs_int, len_lst, len_tup, len_str, wp_ifS, ix_turn, ix_rest, ix_wide, ix_cells, eq_int, ne_int, lt_int, le_int, ge_int, gt_int, ne_wide, put_turn, put_rest, is_wide, pop_wide]
      refine ⟨.inr (by omega), p1, fun d hd => h2 d (List.mem_cons_of_mem _ hd), _, _, fun _ => ?_, rfl⟩
      have e1 := Int.emod_nonneg (b * 69621 + c + (t + 1)) (show p ≠ 0 by omega)
      have e2 := Int.emod_lt_of_pos (b * 69621 + c + (t + 1)) p1
      omega
    · obtain ⟨_, b, x5, hb, rfl⟩ := h
      have hb := hb rfl
      try simp only [wp_then, after_next, after_ret, after_brk, after_cont, wp_next, wp_ret, wp_expr, wp_ifs, wp_set, wp_asg, wp_test, wp_bin, wp_nil, wp_cons, wp_app, wp_lst, wp_tup, wp_not, wp_notT, wp_andT, wp_orT, wp_cond, wp_items, wp_call, wp_runDef, ends_ret, ends_next, turn_next, turn_ret, wp_for, wp_put, wp_own, wp_ob, wp_new, wp_pairs_nil, wp_pairs_cons, wp_dictF, wp_dput, wp_meL, wp_pure, wp_pure', wp_ok, wp_ofO_some, wp_parV, wp_val, wp_var0, wp_var1, wp_var2, wp_var3, wp_var4, wp_var5, wp_var6, wp_var7, wp_var8, wp_var9, wp_var10, wp_var11, wp_var12, wp_var13, wp_var14, wp_var15, wp_var16, wp_var17, wp_var18, wp_var19, wp_var20, wp_var21, wp_move0, wp_varo0, wp_move1, wp_varo1, wp_move2, wp_varo2, wp_move3, wp_varo3, wp_move4, wp_varo4, wp_move5, wp_varo5, wp_move6, wp_varo6, wp_move7, wp_varo7, wp_move8, wp_varo8, wp_move9, wp_varo9, wp_move10, wp_varo10, wp_move11, wp_varo11, initS, DO2.slot, dat_lst, dat_dic, mod_lst, mod_dic, itemsO_lst, itemsO_tup, items_str, boolO_bl, Option.some.injEq, exists_eq_left', keyO_str, keyO_int,  slot_non, slot_bl, slot_int, slot_str, slot_tup, slot_lst, slot_loc, slot_dic, slot_kdic, S.put, List.map_cons, List.map_nil, List.length_cons, List.length_nil, List.set_cons_zero, List.set_cons_succ, List.getElem?_cons_zero, List.getElem?_cons_succ, List.cons_append, List.nil_append, List.replicate, Nat.reduceAdd, Nat.reduceSub, add_int, add_lst, add_tup, add_str, sub_int, mul_int, fdiv_int, mod_int, pow_int, int_int, int_bl, abs_int, len_lst, len_tup, len_str, wp_ifS, ix_turn, ix_rest, ix_wide, ix_cells, eq_int, ne_int, lt_int, le_int, ge_int, gt_int, ne_wide, put_turn, put_rest, is_wide, pop_wide]
      refine ⟨.inr (by omega), ⟨by decide, by decide, by omega⟩, p1, fun d hd => h1 d (List.mem_cons_of_mem _ hd), _, _, _, _, rfl⟩
    · intro d hd
      obtain ⟨c, _, rfl⟩ := List.mem_map.mp hd
      exact ⟨c, rfl⟩
    · intro _
      omega
  · obtain ⟨_, f, x3, x4, x5, rfl⟩ := h
    try simp only [wp_then, after_next, after_ret, after_brk, after_cont, wp_next, wp_ret, wp_expr, wp_ifs, wp_set, wp_asg, wp_test, wp_bin, wp_nil, wp_cons, wp_app, wp_lst, wp_tup, wp_not, wp_notT, wp_andT, wp_orT, wp_cond, wp_items, wp_call, wp_runDef, ends_ret, ends_next, turn_next, turn_ret, wp_for, wp_put, wp_own, wp_ob, wp_new, wp_pairs_nil, wp_pairs_cons, wp_dictF, wp_dput, wp_meL, wp_pure, wp_pure', wp_ok, wp_ofO_some, wp_parV, wp_val, wp_var0, wp_var1, wp_var2, wp_var3, wp_var4, wp_var5, wp_var6, wp_var7, wp_var8, wp_var9, wp_var10, wp_var11, wp_var12, wp_var13, wp_var14, wp_var15, wp_var16, wp_var17, wp_var18, wp_var19, wp_var20, wp_var21, wp_move0, wp_varo0, wp_move1, wp_varo1, wp_move2, wp_varo2, wp_move3, wp_varo3, wp_move4, wp_varo4, wp_move5, wp_varo5, wp_move6, wp_varo6, wp_move7, wp_varo7, wp_move8, wp_varo8, wp_move9, wp_varo9, wp_move10, wp_varo10, wp_move11, wp_varo11, initS, DO2.slot, dat_lst, dat_dic, mod_lst, mod_dic, itemsO_lst, itemsO_tup, items_str, boolO_bl, Option.some.injEq, exists_eq_left', keyO_str, keyO_int,  slot_non, slot_bl, slot_int, slot_str, slot_tup, slot_lst, slot_loc, slot_dic, slot_kdic, S.put, List.map_cons, List.map_nil, List.length_cons, List.length_nil, List.set_cons_zero, List.set_cons_succ, List.getElem?_cons_zero, List.getElem?_cons_succ, List.cons_append, List.nil_append, List.replicate, Nat.reduceAdd, Nat.reduceSub, add_int, add_lst, add_tup, add_str, sub_int, mul_int, fdiv_int, mod_int, pow_int, int_int, int_bl, abs_int, len_lst, len_tup, len_str, wp_ifS, ix_turn, ix_rest, ix_wide, ix_cells, eq_int, ne_int, lt_int, le_int, ge_int, gt_int, ne_wide, put_turn, put_rest, is_wide, pop_wide]
    exact ⟨f, rfl, trivial⟩
  · intro d hd
    simp only [List.mem_cons, List.not_mem_nil, or_false] at hd
    rcases hd with rfl | rfl | rfl | rfl <;> exact ⟨_, rfl, by decide, by decide⟩
theorem take_b {g : Fd} {m : Int} (hm : 0 < m) (hb : m < 1073741824) (t0 : 0 ≤ t) (t1 : t ≤ T) (hg : ∀ (ws : List Int) (r t : Int), 0 ≤ t → t ≤ T → WP (g [.loc 1] (dst ws cs r t R)) (fun d s => ∃ i, d = .int i ∧ s = ⟨[], dst ws cs r (t + 1) R⟩) NoE) :
    WP (runDef 3 (tTake g) [.loc 1, .int m] (dst ws cs r t R)) (fun d s => ∃ i ws' r' t', d = .int i ∧ 0 ≤ i ∧ i < m ∧ s = ⟨[], dst ws' cs r' t' R⟩ ∧ 0 ≤ t' ∧ t' ≤ (T + 1 : Nat)) NoE := by
  unfold tTake
  have rest : ∀ (ws : List Int) (r t : Int), 0 ≤ t → t ≤ (T + 1 : Nat) → 0 < m ∧ CDiv r m ∧ ∃ i ws' r' t', D.int (r % m) = .int i ∧ 0 ≤ i ∧ i < m ∧ (⟨[], dst ws cs (r / m) t R⟩ : S) = ⟨[], dst ws' cs r' t' R⟩ ∧ 0 ≤ t' ∧ t' ≤ (T + 1 : Nat) := fun ws r t g0 g1 => ⟨hm, ⟨hm, hb⟩, _, _, _, _, rfl, Int.emod_nonneg _ (by omega), Int.emod_lt_of_pos _ hm, rfl, g0, g1⟩
  try simp only [wp_then, after_next, after_ret, after_brk, after_cont, wp_next, wp_ret, wp_expr, wp_ifs, wp_set, wp_asg, wp_test, wp_bin, wp_nil, wp_cons, wp_app, wp_lst, wp_tup, wp_not, wp_notT, wp_andT, wp_orT, wp_cond, wp_items, wp_call, wp_runDef, ends_ret, ends_next, turn_next, turn_ret, wp_for, wp_put, wp_own, wp_ob, wp_new, wp_pairs_nil, wp_pairs_cons, wp_dictF, wp_dput, wp_meL, wp_pure, wp_pure', wp_ok, wp_ofO_some, wp_parV, wp_val, wp_var0, wp_var1, wp_var2, wp_var3, wp_var4, wp_var5, wp_var6, wp_var7, wp_var8, wp_var9, wp_var10, wp_var11, wp_var12, wp_var13, wp_var14, wp_var15, wp_var16, wp_var17, wp_var18, wp_var19, wp_var20, wp_var21, wp_move0, wp_varo0, wp_move1, wp_varo1, wp_move2, wp_varo2, wp_move3, wp_varo3, wp_move4, wp_varo4, wp_move5, wp_varo5, wp_move6, wp_varo6, wp_move7, wp_varo7, wp_move8, wp_varo8, wp_move9, wp_varo9, wp_move10, wp_varo10, wp_move11, wp_varo11, initS, DO2.slot, dat_lst, dat_dic, mod_lst, mod_dic, itemsO_lst, itemsO_tup, items_str, boolO_bl, Option.some.injEq, exists_eq_left', keyO_str, keyO_int,  slot_non, slot_bl, slot_int, slot_str, slot_tup, slot_lst, slot_loc, slot_dic, slot_kdic, S.put, List.map_cons, List.map_nil, List.length_cons, List.length_nil, List.set_cons_zero, List.set_cons_succ, List.getElem?_cons_zero, List.getElem?_cons_succ, List.cons_append, List.nil_append, List.replicate, Nat.reduceAdd, Nat.reduceSub, add_int, add_lst, add_tup, add_str, sub_int, mul_int, fdiv_int, mod_int, pow_int, int_int, int_bl, abs_int, len_lst, len_tup, len_str, wp_ifS, ix_turn, ix_rest, ix_wide, ix_cells, eq_int, ne_int, lt_int, le_int, ge_int, gt_int, ne_wide, put_turn, put_rest, is_wide, pop_wide]
  by_cases h : r = 0
  · simp only [h, decide_true, if_true]
    cases ws with
    | nil =>
      simp only [List.isEmpty_nil, Bool.not_true, Bool.false_eq_true, if_false]
      refine ⟨Nat.zero_le _, True.intro, (hg [] 0 t t0 t1).mono fun d s => ?_⟩
      rintro ⟨i, rfl, rfl⟩
      try simp only [wp_then, after_next, after_ret, after_brk, after_cont, wp_next, wp_ret, wp_expr, wp_ifs, wp_set, wp_asg, wp_test, wp_bin, wp_nil, wp_cons, wp_app, wp_lst, wp_tup, wp_not, wp_notT, wp_andT, wp_orT, wp_cond, wp_items, wp_call, wp_runDef, ends_ret, ends_next, turn_next, turn_ret, wp_for, wp_put, wp_own, wp_ob, wp_new, wp_pairs_nil, wp_pairs_cons, wp_dictF, wp_dput, wp_meL, wp_pure, wp_pure', wp_ok, wp_ofO_some, wp_parV, wp_val, wp_var0, wp_var1, wp_var2, wp_var3, wp_var4, wp_var5, wp_var6, wp_var7, wp_var8, wp_var9, wp_var10, wp_var11, wp_var12, wp_var13, wp_var14, wp_var15, wp_var16, wp_var17, wp_var18, wp_var19, wp_var20, wp_var21, wp_move0, wp_varo0, wp_move1, wp_varo1, wp_move2, wp_varo2, wp_move3, wp_varo3, wp_move4, wp_varo4, wp_move5, wp_varo5, wp_move6, wp_varo6, wp_move7, wp_varo7, wp_move8, wp_varo8, wp_move9, wp_varo9, wp_move10, wp_varo10, wp_move11, wp_varo11, initS, DO2.slot, dat_lst, dat_dic, mod_lst, mod_dic, itemsO_lst, itemsO_tup, items_str, boolO_bl, Option.some.injEq, exists_eq_left', keyO_str, keyO_int,  slot_non, slot_bl, slot_int, slot_str, slot_tup, slot_lst, slot_loc, slot_dic, slot_kdic, S.put, List.map_cons, List.map_nil, List.length_cons, List.length_nil, List.set_cons_zero, List.set_cons_succ, List.getElem?_cons_zero, List.getElem?_cons_succ, List.cons_append, List.nil_append, List.replicate, Nat.reduceAdd, Nat.reduceSub, add_int, add_lst, add_tup, add_str, sub_int, mul_int, fdiv_int, mod_int, pow_int, int_int, int_bl, abs_int, len_lst, len_tup, len_str, wp_ifS, ix_turn, ix_rest, ix_wide, ix_cells, eq_int, ne_int, lt_int, le_int, ge_int, gt_int, ne_wide, put_turn, put_rest, is_wide, pop_wide]
      exact rest [] i (t + 1) (by omega) (by omega)
    | cons w ws =>
      simp only [List.isEmpty_cons, Bool.not_false, if_true]
      refine ⟨Nat.zero_le _, ?_⟩
      try simp only [wp_then, after_next, after_ret, after_brk, after_cont, wp_next, wp_ret, wp_expr, wp_ifs, wp_set, wp_asg, wp_test, wp_bin, wp_nil, wp_cons, wp_app, wp_lst, wp_tup, wp_not, wp_notT, wp_andT, wp_orT, wp_cond, wp_items, wp_call, wp_runDef, ends_ret, ends_next, turn_next, turn_ret, wp_for, wp_put, wp_own, wp_ob, wp_new, wp_pairs_nil, wp_pairs_cons, wp_dictF, wp_dput, wp_meL, wp_pure, wp_pure', wp_ok, wp_ofO_some, wp_parV, wp_val, wp_var0, wp_var1, wp_var2, wp_var3, wp_var4, wp_var5, wp_var6, wp_var7, wp_var8, wp_var9, wp_var10, wp_var11, wp_var12, wp_var13, wp_var14, wp_var15, wp_var16, wp_var17, wp_var18, wp_var19, wp_var20, wp_var21, wp_move0, wp_varo0, wp_move1, wp_varo1, wp_move2, wp_varo2, wp_move3, wp_varo3, wp_move4, wp_varo4, wp_move5, wp_varo5, wp_move6, wp_varo6, wp_move7, wp_varo7, wp_move8, wp_varo8, wp_move9, wp_varo9, wp_move10, wp_varo10, wp_move11, wp_varo11, initS, DO2.slot, dat_lst, dat_dic, mod_lst, mod_dic, itemsO_lst, itemsO_tup, items_str, boolO_bl, Option.some.injEq, exists_eq_left', keyO_str, keyO_int,  slot_non, slot_bl, slot_int, slot_str, slot_tup, slot_lst, slot_loc, slot_dic, slot_kdic, S.put, List.map_cons, List.map_nil, List.length_cons, List.length_nil, List.set_cons_zero, List.set_cons_succ, List.getElem?_cons_zero, List.getElem?_cons_succ, List.cons_append, List.nil_append, List.replicate, Nat.reduceAdd, Nat.reduceSub, add_int, add_lst, add_tup, add_str, sub_int, mul_int, fdiv_int, mod_int, pow_int, int_int, int_bl, abs_int, len_lst, len_tup, len_str, wp_ifS, ix_turn, ix_rest, ix_wide, ix_cells, eq_int, ne_int, lt_int, le_int, ge_int, gt_int, ne_wide, put_turn, put_rest, is_wide, pop_wide]
      exact rest ws w t t0 (by omega)
  · simp only [h, decide_false, Bool.false_eq_true, if_false]
    exact rest ws r t t0 (by omega)
theorem pick_b {g : Fd} {xs : List D} {c : D} (hc : c = .lst xs ∨ c = .tup xs) (hm : xs ≠ []) (hb : xs.length < 1073741824) (t0 : 0 ≤ t) (t1 : t ≤ T) (hg : ∀ (m : Int) (ws : List Int) (r t : Int), 0 < m → m < 1073741824 → 0 ≤ t → t ≤ T → WP (g [.loc 1, .int m] (dst ws cs r t R)) (fun d s => ∃ i ws' r' t', d = .int i ∧ 0 ≤ i ∧ i < m ∧ s = ⟨[], dst ws' cs r' t' R⟩ ∧ 0 ≤ t' ∧ t' ≤ (T + 1 : Nat)) NoE) :
    WP (runDef 2 (tPick g) [.loc 1, c] (dst ws cs r t R)) (fun d s => d ∈ xs ∧ ∃ ws' r' t', s = ⟨[], dst ws' cs r' t' R⟩ ∧ 0 ≤ t' ∧ t' ≤ (T + 1 : Nat)) NoE := by
  unfold tPick
  have hp : 0 < xs.length := List.length_pos_iff.mpr hm
  have at_ : ∀ (i : Int) (s : S), 0 ≤ i → i < xs.length → ∃ d ∈ xs, ixS c (.int i) s = .ok d s := fun i s h1 h2 => by
    have h3 : i.toNat < xs.length := by omega
    have e : atI xs i = some xs[i.toNat] := by
      unfold atI ixN
      rw [if_pos h1, if_pos h2]
      exact List.getElem?_eq_getElem h3
    refine ⟨xs[i.toNat], List.getElem_mem h3, ?_⟩
    rcases hc with rfl | rfl
    · show ofO (atI xs i) s = _
      rw [e]
      rfl
    · show ofO (atI xs i) s = _
      rw [e]
      rfl
  have fin : ∀ (i : Int) (rho : List Slot) (ws' : List Int) (r' t' : Int), 0 ≤ t' → t' ≤ (T + 1 : Nat) → 0 ≤ i → i < xs.length → WP (ixS c (.int i) ⟨rho, dst ws' cs r' t' R⟩) (fun d s' => d ∈ xs ∧ ∃ ws' r' t', (⟨[], s'.st⟩ : S) = ⟨[], dst ws' cs r' t' R⟩ ∧ 0 ≤ t' ∧ t' ≤ (T + 1 : Nat)) NoE := fun i rho ws' r' t' g0 g1 h1 h2 => by
    obtain ⟨d, hd, e⟩ := at_ i ⟨rho, dst ws' cs r' t' R⟩ h1 h2
    rw [wp_det e]
    exact ⟨hd, _, _, _, rfl, g0, g1⟩
  have len : ∀ (s : S) (Q : D → S → Prop), WP (lenB [c] s) Q NoE = Q (.int xs.length) s := fun s Q => by rcases hc with rfl | rfl <;> rfl
  rcases hc with rfl | rfl
  all_goals
    try simp only [wp_then, after_next, after_ret, after_brk, after_cont, wp_next, wp_ret, wp_expr, wp_ifs, wp_set, wp_asg, wp_test, wp_bin, wp_nil, wp_cons, wp_app, wp_lst, wp_tup, wp_not, wp_notT, wp_andT, wp_orT, wp_cond, wp_items, wp_call, wp_runDef, ends_ret, ends_next, turn_next, turn_ret, wp_for, wp_put, wp_own, wp_ob, wp_new, wp_pairs_nil, wp_pairs_cons, wp_dictF, wp_dput, wp_meL, wp_pure, wp_pure', wp_ok, wp_ofO_some, wp_parV, wp_val, wp_var0, wp_var1, wp_var2, wp_var3, wp_var4, wp_var5, wp_var6, wp_var7, wp_var8, wp_var9, wp_var10, wp_var11, wp_var12, wp_var13, wp_var14, wp_var15, wp_var16, wp_var17, wp_var18, wp_var19, wp_var20, wp_var21, wp_move0, wp_varo0, wp_move1, wp_varo1, wp_move2, wp_varo2, wp_move3, wp_varo3, wp_move4, wp_varo4, wp_move5, wp_varo5, wp_move6, wp_varo6, wp_move7, wp_varo7, wp_move8, wp_varo8, wp_move9, wp_varo9, wp_move10, wp_varo10, wp_move11, wp_varo11, initS, DO2.slot, dat_lst, dat_dic, mod_lst, mod_dic, itemsO_lst, itemsO_tup, items_str, boolO_bl, Option.some.injEq, exists_eq_left', keyO_str, keyO_int,  slot_non, slot_bl, slot_int, slot_str, slot_tup, slot_lst, slot_loc, slot_dic, slot_kdic, S.put, List.map_cons, List.map_nil, List.length_cons, List.length_nil, List.set_cons_zero, List.set_cons_succ, List.getElem?_cons_zero, List.getElem?_cons_succ, List.cons_append, List.nil_append, List.replicate, Nat.reduceAdd, Nat.reduceSub, add_int, add_lst, add_tup, add_str, sub_int, mul_int, fdiv_int, mod_int, pow_int, int_int, int_bl, abs_int, len_lst, len_tup, len_str, wp_ifS, ix_turn, ix_rest, ix_wide, ix_cells, eq_int, ne_int, lt_int, le_int, ge_int, gt_int, ne_wide, put_turn, put_rest, is_wide, pop_wide]
    refine ⟨True.intro, (hg xs.length ws r t (by omega) (by omega) t0 t1).mono fun d s => ?_⟩
    rintro ⟨i, ws', r', t', rfl, h1, h2, rfl, g0, g1⟩
    exact fin i _ ws' r' t' g0 g1 h1 h2
end
end DL
namespace DL
open PySem PySem.Spec PyProof.Rows L2
def Ret (f : Fd) (ds : List D) (d : D) : Prop := ∀ st, f ds st = .ok d ⟨[], st⟩
theorem Ret.wp {f : Fd} {ds : List D} {d : D} {st : List MO} {Q : D → S → Prop} {E : DX → S → Prop} (h : Ret f ds d) : WP (f ds st) Q E = Q d ⟨[], st⟩ := by rw [h st]; rfl
theorem ret_of {f : Fd} {ds : List D} {d : D} (h : ∀ st, WP (f ds st) (fun x s => x = d ∧ s = ⟨[], st⟩) NoE) : Ret f ds d := fun st => wp_iff.mpr (h st)
def okC (c : Nat) : Bool := (decide (48 ≤ c) && decide (c ≤ 57)) || ((decide (65 ≤ c) && decide (c ≤ 90)) || ((decide (97 ≤ c) && decide (c ≤ 122)) || decide (c = 45)))
def okS (x : Str) : Bool := x.cps.toList.all okC && decide (x.cps.size ≤ 200)
section
variable {s : S} {Q : D → S → Prop} {E : DX → S → Prop} {x y : Str} {l : List Str}
theorem eq_t0 {ds : List D} : WP (eqS (.tup ds) (.tup []) s) Q E = Q (.bl ds.isEmpty) s := rfl
theorem wp_isi {sup : Str → Ty → Option Bool} {t : Ty} {m : M D} : WP (mIsi sup t m s) Q E = WP (m s) (fun d s' => ∃ b, isiO sup t d = some b ∧ Q (.bl b) s') E := by
  unfold mIsi
  rw [wp_bind]
  congr 1
  funext d s'
  rw [wp_ofO]
  apply propext
  constructor
  · rintro ⟨a, h1, h2⟩
    cases q : isiO sup t d with
    | none => rw [q] at h1; cases h1
    | some b => rw [q] at h1; cases h1; exact ⟨b, rfl, h2⟩
  · rintro ⟨b, h1, h2⟩
    exact ⟨.bl b, by rw [h1]; rfl, h2⟩
theorem wp_and {a b : M D} : WP (mAnd a b s) Q E = WP (a s) (fun d s' => ∃ x, boolO d = some x ∧ (if x = true then WP (b s') Q E else Q (.bl false) s')) E := by
  unfold mAnd
  rw [wp_bind]
  congr 1
  funext d s'
  rw [wp_bind, wp_ofO]
  apply propext
  constructor
  · rintro ⟨x, h1, h2⟩
    rw [wp_if] at h2
    exact ⟨x, h1, h2⟩
  · rintro ⟨x, h1, h2⟩
    refine ⟨x, h1, ?_⟩
    rw [wp_if]
    exact h2
theorem wp_or {a b : M D} : WP (mOr a b s) Q E = WP (a s) (fun d s' => ∃ x, boolO d = some x ∧ (if x = true then Q (.bl true) s' else WP (b s') Q E)) E := by
  unfold mOr
  rw [wp_bind]
  congr 1
  funext d s'
  rw [wp_bind, wp_ofO]
  apply propext
  constructor
  · rintro ⟨x, h1, h2⟩
    rw [wp_if] at h2
    exact ⟨x, h1, h2⟩
  · rintro ⟨x, h1, h2⟩
    refine ⟨x, h1, ?_⟩
    rw [wp_if]
    exact h2
theorem wp_chain {f g : D → D → M D} {a b c : M D} : WP (mChain f g a b c s) Q E = WP (a s) (fun x s1 => WP (b s1) (fun y s2 => WP (f x y s2) (fun z s3 => ∃ t, boolO z = some t ∧ (if t = true then WP (c s3) (fun w s4 => WP (g y w s4) Q E) E else Q (.bl false) s3)) E) E) E := by
  unfold mChain
  rw [wp_bind]
  congr 1
  funext x s1
  rw [wp_bind]
  congr 1
  funext y s2
  rw [wp_bind]
  congr 1
  funext z s3
  rw [wp_bind, wp_ofO]
  apply propext
  constructor
  · rintro ⟨x, h1, h2⟩
    rw [wp_if, wp_bind] at h2
    exact ⟨x, h1, h2⟩
  · rintro ⟨x, h1, h2⟩
    refine ⟨x, h1, ?_⟩
    rw [wp_if, wp_bind]
    exact h2
theorem wp_call0 {g : Fd} : WP (mCall0 g s) Q E = WP (g [] s.st) (fun d s' => Q d ⟨s.rho, s'.st⟩) (fun x s' => E x ⟨s.rho, s'.st⟩) := wp_runCall
end
def Pl : Nat → D → Prop
  | _, .non => True
  | _, .bl _ => True
  | _, .int _ => True
  | _, .str x => okS x = true
  | _, .dic kvs => kvs = []
  | k + 1, .tup ds => ds.length ≤ 40 ∧ ∀ d ∈ ds, Pl k d
  | k + 1, .lst ds => ds.length ≤ 40 ∧ ∀ d ∈ ds, Pl k d
  | _, _ => False
def dTup : D → Bool
  | .tup _ => true
  | _ => false
def dStr : D → Bool
  | .str _ => true
  | _ => false
def dInt : D → Bool
  | .int _ => true
  | .bl _ => true
  | _ => false
def dBl : D → Bool
  | .bl _ => true
  | _ => false
section
variable {sup : Str → Ty → Option Bool} {k : Nat} {d : D}
theorem Pl.tup (h : Pl k d) : isiO sup (.b "tuple") d = some (dTup d) := by
  cases d <;> first | rfl | (cases k <;> exact h.elim)
theorem Pl.str (h : Pl k d) : isiO sup (.b "str") d = some (dStr d) := by
  cases d <;> first | rfl | (cases k <;> exact h.elim)
theorem Pl.int (h : Pl k d) : isiO sup (.b "int") d = some (dInt d) := by
  cases d <;> first | rfl | (cases k <;> exact h.elim)
theorem Pl.bl (h : Pl k d) : isiO sup (.b "bool") d = some (dBl d) := by
  cases d <;> first | rfl | (cases k <;> exact h.elim)
theorem Pl.slot (h : Pl k d) : D.slot d = .val d := by
  cases d <;> first | rfl | (cases k <;> exact h.elim)
theorem Pl.items {k : Nat} {ds : List D} (h : Pl (k + 1) (.tup ds)) {d : D} (hd : d ∈ ds) : Pl k d := h.2 d hd
end
section
variable {R : MO → S → Prop} {E : DX → S → Prop} {v : Nat} {items : M (List D)} {t : M Bool} {e : M D}
end
section
variable {s : S} {Q : D → S → Prop} {E : DX → S → Prop} {ds : List D} {x x0 x1 x2 : D}
end
def kt (T : List (Str × D)) : List (Key × D) := T.map fun p => (.inr p.1, p.2)
def lk : List (Str × D) → Str → Option D
  | [], _ => none
  | (x, d) :: T, w => if x = w then some d else lk T w
section
variable {s : S} {Q : D → S → Prop} {E : DX → S → Prop} {w : Str} {T : List (Str × D)} {d : D}
end
section
variable {R : MO → S → Prop} {E : DX → S → Prop} {vs : List Nat} {f : D → M Unit} {items : M (List D)} {t : M Bool} {e : M D}
end
section
variable {s : S} {Q : D → S → Prop} {RL : List D → S → Prop} {E : DX → S → Prop}
end
section
variable {s : S} {Q : D → S → Prop} {E : DX → S → Prop}
end
end DL
namespace GK
open PySem DL
def Dr (cs : List Int) (T : Nat) (R st : List MO) : Prop := ∃ (ws : List Int) (r t : Int), st = dst ws cs r t R ∧ 0 ≤ t ∧ t ≤ T
def Dw (cs : List Int) (T c : Nat) (R : List MO) (f : Fd) (args : List D) (P : D → Prop) : Prop := ∀ st, Dr cs T R st → WP (f args st) (fun d s => P d ∧ Dr cs (T + c) R s.st) NoE
section
variable {n k j T : Nat} {d c : D} {cs : List Int} {R : List MO}
theorem p31 : m_53 (Phi n) (Lam n) = tMixed := rfl
theorem p32 : m_54 (Phi n) (Lam n) = tTake (Phi n 53) := rfl
theorem p33 : m_55 (Phi n) (Lam n) = tPick (Phi n 54) := rfl
theorem p30 : m_52 (Phi n) (Lam n) = tBegun := rfl
theorem x31 (ws : List Int) (r t : Int) (t0 : 0 ≤ t) (t1 : t ≤ 1000000000) : WP (Phi (n + 1) 53 [.loc 1] (dst ws cs r t R)) (fun d s => ∃ i, d = .int i ∧ s = ⟨[], dst ws cs r (t + 1) R⟩) NoE := by
  rw [phi_53, p31]
  exact mixed_b t0 t1
theorem x32 (hc : T + 1 ≤ 1000000000) {m : Int} (hm : 0 < m) (hb : m < 1073741824) (ws : List Int) (r t : Int) (t0 : 0 ≤ t) (t1 : t ≤ T) : WP (Phi (n + 2) 54 [.loc 1, .int m] (dst ws cs r t R)) (fun d s => ∃ i ws' r' t', d = .int i ∧ 0 ≤ i ∧ i < m ∧ s = ⟨[], dst ws' cs r' t' R⟩ ∧ 0 ≤ t' ∧ t' ≤ (T + 1 : Nat)) NoE := by
  rw [phi_54, p32]
  exact take_b hm hb t0 t1 fun ws r t g0 g1 => x31 ws r t g0 (by omega)
theorem pick (hc : T + 1 ≤ 1000000000) {xs : List D} {c : D} (hx : c = .lst xs ∨ c = .tup xs) (hm : xs ≠ []) (hb : xs.length < 1073741824) : Dw cs T 1 R (Phi (n + 3) 55) [.loc 1, c] (fun d => d ∈ xs) := by
  rintro st ⟨ws, r, t, rfl, t0, t1⟩
  rw [phi_55, p33]
  refine (pick_b hx hm hb t0 t1 fun m ws r t h1 h2 g0 g1 => x32 hc h1 h2 ws r t g0 g1).mono fun d s => ?_
  rintro ⟨h, ws', r', t', rfl, g0, g1⟩
  exact ⟨h, ws', r', t', rfl, g0, g1⟩
end
end GK
namespace GK
open PySem DL
def u0 (F : Nat → Fd) (Λ : Nat → List D → Fd) : M Fl := mSet 1 (mCall (F 52) 1 (mCons (mVar 0) mNil))
def u1 (F : Nat → Fd) (Λ : Nat → List D → Fd) : M Fl := mSet 2 (mLst (mCons (M.pure .non) (mCons (M.pure (.int 0)) (mCons (mNeg (M.pure (.int 7))) (mCons (M.pure (.str "x")) (mCons (M.pure (.str "")) (mCons (mTup (mCons (M.pure (.int 1)) (mCons (M.pure (.int 2)) mNil))) (mCons (mLst (mCons (M.pure (.int 3)) mNil)) (mCons (mOb (mDictF [(.inr "a", M.pure (.int 4))])) (mCons (M.pure (.bl true)) (mCons (mBin powD (M.pure (.int 10)) (M.pure (.int 20))) mNil)))))))))))
def u2 (F : Nat → Fd) (Λ : Nat → List D → Fd) : M Fl := mParV 3 4 (mVal (mCall (F 55) 2 (mCons (mVar 1) (mCons (mVar 2) mNil)))) (mVal (mCall (F 55) 2 (mCons (mVar 1) (mCons (mVar 2) mNil))))
def u3 (F : Nat → Fd) (Λ : Nat → List D → Fd) : M Fl := mSet 5 (mCall (F 57) 2 (mCons (mVar 3) (mCons (mVar 4) mNil)))
def u4 (F : Nat → Fd) (Λ : Nat → List D → Fd) : M Fl := mSet 6 (mBin addD (mCall0 (F 56)) (mOb (mLc [11] (mItems (mVar 5)) (mPut 11) (M.pure true) (mBin ixS (mVar 11) (M.pure (.int 0))))))
def u5 (F : Nat → Fd) (Λ : Nat → List D → Fd) : M Fl := mOwn 7 (mLc [8] (mItems (mVar 6)) (mPut 8) (M.pure true) (mCall (F 58) 1 (mCons (mVar 8) mNil)))
def u6 (F : Nat → Fd) (Λ : Nat → List D → Fd) : M Fl := mIfS (mOrT (mTest (mBin neS (mOb (mLc [12] (mItems (mVar 7)) (mPut 12) (mTest (mBin neS (mApp lenB (mCons (mVar 12) mNil)) (M.pure (.int 1)))) (M.pure (.int 1)))) (mLst mNil))) (mTest (mBin neS (mLenS (mOb (mLc [12] (mItems (mVar 7)) (mPut 12) (M.pure true) (mBin ixS (mVar 12) (M.pure (.int 0)))))) (mApp lenB (mCons (mVar 6) mNil))))) (mRet (M.pure (.bl false))) (mNext)
def u7 (F : Nat → Fd) (Λ : Nat → List D → Fd) : M Fl := mFor (mItems (mVar 5)) (mUnp [(mPut 8), (mPut 9), (mPut 10)]) (mIfS (mTest (mBin neS (mApp reprE (mCons (mVar 9) mNil)) (mApp reprE (mCons (mVar 10) mNil)))) (mRet (M.pure (.bl false))) (mNext))
def u8 (F : Nat → Fd) (Λ : Nat → List D → Fd) : M Fl := mFor (mItems (mVar 6)) (mPut 8) (mIfS (mOrT (mNotT (mTest (mIsiX sup (.own "BuildError") (mVar 8)))) (mNotT (mTest (mIsiX sup (.b "ValueError") (mVar 8))))) (mRet (M.pure (.bl false))) (mNext))
def u9 (F : Nat → Fd) (Λ : Nat → List D → Fd) : M Fl := mRet (M.pure (.bl true))
theorem m59 (F : Nat → Fd) (Λ : Nat → List D → Fd) : m_59 F Λ = mThen (u0 F Λ) (mThen (u1 F Λ) (mThen (u2 F Λ) (mThen (u3 F Λ) (mThen (u4 F Λ) (mThen (u5 F Λ) (mThen (u6 F Λ) (mThen (u7 F Λ) (mThen (u8 F Λ) (u9 F Λ))))))))) := rfl
def toldE (p : D) : List D := [.tup [.err "BadRows" [("at", p)], .lst [p], .lst [p]], .tup [.err "Caught" [("path", p)], .lst [p], .lst [p]], .tup [.err "Clash" [("path", p)], .lst [p], .lst [p]], .tup [.err "Clashing" [("setting", p)], .lst [p], .lst [p]], .tup [.err "Mixed" [("x", p)], .lst [p], .lst [p]], .tup [.err "NotTold" [("setting", p)], .lst [p], .lst [p]], .tup [.err "TooMany" [("most", p)], .lst [p], .lst [p]]]
def errE (p : D) : List D := [.err "BadAct" [], .err "BadChosen" [], .err "BadCondition" [], .err "BadCosts" [], .err "BadCube" [], .err "BadEdit" [], .err "BadExpression" [], .err "BadFork" [], .err "BadForm" [], .err "BadHouse" [], .err "BadIndex" [], .err "BadInterface" [], .err "BadInterfaces" [], .err "BadLine" [], .err "BadLot" [], .err "BadLots" [], .err "BadMeasure" [], .err "BadMost" [], .err "BadMove" [], .err "BadNames" [], .err "BadNumber" [], .err "BadNumbers" [], .err "BadPart" [], .err "BadParts" [], .err "BadPatch" [], .err "BadPath" [], .err "BadRow" [], .err "BadSetting" [], .err "BadStep" [], .err "BadSwitch" [], .err "BadTable" [], .err "BadTerm" [], .err "BadText" [], .err "BadTold" [], .err "LastSwitch" [], .err "NotAlike" [], .err "NotEnough" [], .err "NotGiven" [], .err "NotRight" [], .err "NothingDone" [], .err "NothingUndone" [], .err "Unfit" [], .err "BadRows" [("at", p)], .err "Caught" [("path", p)], .err "Clash" [("path", p)], .err "Clashing" [("setting", p)], .err "Mixed" [("x", p)], .err "NotTold" [("setting", p)], .err "TooMany" [("most", p)]]
def clsE : List D := [.lst [.int 0], .lst [.int 1], .lst [.int 2], .lst [.int 3], .lst [.int 4], .lst [.int 5], .lst [.int 6], .lst [.int 7], .lst [.int 8], .lst [.int 9], .lst [.int 10], .lst [.int 11], .lst [.int 12], .lst [.int 13], .lst [.int 14], .lst [.int 15], .lst [.int 16], .lst [.int 17], .lst [.int 18], .lst [.int 19], .lst [.int 20], .lst [.int 21], .lst [.int 22], .lst [.int 23], .lst [.int 24], .lst [.int 25], .lst [.int 26], .lst [.int 28], .lst [.int 29], .lst [.int 30], .lst [.int 31], .lst [.int 32], .lst [.int 33], .lst [.int 34], .lst [.int 38], .lst [.int 40], .lst [.int 41], .lst [.int 42], .lst [.int 43], .lst [.int 45], .lst [.int 46], .lst [.int 48], .lst [.int 27], .lst [.int 35], .lst [.int 36], .lst [.int 37], .lst [.int 39], .lst [.int 44], .lst [.int 47]]
def some10 : List D := [.non, .int 0, .int (-7), .str "x", .str "", .tup [.int 1, .int 2], .lst [.int 3], .dic [(.inr "a", .int 4)], .bl true, .int 100000000000000000000]
section
variable {n : Nat} {p q : D} {x0 x1 x2 x3 x4 x8 x9 x10 : DL.Slot} {st : List MO}
theorem e1 : u1 (Phi (n + 60)) (Lam (n + 60)) ⟨[x0, .val (.loc 1), .un, .un, .un, .un, .un, .un, .un, .un, .un, .un, .un], st⟩ = .ok .next ⟨[x0, .val (.loc 1), .val (.lst some10), .un, .un, .un, .un, .un, .un, .un, .un, .un, .un], st⟩ := by kernel_rfl
theorem t57 : m_57 (Phi n) (Lam n) ⟨[.val p, .val q, .un, .un], st⟩ = .ok (.ret (.lst (toldE p))) ⟨[.val p, .val q, .val (.lst (toldE p)), .val (.err "TooMany" [("most", p)])], st⟩ := by kernel_rfl
theorem e4 : u4 (Phi (n + 60)) (Lam (n + 60)) ⟨[x0, x1, x2, x3, x4, .val (.lst (toldE p)), .un, .un, .un, .un, .un, .un, .un], st⟩ = .ok .next ⟨[x0, x1, x2, x3, x4, .val (.lst (toldE p)), .val (.lst (errE p)), .un, .un, .un, .un, .un, .un], st⟩ := by kernel_rfl
theorem e5 : u5 (Phi (n + 60)) (Lam (n + 60)) ⟨[x0, x1, x2, x3, x4, .val (.lst (toldE p)), .val (.lst (errE p)), .un, .un, .un, .un, .un, .un], st⟩ = .ok .next ⟨[x0, x1, x2, x3, x4, .val (.lst (toldE p)), .val (.lst (errE p)), .own (.lst clsE), .un, .un, .un, .un, .un], st⟩ := by kernel_rfl
theorem e6 : u6 (Phi (n + 60)) (Lam (n + 60)) ⟨[x0, x1, x2, x3, x4, .val (.lst (toldE p)), .val (.lst (errE p)), .own (.lst clsE), .un, .un, .un, .un, .un], st⟩ = .ok .next ⟨[x0, x1, x2, x3, x4, .val (.lst (toldE p)), .val (.lst (errE p)), .val (.lst clsE), .un, .un, .un, .un, .un], st⟩ := by kernel_rfl
theorem e7 (hp : p ∈ some10) : u7 (Phi (n + 60)) (Lam (n + 60)) ⟨[x0, x1, x2, x3, x4, .val (.lst (toldE p)), .val (.lst (errE p)), .val (.lst clsE), .un, .un, .un, .un, .un], st⟩ = .ok .next ⟨[x0, x1, x2, x3, x4, .val (.lst (toldE p)), .val (.lst (errE p)), .val (.lst clsE), .val (.err "TooMany" [("most", p)]), .val (.lst [p]), .val (.lst [p]), .un, .un], st⟩ := by
  simp only [some10, List.mem_cons, List.not_mem_nil, or_false] at hp
  rcases hp with rfl | rfl | rfl | rfl | rfl | rfl | rfl | rfl | rfl | rfl
  · kernel_rfl
  · kernel_rfl
  · kernel_rfl
  · kernel_rfl
  · kernel_rfl
  · kernel_rfl
  · kernel_rfl
  · kernel_rfl
  · kernel_rfl
  · kernel_rfl
theorem e8 : u8 (Phi (n + 60)) (Lam (n + 60)) ⟨[x0, x1, x2, x3, x4, .val (.lst (toldE p)), .val (.lst (errE p)), .val (.lst clsE), x8, x9, x10, .un, .un], st⟩ = .ok .next ⟨[x0, x1, x2, x3, x4, .val (.lst (toldE p)), .val (.lst (errE p)), .val (.lst clsE), .val (.err "TooMany" [("most", p)]), x9, x10, .un, .un], st⟩ := by kernel_rfl
theorem slot10 (hp : p ∈ some10) : D.slot p = .val p := by
  simp only [some10, List.mem_cons, List.not_mem_nil, or_false] at hp
  rcases hp with rfl | rfl | rfl | rfl | rfl | rfl | rfl | rfl | rfl | rfl <;> rfl
theorem r57 (hp : D.slot p = .val p) (hq : D.slot q = .val q) : Ret (Phi (n + 1) 57) [p, q] (.lst (toldE p)) := ret_of fun st => by
  rw [phi_57, wp_runDef]
  unfold initS
  simp only [List.map_cons, List.map_nil, hp, hq, List.length_cons, List.length_nil]
  show WP (m_57 (Phi n) (Lam n) ⟨[.val p, .val q, .un, .un], st⟩) _ _
  rw [t57]
  exact ⟨rfl, rfl⟩
theorem wp_okF {f : Fl} {s : S} {Q : Fl → S → Prop} {E : DX → S → Prop} : WP (.ok f s) Q E = Q f s := rfl
theorem wp_eq {o : Out Fl} {f : Fl} {s : S} {Q : Fl → S → Prop} {E : DX → S → Prop} (h : o = .ok f s) (q : Q f s) : WP o Q E := by rw [h]; exact q
theorem law_all {ns : List Int} (hl : ns.length ≤ 63) : ∃ st, Phi (n + 61) 59 [.lst (ns.map D.int)] [] = .ok (.bl true) ⟨[], st⟩ := by
  have w : WP (Phi (n + 61) 59 [.lst (ns.map D.int)] []) (fun d s => d = .bl true ∧ ∃ st, s = ⟨[], st⟩) NoE := by
    rw [show n + 61 = (n + 60) + 1 by omega, phi_59, m59]
    have b := begun_ok hl
    have b2 : Phi (n + 60) 52 = runDef 3 tBegun := by rw [show n + 60 = (n + 59) + 1 by omega, phi_52, p30]
    rw [← b2] at b
    rw [wp_runDef]
    unfold initS
    simp only [List.map_cons, List.map_nil, slot_lst, List.length_cons, List.length_nil]
    rw [wp_then]
    unfold u0
    simp only [wp_then, after_next, after_ret, after_brk, after_cont, wp_next, wp_ret, wp_expr, wp_ifs, wp_set, wp_asg, wp_test, wp_bin, wp_nil, wp_cons, wp_app, wp_lst, wp_tup, wp_not, wp_notT, wp_andT, wp_orT, wp_cond, wp_items, wp_call, wp_runDef, ends_ret, ends_next, turn_next, turn_ret, wp_for, wp_put, wp_own, wp_ob, wp_new, wp_pairs_nil, wp_pairs_cons, wp_dictF, wp_dput, wp_meL, wp_pure, wp_pure', wp_ok, wp_ofO_some, wp_parV, wp_val, wp_var0, wp_var1, wp_var2, wp_var3, wp_var4, wp_var5, wp_var6, wp_var7, wp_var8, wp_var9, wp_var10, wp_var11, wp_var12, wp_var13, wp_var14, wp_var15, wp_var16, wp_var17, wp_var18, wp_var19, wp_var20, wp_var21, wp_move0, wp_varo0, wp_move1, wp_varo1, wp_move2, wp_varo2, wp_move3, wp_varo3, wp_move4, wp_varo4, wp_move5, wp_varo5, wp_move6, wp_varo6, wp_move7, wp_varo7, wp_move8, wp_varo8, wp_move9, wp_varo9, wp_move10, wp_varo10, wp_move11, wp_varo11, initS, DO2.slot, dat_lst, dat_dic, mod_lst, mod_dic, itemsO_lst, itemsO_tup, items_str, boolO_bl, Option.some.injEq, exists_eq_left', keyO_str, keyO_int,  slot_non, slot_bl, slot_int, slot_str, slot_tup, slot_lst, slot_loc, slot_dic, slot_kdic, S.put, List.map_cons, List.map_nil, List.length_cons, List.length_nil, List.set_cons_zero, List.set_cons_succ, List.getElem?_cons_zero, List.getElem?_cons_succ, List.cons_append, List.nil_append, List.replicate, Nat.reduceAdd, Nat.reduceSub, add_int, add_lst, add_tup, add_str, sub_int, mul_int, fdiv_int, mod_int, pow_int, int_int, int_bl, abs_int, len_lst, len_tup, len_str, wp_ifS, ix_turn, ix_rest, ix_wide, ix_cells, eq_int, ne_int, lt_int, le_int, ge_int, gt_int, ne_wide, put_turn, put_rest, is_wide, pop_wide, wp_and, wp_or, wp_chain, wp_isi, wp_call0, Bool.not_true, Bool.not_false, Bool.false_eq_true, if_true, if_false, eq_t0]
    refine ⟨trivial, b.imp (fun d s h => ?_) (fun _ _ z => z)⟩
    obtain ⟨rfl, ws, rfl⟩ := h
    generalize (ns.map fun i => iabs i % 2147483629) = cs
    have hd : Dr cs 0 [] (dst ws cs 0 0 []) := ⟨ws, 0, 0, rfl, by decide, by decide⟩
    generalize (dst ws cs 0 0 []) = st at hd ⊢
    refine wp_eq e1 ?_
    rw [after_next]
    unfold u2
    have ne : some10 ≠ [] := fun z => by cases z
    have ln : some10.length < 1073741824 := by decide
    simp only [wp_then, after_next, after_ret, after_brk, after_cont, wp_next, wp_ret, wp_expr, wp_ifs, wp_set, wp_asg, wp_test, wp_bin, wp_nil, wp_cons, wp_app, wp_lst, wp_tup, wp_not, wp_notT, wp_andT, wp_orT, wp_cond, wp_items, wp_call, wp_runDef, ends_ret, ends_next, turn_next, turn_ret, wp_for, wp_put, wp_own, wp_ob, wp_new, wp_pairs_nil, wp_pairs_cons, wp_dictF, wp_dput, wp_meL, wp_pure, wp_pure', wp_ok, wp_ofO_some, wp_parV, wp_val, wp_var0, wp_var1, wp_var2, wp_var3, wp_var4, wp_var5, wp_var6, wp_var7, wp_var8, wp_var9, wp_var10, wp_var11, wp_var12, wp_var13, wp_var14, wp_var15, wp_var16, wp_var17, wp_var18, wp_var19, wp_var20, wp_var21, wp_move0, wp_varo0, wp_move1, wp_varo1, wp_move2, wp_varo2, wp_move3, wp_varo3, wp_move4, wp_varo4, wp_move5, wp_varo5, wp_move6, wp_varo6, wp_move7, wp_varo7, wp_move8, wp_varo8, wp_move9, wp_varo9, wp_move10, wp_varo10, wp_move11, wp_varo11, initS, DO2.slot, dat_lst, dat_dic, mod_lst, mod_dic, itemsO_lst, itemsO_tup, items_str, boolO_bl, Option.some.injEq, exists_eq_left', keyO_str, keyO_int,  slot_non, slot_bl, slot_int, slot_str, slot_tup, slot_lst, slot_loc, slot_dic, slot_kdic, S.put, List.map_cons, List.map_nil, List.length_cons, List.length_nil, List.set_cons_zero, List.set_cons_succ, List.getElem?_cons_zero, List.getElem?_cons_succ, List.cons_append, List.nil_append, List.replicate, Nat.reduceAdd, Nat.reduceSub, add_int, add_lst, add_tup, add_str, sub_int, mul_int, fdiv_int, mod_int, pow_int, int_int, int_bl, abs_int, len_lst, len_tup, len_str, wp_ifS, ix_turn, ix_rest, ix_wide, ix_cells, eq_int, ne_int, lt_int, le_int, ge_int, gt_int, ne_wide, put_turn, put_rest, is_wide, pop_wide, wp_and, wp_or, wp_chain, wp_isi, wp_call0, Bool.not_true, Bool.not_false, Bool.false_eq_true, if_true, if_false, eq_t0]
    refine ⟨trivial, (pick (n := n + 57) (T := 0) (R := []) (by decide) (.inl rfl) ne ln _ hd).imp (fun p s hp => ?_) (fun _ _ z => z)⟩
    obtain ⟨hp, hd2⟩ := hp
    refine ⟨trivial, (pick (n := n + 57) (T := 0 + 1) (R := []) (by decide) (.inl rfl) ne ln _ hd2).imp (fun q s hq => ?_) (fun _ _ z => z)⟩
    obtain ⟨hq, _⟩ := hq
    have r := r57 (n := n + 59) (p := p) (q := q) (slot10 hp) (slot10 hq)
    unfold u3
    simp only [wp_then, after_next, after_ret, after_brk, after_cont, wp_next, wp_ret, wp_expr, wp_ifs, wp_set, wp_asg, wp_test, wp_bin, wp_nil, wp_cons, wp_app, wp_lst, wp_tup, wp_not, wp_notT, wp_andT, wp_orT, wp_cond, wp_items, wp_call, wp_runDef, ends_ret, ends_next, turn_next, turn_ret, wp_for, wp_put, wp_own, wp_ob, wp_new, wp_pairs_nil, wp_pairs_cons, wp_dictF, wp_dput, wp_meL, wp_pure, wp_pure', wp_ok, wp_ofO_some, wp_parV, wp_val, wp_var0, wp_var1, wp_var2, wp_var3, wp_var4, wp_var5, wp_var6, wp_var7, wp_var8, wp_var9, wp_var10, wp_var11, wp_var12, wp_var13, wp_var14, wp_var15, wp_var16, wp_var17, wp_var18, wp_var19, wp_var20, wp_var21, wp_move0, wp_varo0, wp_move1, wp_varo1, wp_move2, wp_varo2, wp_move3, wp_varo3, wp_move4, wp_varo4, wp_move5, wp_varo5, wp_move6, wp_varo6, wp_move7, wp_varo7, wp_move8, wp_varo8, wp_move9, wp_varo9, wp_move10, wp_varo10, wp_move11, wp_varo11, initS, DO2.slot, dat_lst, dat_dic, mod_lst, mod_dic, itemsO_lst, itemsO_tup, items_str, boolO_bl, Option.some.injEq, exists_eq_left', keyO_str, keyO_int,  slot_non, slot_bl, slot_int, slot_str, slot_tup, slot_lst, slot_loc, slot_dic, slot_kdic, S.put, List.map_cons, List.map_nil, List.length_cons, List.length_nil, List.set_cons_zero, List.set_cons_succ, List.getElem?_cons_zero, List.getElem?_cons_succ, List.cons_append, List.nil_append, List.replicate, Nat.reduceAdd, Nat.reduceSub, add_int, add_lst, add_tup, add_str, sub_int, mul_int, fdiv_int, mod_int, pow_int, int_int, int_bl, abs_int, len_lst, len_tup, len_str, wp_ifS, ix_turn, ix_rest, ix_wide, ix_cells, eq_int, ne_int, lt_int, le_int, ge_int, gt_int, ne_wide, put_turn, put_rest, is_wide, pop_wide, wp_and, wp_or, wp_chain, wp_isi, wp_call0, Bool.not_true, Bool.not_false, Bool.false_eq_true, if_true, if_false, eq_t0, r.wp]
    refine ⟨trivial, ?_⟩
    rw [e4 (n := n) (p := p), wp_okF, after_next]
    rw [e5 (n := n) (p := p), wp_okF, after_next]
    rw [e6 (n := n) (p := p), wp_okF, after_next]
    rw [e7 (n := n) (p := p) hp, wp_okF, after_next]
    rw [e8 (n := n) (p := p), wp_okF, after_next]
    unfold u9
    simp only [wp_then, after_next, after_ret, after_brk, after_cont, wp_next, wp_ret, wp_expr, wp_ifs, wp_set, wp_asg, wp_test, wp_bin, wp_nil, wp_cons, wp_app, wp_lst, wp_tup, wp_not, wp_notT, wp_andT, wp_orT, wp_cond, wp_items, wp_call, wp_runDef, ends_ret, ends_next, turn_next, turn_ret, wp_for, wp_put, wp_own, wp_ob, wp_new, wp_pairs_nil, wp_pairs_cons, wp_dictF, wp_dput, wp_meL, wp_pure, wp_pure', wp_ok, wp_ofO_some, wp_parV, wp_val, wp_var0, wp_var1, wp_var2, wp_var3, wp_var4, wp_var5, wp_var6, wp_var7, wp_var8, wp_var9, wp_var10, wp_var11, wp_var12, wp_var13, wp_var14, wp_var15, wp_var16, wp_var17, wp_var18, wp_var19, wp_var20, wp_var21, wp_move0, wp_varo0, wp_move1, wp_varo1, wp_move2, wp_varo2, wp_move3, wp_varo3, wp_move4, wp_varo4, wp_move5, wp_varo5, wp_move6, wp_varo6, wp_move7, wp_varo7, wp_move8, wp_varo8, wp_move9, wp_varo9, wp_move10, wp_varo10, wp_move11, wp_varo11, initS, DO2.slot, dat_lst, dat_dic, mod_lst, mod_dic, itemsO_lst, itemsO_tup, items_str, boolO_bl, Option.some.injEq, exists_eq_left', keyO_str, keyO_int,  slot_non, slot_bl, slot_int, slot_str, slot_tup, slot_lst, slot_loc, slot_dic, slot_kdic, S.put, List.map_cons, List.map_nil, List.length_cons, List.length_nil, List.set_cons_zero, List.set_cons_succ, List.getElem?_cons_zero, List.getElem?_cons_succ, List.cons_append, List.nil_append, List.replicate, Nat.reduceAdd, Nat.reduceSub, add_int, add_lst, add_tup, add_str, sub_int, mul_int, fdiv_int, mod_int, pow_int, int_int, int_bl, abs_int, len_lst, len_tup, len_str, wp_ifS, ix_turn, ix_rest, ix_wide, ix_cells, eq_int, ne_int, lt_int, le_int, ge_int, gt_int, ne_wide, put_turn, put_rest, is_wide, pop_wide, wp_and, wp_or, wp_chain, wp_isi, wp_call0, Bool.not_true, Bool.not_false, Bool.false_eq_true, if_true, if_false, eq_t0]
    exact ⟨trivial, _, rfl⟩
  obtain ⟨a, s, h1, rfl, st, rfl⟩ := w.ok
  exact ⟨st, h1⟩
end
end GK
theorem GK.plain_ok : TI.Plain 60 := fun _ hl _ => GK.law_all (n := 0) hl
theorem PySem.Challenge.cw_manybuilds_k06_errors_made_and_bases_holds : PySem.Challenge.rw_manybuilds_k06_errors_made_and_bases.Holds := by
  exact tie_k06 (k := 60) (by decide) GK.plain_ok
