import PyProof.Rows.All
import Wide.All
import OpenK.AllK
import Wide.FinOn
import HandS.ForMost
import HandS.ForExc
import HandS.NestedK
import HandS.Star
import HandS.Defaults
import HandS.Property
import HandS.TryMany
import HandS.ExcField
import HandS.ClsMeth
import HandS.List
import HandS.Dict
import HandS.TupAny
import HandS.Style
import HandS.Text
import HandS.Deep
import HandS.Small
import HandS.Flow
import HandS.IsInst
import HandS.RaiseMore
import HandS.WordsDict
import HandS.More
import PyProof.ReprRoads
import HandS.BoundDict
import KE.KExcIs
import KE.KDictLaws
import HandS.Iter
import HandS.DictComp
import HandS.Conv
import KE.KDictList
import PyProof.TupleOfGen
import KE.GoesMore
import PyProof.EnumMake
import HandS.EndTab
import KE.KNestM
import HandS.HeadHook4
import HandS.MethStar
import PyProof.FactsAll.dict_0
import PyProof.FactsAll.dict_3
import PyProof.FactsAll.list_0
import PyProof.FactsAll.list_3
import PySem.Challenge.RW_dispatchers_k95_rules_and_nodes_replaced
import KE.KStateDown
import HandS.Head0
import HandS.Head1
import HandS.Head2
section
set_option Elab.async false
set_option linter.all false
set_option maxRecDepth 100000
/-! Zk0: the plain machine. Values, objects by number, results; the parts of which the texts' plain readings are built. No model here. -/
namespace Zk
open PySem L2

inductive A where
  | non | bl (b : Bool) | int (i : Int) | str (s : Str) | tup (xs : List A) | ref (l : Nat) | fn (k : Nat) | clo (k : Nat) (cs : List Nat) | ty (n : String)
inductive Ob where
  | lst (xs : List A) | rol (xs : List A) | dic (kvs : List (Key × A)) | dit (kvs : List (List Key × A)) | ins (c : Nat) (fs : List (Nat × A)) | cel (v : Option A) | exc (c : Nat) (fs : List (Nat × A)) | lok (kvs : List (Key × A))

/-! ### objects by number -/
inductive Tr where
  | e | n (o : Option Ob) (l r : Tr)
def Tr.get : Tr → Nat → Option Ob
  | .e, _ => none
  | .n o l r, i => if i = 0 then o else if i % 2 = 1 then l.get (i / 2) else r.get (i / 2 - 1)
def Tr.val : Tr → Option Ob
  | .e => none
  | .n o _ _ => o
def Tr.lt : Tr → Tr
  | .e => .e
  | .n _ l _ => l
def Tr.rt : Tr → Tr
  | .e => .e
  | .n _ _ r => r
def Tr.put (o : Ob) : Nat → Nat → Tr → Tr
  | 0, _, t => .n (some o) t.lt t.rt
  | f + 1, i, t => if i = 0 then .n (some o) t.lt t.rt else if i % 2 = 1 then .n t.val (Tr.put o f (i / 2) t.lt) t.rt else .n t.val t.lt (Tr.put o f (i / 2 - 1) t.rt)
theorem Tr.get_parts (t : Tr) (j : Nat) : t.get j = if j = 0 then t.val else if j % 2 = 1 then t.lt.get (j / 2) else t.rt.get (j / 2 - 1) := by
  cases t with
  | e => simp [Tr.get, Tr.val, Tr.lt, Tr.rt]
  | n o l r => rfl
theorem Tr.get_put (o : Ob) : ∀ (f i : Nat) (t : Tr) (j : Nat), i ≤ f → (Tr.put o f i t).get j = if j = i then some o else t.get j
  | 0, i, t, j, h => by
    have : i = 0 := Nat.le_zero.mp h
    subst this
    rw [Tr.put, Tr.get, Tr.get_parts t j]
    split <;> simp_all
  | f + 1, i, t, j, h => by
    rw [Tr.put]
    by_cases hi : i = 0
    · subst hi
      rw [if_pos rfl, Tr.get, Tr.get_parts t j]
      split <;> simp_all
    · rw [if_neg hi]
      by_cases ho : i % 2 = 1
      · rw [if_pos ho, Tr.get, Tr.get_parts t j, Tr.get_put o f (i / 2) t.lt (j / 2) (by omega)]
        by_cases hj : j = 0
        · subst hj; rw [if_pos rfl, if_pos rfl, if_neg (by omega)]
        · rw [if_neg hj, if_neg hj]
          by_cases hjo : j % 2 = 1
          · rw [if_pos hjo, if_pos hjo]
            by_cases e : j = i
            · subst e; simp
            · rw [if_neg e, if_neg (by omega)]
          · rw [if_neg hjo, if_neg hjo, if_neg (by omega)]
      · rw [if_neg ho, Tr.get, Tr.get_parts t j, Tr.get_put o f (i / 2 - 1) t.rt (j / 2 - 1) (by omega)]
        by_cases hj : j = 0
        · subst hj; rw [if_pos rfl, if_pos rfl, if_neg (by omega)]
        · rw [if_neg hj, if_neg hj]
          by_cases hjo : j % 2 = 1
          · rw [if_pos hjo, if_pos hjo, if_neg (by omega)]
          · rw [if_neg hjo, if_neg hjo]
            by_cases e : j = i
            · subst e; simp
            · rw [if_neg e, if_neg (by omega)]
structure Hq where
  t : Tr
  n : Nat
def Hq.get (h : Hq) (l : Nat) : Option Ob := h.t.get l
def Hq.upd (h : Hq) (l : Nat) (o : Ob) : Hq := ⟨Tr.put o l l h.t, h.n⟩
def Hq.new (h : Hq) (o : Ob) : Hq := ⟨Tr.put o h.n h.n h.t, h.n + 1⟩
theorem Hq.get_upd (h : Hq) (l : Nat) (o : Ob) (j : Nat) : (h.upd l o).get j = if j = l then some o else h.get j := Tr.get_put o l l h.t j (Nat.le_refl _)
theorem Hq.get_new (h : Hq) (o : Ob) (j : Nat) : (h.new o).get j = if j = h.n then some o else h.get j := Tr.get_put o h.n h.n h.t j (Nat.le_refl _)
theorem Hq.n_upd (h : Hq) (l : Nat) (o : Ob) : (h.upd l o).n = h.n := rfl
theorem Hq.n_new (h : Hq) (o : Ob) : (h.new o).n = h.n + 1 := rfl

/-! ### results -/
inductive Res (α : Type) where
  | ok (a : α) (h : Hq) | err (c : Nat) (fs : List (Nat × A)) (h : Hq) | bad
abbrev Lc := List (Option A)
abbrev ME := Lc → Hq → Res A
abbrev MA := Lc → Hq → Res (List A)
inductive Fl where
  | nx | bk | ct | rt (a : A)
inductive RS where
  | ok (f : Fl) (L : Lc) (h : Hq) | err (c : Nat) (fs : List (Nat × A)) (L : Lc) (h : Hq) | bad
abbrev MS := Lc → Hq → RS
/-- what the functions of the text do: number, arguments, objects -/
abbrev Den := Nat → List A → Hq → Res A
def Res.bind {α β : Type} (r : Res α) (f : α → Hq → Res β) : Res β := match r with
  | .ok a h => f a h
  | .err c fs h => .err c fs h
  | .bad => .bad
def SZ : Nat := 16777216

/-! ### expressions -/
def eLoc (i : Nat) : ME := fun L h => match L[i]? with
  | some (some a) => .ok a h
  | _ => .bad
def eCon (a : A) : ME := fun _ h => .ok a h
def aNil : MA := fun _ h => .ok [] h
def aCons (e : ME) (r : MA) : MA := fun L h => (e L h).bind fun a h1 => (r L h1).bind fun as h2 => .ok (a :: as) h2
def eTup (es : MA) : ME := fun L h => (es L h).bind fun as h1 => if as.length ≤ SZ then .ok (.tup as) h1 else .bad
def eLst (es : MA) : ME := fun L h => (es L h).bind fun as h1 => if as.length ≤ SZ then .ok (.ref h1.n) (h1.new (.lst as)) else .bad

/-! ### values as data -/
mutual
def A.dat (h : Hq) : Nat → A → Option PyData
  | _, .non => some .none
  | _, .bl b => some (.bool b)
  | _, .int i => some (.int i)
  | _, .str s => some (.str s)
  | f + 1, .tup xs => (A.dats h f xs).map .tuple
  | f + 1, .ref l => match h.get l with
    | some (.lst xs) => (A.dats h f xs).map .list
    | some (.rol xs) => (A.dats h f xs).map .list
    | _ => none
  | _, _ => none
def A.dats (h : Hq) : Nat → List A → Option (List PyData)
  | _, [] => some []
  | f + 1, x :: xs => match A.dat h f x, A.dats h f xs with
    | some d, some ds => some (d :: ds)
    | _, _ => none
  | 0, _ :: _ => none
end
end Zk
end
section
set_option Elab.async false
set_option linter.all false
set_option maxRecDepth 100000
/-! Zk1: how plain values and objects lie in the layer's heap; readings of plain parts. -/
namespace Zk
open PySem PySem.Spec PyProof.Rows L2 NdefX LamX

/-- an inner def or a lambda, its words -/
structure NB where
  name : Str
  qual : Str
  params : Arguments
  body : FuncBody
  scope : Scope
abbrev NB.fd (F : NB) (cl : List (Str × Addr)) (c : Addr) (doc pm ctv : Value) : FuncData :=
  { name := F.name, qualname := F.qual, params := F.params, body := F.body, scope := F.scope, globals := mainGlobals, closure := cl, defaults := .none, kwdefaults := .none, doc, pyModule := pm, annotations := none, code := .ref c, closureTuple := ctv, builtins := builtinsNs }
abbrev NB.nf (F : NB) (cl : List (Str × Addr)) (c : Addr) : NF := ⟨F.name, F.qual, F.params, [], F.scope, cl, c⟩
/-- the object at f is the function F with the cells cl -/
def FnB (f : Addr) (F : NB) (cl : List (Str × Addr)) (c : Addr) : HO := .ext fun h => ∃ (od : Option Addr) (sl : Array (Option Value)) (doc pm ctv : Value), h.get? f = some (⟨.type "function", od, .func (F.fd cl c doc pm ctv), sl⟩ : Obj)
/-- what is fixed of the text: where defs and classes stand, the names by number, the inner defs by number -/
structure Tb where
  fA : Nat → Addr
  cA : Nat → Addr
  nm : Nat → Str
  ci : Nat → NB
  cf : Nat → List Str
  tt : List NTab
  inj : ∀ i j, nm i = nm j → i = j
section
variable (T : Tb) (K : PySem.W.Frag) (ρ : Nat → Addr) (n : Nat) (H : Hp)
/-- the inner def k, its cells at cs, is the function at f -/
def CloAt (k : Nat) (cs : List Nat) (f : Addr) : Prop :=
  ∃ (cl : List (Str × Addr)) (c : Addr), H f = some (FnB f (T.ci k) cl c) ∧ H c = some (CodeO c (T.ci k).qual) ∧ (∀ l ∈ cs, l < n) ∧
    cs.length = (T.cf k).length ∧ (∀ (i : Nat) (x : Str) (l : Nat), (T.cf k)[i]? = some x → cs[i]? = some l → cl.lookup x = some (ρ l)) ∧ (∀ x c, cl.lookup x = some c → x ∈ T.cf k) ∧ ∀ x y c, cl.lookup x = some c → cl.lookup y = some c → x = y
mutual
def RepV : A → V → Prop
  | .non, v => v = .non
  | .bl b, v => v = .bl b
  | .int i, v => v = .int i
  | .str s, v => v = .str s
  | .tup xs, v => ∃ a vs, v = .ref a ∧ SqT K H a vs ∧ RepVs xs vs
  | .ref l, v => v = .ref (ρ l) ∧ l < n
  | .fn k, v => v = .ref (T.fA k)
  | .clo k cs, v => ∃ f, v = .ref f ∧ CloAt T ρ n H k cs f
  | .ty t, v => v = .ty t
def RepVs : List A → List V → Prop
  | [], vs => vs = []
  | x :: xs, vs => ∃ y ys, vs = y :: ys ∧ RepV x y ∧ RepVs xs ys
end
def RepKs {κ : Type} (kvs : List (κ × A)) (ws : List (κ × V)) : Prop := Paired (fun p q => p.1 = q.1 ∧ RepV T K ρ n H p.2 q.2) kvs ws
def RepFs (fs : List (Nat × A)) (ws : List (Str × V)) : Prop := Paired (fun p q => q.1 = T.nm p.1 ∧ RepV T K ρ n H p.2 q.2) fs ws
/-- a list that stands still -/
def RoL (a : Addr) (vs : List V) : Prop := (∃ o, H a = some (.frz o (.lst vs))) ∨
  ∃ (o : Obj) (its : Array Value) (m : Nat), K.lookup a = some o ∧ o.cls = .type "list" ∧ o.dict = none ∧ o.data = .seq its m ∧ its.size ≤ sizeLine ∧ Vals vs its.toList
/-- a cell's object, tracked -/
def CellO (c : Addr) (v : Option V) : HO := .ext fun h => ∃ u, h.IsCell c u ∧ RelO v u
/-- an exception's object: its class, its dict -/
def ExcO (C dd a : Addr) : HO := .ext fun h => ∃ (o : Obj) (vs : Array Value), h.get? a = some o ∧ o.cls = .ref C ∧ o.dict = some dd ∧ o.data = .fields vs
def RepO (base : Heap) (a : Addr) : Ob → Prop
  | .lst xs => ∃ vs, H a = some (.lst vs) ∧ RepVs T K ρ n H xs vs
  | .rol xs => ∃ vs, RoL K H a vs ∧ RepVs T K ρ n H xs vs
  | .dic kvs => ∃ ws, H a = some (.dK ws) ∧ RepKs T K ρ n H kvs ws
  | .dit kvs => ∃ ws, H a = some (.dT ws) ∧ RepKs T K ρ n H kvs ws
  | .ins c fs => ∃ dx ws, H a = some (.ins (T.cA c) dx ws) ∧ RepFs T K ρ n H fs ws
  | .cel none => True
  | .cel (some x) => ∃ v, RepV T K ρ n H x v ∧ ((∃ u, base.IsCell a (some u) ∧ RelV v u) ∨ H a = some (CellO a (some v)))
  | .exc c fs => ∃ dd ws, H a = some (ExcO (T.cA c) dd a) ∧ H dd = some (.xd ws) ∧ RepFs T K ρ n H fs ws
  | .lok kvs => ∃ od ws, H a = some (.frz od (.dK ws)) ∧ RepKs T K ρ n H kvs ws
end

/-- what no step takes away -/
def Fix : HO → Prop
  | .lst _ | .dK _ | .dT _ | .ins _ _ _ | .set _ _ | .tbl _ => False
  | _ => True
/-- a heap with a given object at a given place -/
theorem heap_with (a : Addr) (o : Obj) (ho : ∀ c d s, o ≠ ⟨c, d, .freed, s⟩) : ∃ h : Heap, h.get? a = some o := by
  refine ⟨{ objs := Array.replicate (a + 1) o }, ?_⟩
  unfold Heap.get?
  have e : (Array.replicate (a + 1) o)[a]? = some o := by simp
  simp only [e]
  obtain ⟨c, d, dt, s⟩ := o
  cases dt <;> first | rfl | exact absurd rfl (ho c d s)
theorem fn_ne_cell {f : Addr} {F : NB} {cl : List (Str × Addr)} {c c2 : Addr} {v : Option V} : FnB f F cl c ≠ CellO c2 v := fun z => by
  unfold FnB CellO at z
  injection z with z
  by_cases q : c2 = f
  · subst q
    obtain ⟨h, hh⟩ := heap_with c2 ⟨.type "function", none, .func (F.fd cl c .none .none .none), #[]⟩ (by intro _ _ _ e; cases e)
    have z1 := (congrFun z h).mp ⟨none, #[], .none, .none, .none, hh⟩
    obtain ⟨u, ⟨o, ho, hd⟩, _⟩ := z1
    rw [hh] at ho; cases ho; cases hd
  · let ob : Obj := ⟨.type "function", none, .func (F.fd cl c .none .none .none), #[]⟩
    have e : Heap.get? { objs := Array.replicate (f + 1) ob } f = some ob := by
      unfold Heap.get?
      have e : (Array.replicate (f + 1) ob)[f]? = some ob := by simp
      simp only [e]
      rfl
    obtain ⟨u2, ⟨o2, ho2, hd2⟩, _⟩ := (congrFun z { objs := Array.replicate (f + 1) ob }).mp ⟨none, #[], .none, .none, .none, e⟩
    have key : ∀ (b : Addr) (o : Obj), Heap.get? { objs := Array.replicate (f + 1) ob } b = some o → o = ob := fun b o hb => by
      unfold Heap.get? at hb
      have e3 : (Array.replicate (f + 1) ob)[b]? = if b < f + 1 then some ob else none := by simp [Array.getElem?_replicate]
      simp only [e3] at hb
      by_cases hb2 : b < f + 1
      · simp only [if_pos hb2] at hb
        exact (Option.some.inj hb).symm
      · simp only [if_neg hb2] at hb
        cases hb
    rw [key _ _ ho2] at hd2
    cases hd2
theorem fnB_at {P : Program} {w : World} {H : Hp} {h : Heap} {f : Addr} {F : NB} {cl : List (Str × Addr)} {c : Addr} (hok : HOk P w H h) (e : H f = some (FnB f F cl c)) : ∃ (od : Option Addr) (sl : Array (Option Value)) (doc pm ctv : Value), h.get? f = some (⟨.type "function", od, .func (F.fd cl c doc pm ctv), sl⟩ : Obj) := by
  obtain ⟨z, _, _⟩ := hok f _ e
  exact z
theorem code_ne_cell {c : Addr} {q : Str} {v : Option V} : CodeO c q ≠ CellO c v := fun z => by
  unfold CodeO CellO at z
  injection z with z
  obtain ⟨h, hh⟩ := heap_with c ⟨.type "code", none, .fields #[.none, .str q 0], #[]⟩ (by intro _ _ _ e; cases e)
  have z1 := (congrFun z h).mp ⟨_, _, 0, hh, rfl, rfl⟩
  obtain ⟨u, ⟨o, ho, hd⟩, _⟩ := z1
  rw [hh] at ho; cases ho; cases hd
theorem exc_ne_cell {C dd a c : Addr} {v : Option V} : ExcO C dd a ≠ CellO c v := fun z => by
  unfold ExcO CellO at z
  injection z with z
  obtain ⟨h, hh⟩ := heap_with a ⟨.ref C, some dd, .fields #[], #[]⟩ (by intro _ _ _ e; cases e)
  have z1 := (congrFun z h).mp ⟨_, _, hh, rfl, rfl, rfl⟩
  obtain ⟨u, ⟨o, ho, hd⟩, _⟩ := z1
  by_cases q : c = a
  · rw [q, hh] at ho; cases ho; cases hd
  · have z2 := (congrFun z { objs := Array.replicate (a + 1) ⟨.ref C, some dd, .fields #[], #[]⟩ }).mp
    have e : Heap.get? { objs := Array.replicate (a + 1) ⟨.ref C, some dd, .fields #[], #[]⟩ } a = some (⟨.ref C, some dd, .fields #[], #[]⟩ : Obj) := by
      unfold Heap.get?
      have e : (Array.replicate (a + 1) (⟨.ref C, some dd, .fields #[], #[]⟩ : Obj))[a]? = some ⟨.ref C, some dd, .fields #[], #[]⟩ := by simp
      simp only [e]
    obtain ⟨u2, ⟨o2, ho2, hd2⟩, _⟩ := z2 ⟨_, _, e, rfl, rfl, rfl⟩
    have key : ∀ (b : Addr) (ob : Obj), Heap.get? { objs := Array.replicate (a + 1) ⟨.ref C, some dd, .fields #[], #[]⟩ } b = some ob → ob = ⟨.ref C, some dd, .fields #[], #[]⟩ := fun b ob hb => by
      unfold Heap.get? at hb
      have e3 : (Array.replicate (a + 1) (⟨.ref C, some dd, .fields #[], #[]⟩ : Obj))[b]? = if b < a + 1 then some ⟨.ref C, some dd, .fields #[], #[]⟩ else none := by simp [Array.getElem?_replicate]
      simp only [e3] at hb
      by_cases hb2 : b < a + 1
      · simp only [if_pos hb2] at hb
        exact (Option.some.inj hb).symm
      · simp only [if_neg hb2] at hb
        cases hb
    rw [key _ _ ho2] at hd2
    cases hd2
def Fxw : HO → Prop
  | .lst _ | .dK _ | .dT _ | .ins _ _ _ | .set _ _ | .tbl _ => False
  | .frz _ (.dK _) => False
  | _ => True
theorem Fxw.fix : ∀ {o : HO}, Fxw o → Fix o := fun {o} h => by
  cases o <;> first | exact trivial | exact h
/-- enough for values to stay -/
structure Wk (ρ : Nat → Addr) (n : Nat) (H : Hp) (ρ' : Nat → Addr) (n' : Nat) (H' : Hp) : Prop where
  ext : ∀ l, l < n → ρ' l = ρ l
  le : n ≤ n'
  keep : ∀ b o, H b = some o → Fxw o → (∀ v, o ≠ CellO b v) → H' b = some o
/-- from one plain state to a later one; ex: cells that may have been written -/
structure Step (ex : List (Option Nat)) (ρ : Nat → Addr) (h : Hq) (H : Hp) (ρ' : Nat → Addr) (h' : Hq) (H' : Hp) : Prop where
  ext : ∀ l, l < h.n → ρ' l = ρ l
  le : h.n ≤ h'.n
  keep : ∀ b o, H b = some o → Fix o → H' b = some o
  cel : ∀ l ov, l < h.n → some l ∉ ex → (h'.get l = some (.cel ov) ↔ h.get l = some (.cel ov))
  ncl : ∀ l x, h.n ≤ l → some l ∉ ex → h'.get l = some (.cel (some x)) → ∃ v, H' (ρ' l) = some (CellO (ρ' l) v)
theorem Step.wk {ex : List (Option Nat)} {ρ ρ' : Nat → Addr} {h h' : Hq} {H H' : Hp} (s : Step ex ρ h H ρ' h' H') : Wk ρ h.n H ρ' h'.n H' := ⟨s.ext, s.le, fun b o e f _ => s.keep b o e f.fix⟩
theorem Step.trans {ex : List (Option Nat)} {ρ ρ1 ρ2 : Nat → Addr} {h h1 h2 : Hq} {H H1 H2 : Hp} (a : Step ex ρ h H ρ1 h1 H1) (b : Step ex ρ1 h1 H1 ρ2 h2 H2) : Step ex ρ h H ρ2 h2 H2 := by
  refine ⟨fun l hl => (b.ext l (Nat.lt_of_lt_of_le hl a.le)).trans (a.ext l hl), Nat.le_trans a.le b.le, fun c o e f => b.keep c o (a.keep c o e f) f, fun l ov hl he => (b.cel l ov (Nat.lt_of_lt_of_le hl a.le) he).trans (a.cel l ov hl he), fun l x hl he e => ?_⟩
  by_cases q : l < h1.n
  · obtain ⟨v, z⟩ := a.ncl l x hl he ((b.cel l _ q he).mp e)
    exact ⟨v, by rw [b.ext l q]; exact b.keep _ _ z trivial⟩
  · exact b.ncl l x (Nat.le_of_not_lt q) he e
theorem Step.wide {ex : List (Option Nat)} {ρ ρ' : Nat → Addr} {h h' : Hq} {H H' : Hp} (s : Step [] ρ h H ρ' h' H') : Step ex ρ h H ρ' h' H' :=
  ⟨s.ext, s.le, s.keep, fun l ov hl _ => s.cel l ov hl (by simp), fun l x hl _ => s.ncl l x hl (by simp)⟩
section
variable {T : Tb} {K : PySem.W.Frag} {ρ ρ' : Nat → Addr} {n n' : Nat} {H H' : Hp}
theorem SqT.step (s : Wk ρ n H ρ' n' H') {a : Addr} {vs : List V} (h : SqT K H a vs) : SqT K H' a vs := by
  rcases h with (h | ⟨o, h⟩) | h
  · exact .inl (.inl (s.keep _ _ h trivial (fun v z => nomatch z)))
  · exact .inl (.inr ⟨o, s.keep _ _ h trivial (fun v z => nomatch z)⟩)
  · exact .inr h
theorem RoL.step (s : Wk ρ n H ρ' n' H') {a : Addr} {vs : List V} (h : RoL K H a vs) : RoL K H' a vs := by
  rcases h with ⟨o, h⟩ | h
  · exact .inl ⟨o, s.keep _ _ h trivial (fun v z => nomatch z)⟩
  · exact .inr h
theorem CloAt.step (s : Wk ρ n H ρ' n' H') {k : Nat} {cs : List Nat} {f : Addr} (h : CloAt T ρ n H k cs f) : CloAt T ρ' n' H' k cs f := by
  obtain ⟨cl, c, h1, h2, h3, h4, h5, h6, h7⟩ := h
  exact ⟨cl, c, s.keep _ _ h1 trivial (fun v => fn_ne_cell), s.keep _ _ h2 trivial (fun v => code_ne_cell), fun l hl => Nat.lt_of_lt_of_le (h3 l hl) s.le, h4, fun i x l e1 e2 => by rw [s.ext l (h3 l (List.mem_of_getElem? e2))]; exact h5 i x l e1 e2, h6, h7⟩
mutual
theorem RepV.step (s : Wk ρ n H ρ' n' H') : ∀ (a : A) (v : V), RepV T K ρ n H a v → RepV T K ρ' n' H' a v
  | .non, _, h => h
  | .bl _, _, h => h
  | .int _, _, h => h
  | .str _, _, h => h
  | .tup xs, v, h => by
    simp only [RepV] at h ⊢
    obtain ⟨a, vs, e, q, r⟩ := h
    exact ⟨a, vs, e, SqT.step s q, RepVs.step s xs vs r⟩
  | .ref l, v, h => by
    simp only [RepV] at h ⊢
    exact ⟨by rw [s.ext l h.2]; exact h.1, Nat.lt_of_lt_of_le h.2 s.le⟩
  | .fn _, _, h => h
  | .clo k cs, v, h => by
    simp only [RepV] at h ⊢
    obtain ⟨f, e, q⟩ := h
    exact ⟨f, e, CloAt.step s q⟩
  | .ty _, _, h => h
theorem RepVs.step (s : Wk ρ n H ρ' n' H') : ∀ (xs : List A) (vs : List V), RepVs T K ρ n H xs vs → RepVs T K ρ' n' H' xs vs
  | [], _, h => h
  | x :: xs, vs, h => by
    simp only [RepVs] at h ⊢
    obtain ⟨y, ys, e, q, r⟩ := h
    exact ⟨y, ys, e, RepV.step s x y q, RepVs.step s xs ys r⟩
end
theorem RepKs.step {κ : Type} (s : Wk ρ n H ρ' n' H') {kvs : List (κ × A)} {ws : List (κ × V)} (h : RepKs T K ρ n H kvs ws) : RepKs T K ρ' n' H' kvs ws :=
  Paired.mapP h fun _ _ q => ⟨q.1, RepV.step s _ _ q.2⟩
theorem RepFs.step (s : Wk ρ n H ρ' n' H') {fs : List (Nat × A)} {ws : List (Str × V)} (h : RepFs T K ρ n H fs ws) : RepFs T K ρ' n' H' fs ws :=
  Paired.mapP h fun _ _ q => ⟨q.1, RepV.step s _ _ q.2⟩
end
end Zk
end
section
set_option Elab.async false
set_option linter.all false
set_option maxRecDepth 100000
/-! Zk2: a frame's plain state; new objects, written objects. -/
namespace Zk
open PySem PySem.Spec PyProof.Rows L2 NdefX LamX

def isMut : Ob → Bool
  | .lst _ | .dic _ | .dit _ | .ins _ _ | .lok _ => true
  | _ => false
section
variable {T : Tb} {K : PySem.W.Frag} {ρ ρ' : Nat → Addr} {n n' : Nat} {H H' : Hp} {base : Heap} {a : Addr} {o : Ob}
theorem RepO.stay (s : Wk ρ n H ρ' n' H') (hk : ∀ u, H a = some u → H' a = some u) (h : RepO T K ρ n H base a o) : RepO T K ρ' n' H' base a o := by
  cases o with
  | lst xs => obtain ⟨vs, e, r⟩ := h; exact ⟨vs, hk _ e, RepVs.step s _ _ r⟩
  | rol xs => obtain ⟨vs, e, r⟩ := h; exact ⟨vs, RoL.step s e, RepVs.step s _ _ r⟩
  | dic xs => obtain ⟨vs, e, r⟩ := h; exact ⟨vs, hk _ e, RepKs.step s r⟩
  | dit xs => obtain ⟨vs, e, r⟩ := h; exact ⟨vs, hk _ e, RepKs.step s r⟩
  | ins c fs => obtain ⟨dx, ws, e, r⟩ := h; exact ⟨dx, ws, hk _ e, RepFs.step s r⟩
  | cel v =>
    cases v with
    | none => exact h
    | some x =>
      obtain ⟨v, r, q⟩ := h
      exact ⟨v, RepV.step s _ _ r, q.imp id (fun z => hk _ z)⟩
  | exc c fs => obtain ⟨dd, ws, e1, e2, r⟩ := h; exact ⟨dd, ws, hk _ e1, s.keep _ _ e2 trivial (fun v z => nomatch z), RepFs.step s r⟩
  | lok xs => obtain ⟨od, vs, e, r⟩ := h; exact ⟨od, vs, hk _ e, RepKs.step s r⟩
/-- a mutable object is tracked -/
theorem RepO.tracked (hm : isMut o = true) (h : RepO T K ρ n H base a o) : ∃ u, H a = some u ∧ ¬ Fxw u := by
  cases o with
  | lst xs => obtain ⟨vs, e, r⟩ := h; exact ⟨_, e, fun z => z⟩
  | dic xs => obtain ⟨vs, e, r⟩ := h; exact ⟨_, e, fun z => z⟩
  | dit xs => obtain ⟨vs, e, r⟩ := h; exact ⟨_, e, fun z => z⟩
  | ins c fs => obtain ⟨dx, ws, e, r⟩ := h; exact ⟨_, e, fun z => z⟩
  | exc c fs => cases hm
  | lok xs => obtain ⟨od, vs, e, r⟩ := h; exact ⟨_, e, fun z => z⟩
  | rol xs => cases hm
  | cel v => cases hm
/-- a mutable one leans on no ground -/
theorem RepO.move {base' : Heap} (s : Wk ρ n H ρ' n' H') (hm : isMut o = true) (hk : ∀ u, H a = some u → ¬ Fxw u → H' a = some u) (h : RepO T K ρ n H base a o) : RepO T K ρ' n' H' base' a o := by
  cases o with
  | lst xs => obtain ⟨vs, e, r⟩ := h; exact ⟨vs, hk _ e (fun z => z), RepVs.step s _ _ r⟩
  | dic xs => obtain ⟨vs, e, r⟩ := h; exact ⟨vs, hk _ e (fun z => z), RepKs.step s r⟩
  | dit xs => obtain ⟨vs, e, r⟩ := h; exact ⟨vs, hk _ e (fun z => z), RepKs.step s r⟩
  | ins c fs => obtain ⟨dx, ws, e, r⟩ := h; exact ⟨dx, ws, hk _ e (fun z => z), RepFs.step s r⟩
  | exc c fs => cases hm
  | lok xs => obtain ⟨od, vs, e, r⟩ := h; exact ⟨od, vs, hk _ e (fun z => z), RepKs.step s r⟩
  | rol xs => cases hm
  | cel v => cases hm
/-- one that is not mutable is untouched by a write -/
theorem RepO.still (s : Wk ρ n H ρ' n' H') (hm : isMut o = false) (hc : ∀ u, H a = some u → Fxw u → H' a = some u) (h : RepO T K ρ n H base a o) : RepO T K ρ' n' H' base a o := by
  cases o with
  | rol xs => obtain ⟨vs, e, r⟩ := h; exact ⟨vs, RoL.step s e, RepVs.step s _ _ r⟩
  | cel v =>
    cases v with
    | none => exact h
    | some x =>
      obtain ⟨v, r, q⟩ := h
      exact ⟨v, RepV.step s _ _ r, q.imp id (fun z => hc _ z trivial)⟩
  | exc c fs => obtain ⟨dd, ws, e1, e2, r⟩ := h; exact ⟨dd, ws, s.keep _ _ e1 trivial (fun v => exc_ne_cell), s.keep _ _ e2 trivial (fun v z => nomatch z), RepFs.step s r⟩
  | lok xs => cases hm
  | lst xs => cases hm
  | dic xs => cases hm
  | dit xs => cases hm
  | ins c fs => cases hm
end

/-- the plain state of a frame: cls tells which slots are cells, and their numbers -/
structure Fm (T : Tb) (X : Cx) (cls : List (Option Nat)) (ρ : Nat → Addr) (h : Hq) (loc : Lc) (σ : L2.St) (H : Hp) : Prop where
  obj : ∀ l o, h.get l = some o → l < h.n ∧ (some l ∉ cls → RepO T X.K ρ h.n H X.base (ρ l) o)
  inj : ∀ l l' o o', h.get l = some o → h.get l' = some o' → isMut o = true → isMut o' = true → ρ l = ρ l' → l = l'
  len : loc.length = X.N.length
  val : ∀ (i : Nat) (a : A), loc[i]? = some (some a) → ∃ v : V, σ[i]? = some (some v) ∧ RepV T X.K ρ h.n H a v
  cel : ∀ (i l : Nat), cls[i]? = some (some l) → ∃ (x : Str) (ov : Option A), X.N[i]? = some x ∧ X.env.cells.lookup x = some (ρ l) ∧ (X.env.scope.names.lookup x = some .cell ∨ X.env.scope.names.lookup x = some .free) ∧ ρ l ∉ X.fs ∧ h.get l = some (.cel ov) ∧ ∀ a, ov = some a → ∃ v : V, σ[i]? = some (some v) ∧ RepV T X.K ρ h.n H a v
  tab : TabsN T.tt H
section
variable {T : Tb} {X : Cx} {cls : List (Option Nat)} {ρ ρ' : Nat → Addr} {h h' : Hq} {loc : Lc} {σ : L2.St} {H H' : Hp}
theorem Fm.noCls (F : Fm T X cls ρ h loc σ H) {l : Nat} {o : Ob} (e : h.get l = some o) (hm : isMut o = true) : some l ∉ cls := fun hc => by
  obtain ⟨i, hi⟩ := List.mem_iff_getElem?.mp hc
  obtain ⟨_, ov, _, _, _, _, q, _⟩ := F.cel i l hi
  rw [e] at q; cases q; cases hm
theorem Fm.rep (F : Fm T X cls ρ h loc σ H) {l : Nat} {o : Ob} (e : h.get l = some o) (hm : isMut o = true) : RepO T X.K ρ h.n H X.base (ρ l) o := (F.obj l o e).2 (F.noCls e hm)
theorem Fm.lt (F : Fm T X cls ρ h loc σ H) {l : Nat} {o : Ob} (e : h.get l = some o) : l < h.n := (F.obj l o e).1
theorem TabN.keeps {H H' : Hp} {P : Addr} {nm : Nat → Nat → Str} (t : TabN H P nm) (e : ∀ b o, H b = some o → ((∃ q, o = CodeO b q) ∨ ∃ ps, o = .tbl ps) → H' b = some o) : TabN H' P nm := by
  obtain ⟨ps, h1, h2, h3⟩ := t
  refine ⟨ps, e _ _ h1 (.inr ⟨_, rfl⟩), h2, fun pos cv hc => ?_⟩
  obtain ⟨c, e1, e2⟩ := h3 pos cv hc
  exact ⟨c, e1, e _ _ e2 (.inl ⟨_, rfl⟩)⟩
/-- the place of a new object -/
def put1 (ρ : Nat → Addr) (n : Nat) (p : Addr) : Nat → Addr := fun l => if l = n then p else ρ l
theorem put1_same {ρ : Nat → Addr} {n : Nat} {p : Addr} : put1 ρ n p n = p := if_pos rfl
theorem put1_ne {ρ : Nat → Addr} {n l : Nat} {p : Addr} (h : l ≠ n) : put1 ρ n p l = ρ l := if_neg h
theorem step_new {p : Addr} {u : HO} {o : Ob} (hlt : ∀ l x, h.get l = some x → l < h.n) (hp : H p = none) (hm : isMut o = true) : Step [] ρ h H (put1 ρ h.n p) (h.new o) (upd H p u) := by
  refine ⟨fun l hl => put1_ne (Nat.ne_of_lt hl), Nat.le_succ _, fun b x e _ => by rw [upd_ne (ne_of_none e hp)]; exact e, fun l ov hl _ => by rw [Hq.get_new, if_neg (Nat.ne_of_lt hl)], fun l x hl _ e => ?_⟩
  rw [Hq.get_new] at e
  split at e
  · cases e; cases hm
  · exact absurd (Nat.lt_of_lt_of_le (hlt _ _ e) hl) (Nat.lt_irrefl _)
theorem step_tup {p : Addr} {u : HO} (hlt : ∀ l x, h.get l = some x → l < h.n) (hp : H p = none) : Step [] ρ h H ρ h (upd H p u) :=
  ⟨fun _ _ => rfl, Nat.le_refl _, fun b x e _ => by rw [upd_ne (ne_of_none e hp)]; exact e, fun _ _ _ _ => Iff.rfl, fun l x hl _ e => absurd (Nat.lt_of_lt_of_le (hlt _ _ e) hl) (Nat.lt_irrefl _)⟩
theorem Fm.refl (F : Fm T X cls ρ h loc σ H) : Step [] ρ h H ρ h H :=
  ⟨fun _ _ => rfl, Nat.le_refl _, fun _ _ e _ => e, fun _ _ _ _ => Iff.rfl, fun l x hl _ e => absurd (Nat.lt_of_lt_of_le (F.lt e) hl) (Nat.lt_irrefl _)⟩
theorem Fm.new (F : Fm T X cls ρ h loc σ H) {p : Addr} {u : HO} {o : Ob} (hp : H p = none) (hm : isMut o = true)
    (hr : RepO T X.K (put1 ρ h.n p) (h.n + 1) (upd H p u) X.base p o) : Fm T X cls (put1 ρ h.n p) (h.new o) loc σ (upd H p u) := by
  have st : Wk ρ h.n H (put1 ρ h.n p) (h.n + 1) (upd H p u) := (step_new (o := o) (fun _ _ => F.lt) hp hm).wk
  have old : ∀ l x, (h.new o).get l = some x → (l = h.n ∧ x = o) ∨ (l ≠ h.n ∧ h.get l = some x) := fun l x e => by
    rw [Hq.get_new] at e
    by_cases z : l = h.n
    · rw [if_pos z] at e; exact .inl ⟨z, (Option.some.inj e).symm⟩
    · rw [if_neg z] at e; exact .inr ⟨z, e⟩
  refine ⟨fun l x e => ?_, fun l l' x x' e e' m m' q => ?_, F.len, fun i a e => ?_, fun i l e => ?_, fun q hq => TabN.keeps (F.tab q hq) fun b x e _ => by rw [upd_ne (ne_of_none e hp)]; exact e⟩
  · rcases old l x e with ⟨rfl, rfl⟩ | ⟨hl, e⟩
    · exact ⟨Nat.lt_succ_self _, fun _ => by rw [put1_same]; exact hr⟩
    · obtain ⟨h1, h2⟩ := F.obj l x e
      exact ⟨Nat.lt_succ_of_lt h1, fun hc => by rw [put1_ne hl]; exact RepO.stay st (fun v z => by rw [upd_ne (ne_of_none z hp)]; exact z) (h2 hc)⟩
  · rcases old l x e with ⟨y1, y2⟩ | ⟨hl, f⟩ <;> rcases old l' x' e' with ⟨y3, y4⟩ | ⟨hl', f'⟩
    · exact y1.trans y3.symm
    · rw [y1, put1_same, put1_ne hl'] at q
      obtain ⟨v, z, _⟩ := RepO.tracked m' (F.rep f' m')
      rw [← q, hp] at z; cases z
    · rw [y3, put1_same, put1_ne hl] at q
      obtain ⟨v, z, _⟩ := RepO.tracked m (F.rep f m)
      rw [q, hp] at z; cases z
    · rw [put1_ne hl, put1_ne hl'] at q
      exact F.inj l l' x x' f f' m m' q
  · obtain ⟨v, e1, r⟩ := F.val i a e
    exact ⟨v, e1, RepV.step st _ _ r⟩
  · obtain ⟨x, ov, e1, e2, e3, nf, e4, e5⟩ := F.cel i l e
    have hl : l ≠ h.n := Nat.ne_of_lt (F.lt e4)
    refine ⟨x, ov, e1, by rw [put1_ne hl]; exact e2, e3, by rw [put1_ne hl]; exact nf, by rw [Hq.get_new, if_neg hl]; exact e4, fun a ea => ?_⟩
    obtain ⟨v, z, r⟩ := e5 a ea
    exact ⟨v, z, RepV.step st _ _ r⟩
theorem step_upd {l : Nat} {a : Addr} {u u0 : HO} {o o0 : Ob} (hlt : ∀ l x, h.get l = some x → l < h.n) (e0 : H a = some u0) (hu : ¬ Fix u0) (eo : h.get l = some o0) (hm0 : isMut o0 = true) (hm : isMut o = true) : Step [] ρ h H ρ (h.upd l o) (L2.upd H a u) := by
  refine ⟨fun _ _ => rfl, Nat.le_refl _, fun b x e f => by rw [upd_ne (fun z => by rw [z, e0] at e; cases e; exact hu f)]; exact e, fun j ov hl _ => ?_, fun j x hl _ e => ?_⟩
  · rw [Hq.get_upd]
    split
    · rename_i z
      subst z
      constructor
      · intro z; cases z; cases hm
      · intro z; rw [eo] at z; cases z; cases hm0
    · exact Iff.rfl
  · rw [Hq.get_upd] at e
    split at e
    · cases e; cases hm
    · exact absurd (Nat.lt_of_lt_of_le (hlt _ _ e) hl) (Nat.lt_irrefl _)
theorem Fm.upd (F : Fm T X cls ρ h loc σ H) {l : Nat} {u : HO} {o o0 : Ob} (e0 : h.get l = some o0) (hm0 : isMut o0 = true) (hm : isMut o = true)
    (ht : ∀ ps, H (ρ l) ≠ some (.tbl ps)) (hr : RepO T X.K ρ h.n (L2.upd H (ρ l) u) X.base (ρ l) o) : Fm T X cls ρ (h.upd l o) loc σ (L2.upd H (ρ l) u) := by
  obtain ⟨u0, eu, nf⟩ := RepO.tracked hm0 (F.rep e0 hm0)
  have st : Wk ρ h.n H ρ h.n (L2.upd H (ρ l) u) := ⟨fun _ _ => rfl, Nat.le_refl _, fun b x e f _ => by rw [upd_ne (fun z => by rw [z, eu] at e; cases e; exact nf f)]; exact e⟩
  have ncell : ∀ v b, H b = some (CellO b v) → b ≠ ρ l := fun v b z q => by
    rw [q, eu] at z; cases z; exact nf trivial
  have old : ∀ j x, (h.upd l o).get j = some x → (j = l ∧ x = o) ∨ (j ≠ l ∧ h.get j = some x) := fun j x e => by
    rw [Hq.get_upd] at e
    by_cases z : j = l
    · rw [if_pos z] at e; exact .inl ⟨z, (Option.some.inj e).symm⟩
    · rw [if_neg z] at e; exact .inr ⟨z, e⟩
  refine ⟨fun j x e => ?_, fun j j' x x' e e' m m' q => ?_, F.len, fun i a e => ?_, fun i j e => ?_, fun q hq => TabN.keeps (F.tab q hq) fun b x e hf => ?_⟩
  · rcases old j x e with ⟨rfl, rfl⟩ | ⟨hj, e⟩
    · exact ⟨F.lt e0, fun _ => hr⟩
    · obtain ⟨h1, h2⟩ := F.obj j x e
      refine ⟨h1, fun hc => ?_⟩
      cases m : isMut x with
      | true =>
        have ne : ρ j ≠ ρ l := fun q => hj (F.inj j l x o0 e e0 m hm0 q)
        exact RepO.stay st (fun v z => by rw [upd_ne ne]; exact z) (h2 hc)
      | false => exact RepO.still st m (fun v z f => by rw [upd_ne (fun q => by rw [q, eu] at z; cases z; exact nf f)]; exact z) (h2 hc)
  · have key : ∀ j x, (h.upd l o).get j = some x → isMut x = true → ∃ y, h.get j = some y ∧ isMut y = true := fun j x e m => by
      rcases old j x e with ⟨rfl, rfl⟩ | ⟨_, e⟩
      · exact ⟨o0, e0, hm0⟩
      · exact ⟨x, e, m⟩
    obtain ⟨y, ey, my⟩ := key j x e m
    obtain ⟨y', ey', my'⟩ := key j' x' e' m'
    exact F.inj j j' y y' ey ey' my my' q
  · obtain ⟨v, e1, r⟩ := F.val i a e
    exact ⟨v, e1, RepV.step st _ _ r⟩
  · obtain ⟨x, ov, e1, e2, e3, nf, e4, e5⟩ := F.cel i j e
    have hl : j ≠ l := fun z => by rw [z, e0] at e4; cases e4; cases hm0
    refine ⟨x, ov, e1, e2, e3, nf, by rw [Hq.get_upd, if_neg hl]; exact e4, fun a ea => ?_⟩
    obtain ⟨v, z, r⟩ := e5 a ea
    exact ⟨v, z, RepV.step st _ _ r⟩
  · rw [upd_ne (fun z => ?_)]
    · exact e
    · rw [z] at e
      rcases hf with ⟨q, rfl⟩ | ⟨ps, rfl⟩
      · rw [eu] at e; cases e; exact nf trivial
      · exact ht ps e
end

/-! ### readings -/
/-- what an exception's wish is asked: the plain state behind it -/
def ErrW (T : Tb) (X : Cx) (cls : List (Option Nat)) (W : WX) (ρ : Nat → Addr) (h : Hq) (H : Hp) (σ : L2.St) (loc : Lc) (c : Nat) (fs : List (Nat × A)) (h' : Hq) : Prop :=
  ∀ (ρ' : Nat → Addr) (H' : Hp) (d : Addr) (ws : List (Str × V)), Step [] ρ h H ρ' h' H' → Fm T X cls ρ' h' loc σ H' → H' d = some (.xd ws) → RepFs T X.K ρ' h'.n H' fs ws → W (.ref (T.cA c)) (some d) σ H'
def PostE (T : Tb) (X : Cx) (cls : List (Option Nat)) (W : WX) (ρ : Nat → Addr) (h : Hq) (H : Hp) (σ : L2.St) (loc : Lc) (Q : VK) : Res A → Prop
  | .ok a h' => ∀ (ρ' : Nat → Addr) (H' : Hp) (v : V), Step [] ρ h H ρ' h' H' → Fm T X cls ρ' h' loc σ H' → RepV T X.K ρ' h'.n H' a v → Q v H'
  | .err c fs h' => ErrW T X cls W ρ h H σ loc c fs h'
  | .bad => False
def PostA (T : Tb) (X : Cx) (cls : List (Option Nat)) (W : WX) (ρ : Nat → Addr) (h : Hq) (H : Hp) (σ : L2.St) (loc : Lc) (Q : List V → Hp → Prop) : Res (List A) → Prop
  | .ok as h' => ∀ (ρ' : Nat → Addr) (H' : Hp) (vs : List V), Step [] ρ h H ρ' h' H' → Fm T X cls ρ' h' loc σ H' → RepVs T X.K ρ' h'.n H' as vs → Q vs H'
  | .err c fs h' => ErrW T X cls W ρ h H σ loc c fs h'
  | .bad => False
def rdE (T : Tb) (X : Cx) (cls : List (Option Nat)) (W : WX) (m : ME) : TE := fun σ H Q => ∃ ρ h loc, Fm T X cls ρ h loc σ H ∧ PostE T X cls W ρ h H σ loc Q (m loc h)
def rdA (T : Tb) (X : Cx) (cls : List (Option Nat)) (W : WX) (m : MA) : TA := fun σ H Q => ∃ ρ h loc, Fm T X cls ρ h loc σ H ∧ PostA T X cls W ρ h H σ loc Q (m loc h)
/-- the expression e does what the part m says -/
abbrev SE (T : Tb) (X : Cx) (cls : List (Option Nat)) (W : WX) (e : Expr) (m : ME) : Prop := PE X e (rdE T X cls W m)
abbrev SA (T : Tb) (X : Cx) (cls : List (Option Nat)) (W : WX) (es : List Expr) (m : MA) : Prop := PA X es (rdA T X cls W m)
theorem PE.weak {X : Cx} {e : Expr} {t t' : TE} (h : PE X e t) (w : ∀ σ H Q, t' σ H Q → t σ H Q) : PE X e t' := ⟨fun pins s σ H Q I q => h.run pins s σ H Q I (w σ H Q q)⟩
theorem PA.weak {X : Cx} {e : List Expr} {t t' : TA} (h : PA X e t) (w : ∀ σ H Q, t' σ H Q → t σ H Q) : PA X e t' := ⟨fun pos pins s σ H Q I q => h.run pos pins s σ H Q I (w σ H Q q)⟩
section
variable {T : Tb} {X : Cx} {cls : List (Option Nat)} {W : WX} {ρ ρ1 : Nat → Addr} {h h1 : Hq} {H H1 : Hp} {σ : L2.St} {loc : Lc}
theorem ErrW.of (st : Step [] ρ h H ρ1 h1 H1) {c : Nat} {fs : List (Nat × A)} {h' : Hq} (p : ErrW T X cls W ρ h H σ loc c fs h') : ErrW T X cls W ρ1 h1 H1 σ loc c fs h' :=
  fun ρ' H' d ws s F e r => p ρ' H' d ws (st.trans s) F e r
theorem PostE.of (st : Step [] ρ h H ρ1 h1 H1) {Q : VK} {r : Res A} (p : PostE T X cls W ρ h H σ loc Q r) : PostE T X cls W ρ1 h1 H1 σ loc Q r := by
  cases r with
  | ok a h' => exact fun ρ' H' v s F e => p ρ' H' v (st.trans s) F e
  | err c fs h' => exact ErrW.of st p
  | bad => exact p
theorem PostA.of (st : Step [] ρ h H ρ1 h1 H1) {Q : List V → Hp → Prop} {r : Res (List A)} (p : PostA T X cls W ρ h H σ loc Q r) : PostA T X cls W ρ1 h1 H1 σ loc Q r := by
  cases r with
  | ok a h' => exact fun ρ' H' v s F e => p ρ' H' v (st.trans s) F e
  | err c fs h' => exact ErrW.of st p
  | bad => exact p
/-- one part, then what its value asks -/
theorem PostE.bindE {r : Res A} {f : A → Hq → Res A} {Q : VK} {Q1 : VK} (p : PostE T X cls W ρ h H σ loc Q (r.bind f))
    (k : ∀ (a : A) (h1 : Hq) (ρ1 : Nat → Addr) (H1 : Hp) (v : V), Step [] ρ h H ρ1 h1 H1 → Fm T X cls ρ1 h1 loc σ H1 → RepV T X.K ρ1 h1.n H1 a v → PostE T X cls W ρ1 h1 H1 σ loc Q (f a h1) → Q1 v H1) :
    PostE T X cls W ρ h H σ loc Q1 r := by
  cases r with
  | ok a h1 => exact fun ρ1 H1 v s F e => k a h1 ρ1 H1 v s F e (PostE.of s p)
  | err c fs h' => exact p
  | bad => exact p
theorem PostE.bindA {r : Res (List A)} {f : List A → Hq → Res A} {Q : VK} {Q1 : List V → Hp → Prop} (p : PostE T X cls W ρ h H σ loc Q (r.bind f))
    (k : ∀ (as : List A) (h1 : Hq) (ρ1 : Nat → Addr) (H1 : Hp) (vs : List V), Step [] ρ h H ρ1 h1 H1 → Fm T X cls ρ1 h1 loc σ H1 → RepVs T X.K ρ1 h1.n H1 as vs → PostE T X cls W ρ1 h1 H1 σ loc Q (f as h1) → Q1 vs H1) :
    PostA T X cls W ρ h H σ loc Q1 r := by
  cases r with
  | ok a h1 => exact fun ρ1 H1 v s F e => k a h1 ρ1 H1 v s F e (PostE.of s p)
  | err c fs h' => exact p
  | bad => exact p
theorem PostA.bindE {r : Res A} {f : A → Hq → Res (List A)} {Q : List V → Hp → Prop} {Q1 : VK} (p : PostA T X cls W ρ h H σ loc Q (r.bind f))
    (k : ∀ (a : A) (h1 : Hq) (ρ1 : Nat → Addr) (H1 : Hp) (v : V), Step [] ρ h H ρ1 h1 H1 → Fm T X cls ρ1 h1 loc σ H1 → RepV T X.K ρ1 h1.n H1 a v → PostA T X cls W ρ1 h1 H1 σ loc Q (f a h1) → Q1 v H1) :
    PostE T X cls W ρ h H σ loc Q1 r := by
  cases r with
  | ok a h1 => exact fun ρ1 H1 v s F e => k a h1 ρ1 H1 v s F e (PostA.of s p)
  | err c fs h' => exact p
  | bad => exact p
theorem PostA.bindA {r : Res (List A)} {f : List A → Hq → Res (List A)} {Q : List V → Hp → Prop} {Q1 : List V → Hp → Prop} (p : PostA T X cls W ρ h H σ loc Q (r.bind f))
    (k : ∀ (as : List A) (h1 : Hq) (ρ1 : Nat → Addr) (H1 : Hp) (vs : List V), Step [] ρ h H ρ1 h1 H1 → Fm T X cls ρ1 h1 loc σ H1 → RepVs T X.K ρ1 h1.n H1 as vs → PostA T X cls W ρ1 h1 H1 σ loc Q (f as h1) → Q1 vs H1) :
    PostA T X cls W ρ h H σ loc Q1 r := by
  cases r with
  | ok a h1 => exact fun ρ1 H1 v s F e => k a h1 ρ1 H1 v s F e (PostA.of s p)
  | err c fs h' => exact p
  | bad => exact p
/-- the whole step, from here -/
theorem PostE.here {Q : VK} {a : A} {h' : Hq} {v : V} (p : PostE T X cls W ρ h' H σ loc Q (.ok a h')) (F : Fm T X cls ρ h' loc σ H) (r : RepV T X.K ρ h'.n H a v) : Q v H := p ρ H v F.refl F r

/-! ### first parts -/
theorem s_loc {i : Nat} {x : Str} {pos : Pos} (hN : X.N[i]? = some x) (hv : Vis X.env.scope x) (hd : (x == ("__debug__" : Str)) = false := by decide) (hcd : (x == ("__classdict__" : Str)) = false := by decide) : SE T X cls W (.Name x pos) (eLoc i) := by
  refine PE.weak (pe_var hN hv hd hcd) fun σ H Q ⟨ρ, h, loc, F, p⟩ => ?_
  unfold eLoc at p
  cases e : loc[i]? with
  | none => rw [e] at p; exact p.elim
  | some o =>
    cases o with
    | none => rw [e] at p; exact p.elim
    | some a =>
      rw [e] at p
      obtain ⟨v, ev, r⟩ := F.val i a e
      exact ⟨v, ev, p.here F r⟩
theorem s_int {i : Int} {j pos} : SE T X cls W (.Constant (.int i) j pos) (eCon (.int i)) := PE.weak pe_int fun σ H Q ⟨ρ, h, loc, F, p⟩ => PostE.here p F rfl
theorem s_bl {b j pos} : SE T X cls W (.Constant (.bool b) j pos) (eCon (.bl b)) := PE.weak pe_bl fun σ H Q ⟨ρ, h, loc, F, p⟩ => PostE.here p F rfl
theorem s_non {j pos} : SE T X cls W (.Constant .none j pos) (eCon .non) := PE.weak pe_non fun σ H Q ⟨ρ, h, loc, F, p⟩ => PostE.here p F rfl
theorem s_str {x j pos} : SE T X cls W (.Constant (.str x) j pos) (eCon (.str x)) := PE.weak pe_str fun σ H Q ⟨ρ, h, loc, F, p⟩ => PostE.here p F rfl
theorem a_nil : SA T X cls W [] aNil := PA.weak pa_nil fun σ H Q ⟨ρ, h, loc, F, p⟩ => p ρ H [] F.refl F rfl
theorem a_cons {e : Expr} {es : List Expr} {m : ME} {r : MA} (he : SE T X cls W e m) (hr : SA T X cls W es r) (hs : starEach (e :: es) X.env = (false, eval e X.env) :: starEach es X.env := by rfl) : SA T X cls W (e :: es) (aCons m r) := by
  refine PA.weak (pa_cons he hr hs) fun σ H Q ⟨ρ, h, loc, F, p⟩ => ⟨ρ, h, loc, F, PostA.bindE p fun a h1 ρ1 H1 v s1 F1 r1 p1 => ⟨ρ1, h1, loc, F1, PostA.bindA p1 fun as h2 ρ2 H2 vs s2 F2 r2 p2 => ?_⟩⟩
  exact p2 ρ2 H2 (v :: vs) F2.refl F2 ⟨v, vs, rfl, RepV.step s2.wk _ _ r1, r2⟩
theorem RepVs.length {K : PySem.W.Frag} {ρ : Nat → Addr} {n : Nat} {H : Hp} : ∀ {xs : List A} {vs : List V}, RepVs T K ρ n H xs vs → vs.length = xs.length
  | [], _, h => by simp only [RepVs] at h; rw [h]; rfl
  | x :: xs, _, h => by
    simp only [RepVs] at h
    obtain ⟨y, ys, e, _, r⟩ := h
    rw [e, List.length_cons, List.length_cons, RepVs.length r]
theorem sz_eq : SZ = sizeLine := by decide
theorem s_tup {es : List Expr} {m : MA} {x1 pos} (h : SA T X cls W es m) : SE T X cls W (.Tuple es x1 pos) (eTup m) := by
  refine PE.weak (pe_tup h) fun σ H Q ⟨ρ, h, loc, F, p⟩ => ⟨ρ, h, loc, F, PostE.bindA p fun as h1 ρ1 H1 vs s1 F1 r1 p1 => ?_⟩
  split at p1
  · rename_i hz
    refine ⟨by rw [RepVs.length r1, ← sz_eq]; exact hz, fun q hq => ?_⟩
    have st0 : Step [] ρ1 h1 H1 ρ1 h1 (upd H1 q (.tup vs)) := step_tup (fun _ _ => F1.lt) hq
    have st := st0.wk
    have kp : ∀ b u, H1 b = some u → (upd H1 q (.tup vs)) b = some u := fun b u e => by rw [upd_ne (ne_of_none e hq)]; exact e
    refine p1 ρ1 _ (.ref q) st0 ⟨fun l o e => ⟨F1.lt e, fun hc => RepO.stay st (kp _) ((F1.obj l o e).2 hc)⟩, F1.inj, F1.len, fun i a e => ?_, fun i l e => ?_, fun b hb => TabN.keeps (F1.tab b hb) fun b u e _ => kp b u e⟩ ?_
    · obtain ⟨v, e1, r⟩ := F1.val i a e
      exact ⟨v, e1, RepV.step st _ _ r⟩
    · obtain ⟨x, ov, e1, e2, e3, nf, e4, e5⟩ := F1.cel i l e
      exact ⟨x, ov, e1, e2, e3, nf, e4, fun a ea => let ⟨v, z, r⟩ := e5 a ea; ⟨v, z, RepV.step st _ _ r⟩⟩
    · simp only [RepV]
      exact ⟨q, vs, rfl, SqT.of upd_same, RepVs.step st _ _ r1⟩
  · exact p1.elim
theorem s_lst {es : List Expr} {m : MA} {pos} (h : SA T X cls W es m) : SE T X cls W (.List es pos) (eLst m) := by
  refine PE.weak (pe_lst h) fun σ H Q ⟨ρ, h, loc, F, p⟩ => ⟨ρ, h, loc, F, PostE.bindA p fun as h1 ρ1 H1 vs s1 F1 r1 p1 => ?_⟩
  split at p1
  · rename_i hz
    refine ⟨by rw [RepVs.length r1, ← sz_eq]; exact hz, fun q hq => ?_⟩
    have st := step_new (ρ := ρ1) (H := H1) (u := .lst vs) (o := .lst as) (fun _ _ => F1.lt) hq rfl
    refine p1 (put1 ρ1 h1.n q) _ (.ref q) st (F1.new hq rfl ⟨vs, upd_same, RepVs.step st.wk _ _ r1⟩) ?_
    simp only [RepV]
    exact ⟨by rw [put1_same], Nat.lt_succ_self _⟩
  · exact p1.elim
end
end Zk
end
section
set_option Elab.async false
set_option linter.all false
set_option maxRecDepth 100000
/-! Zk3: calls. What a callee brings, and a caller's frame behind it. -/
namespace Zk
open PySem PySem.Spec PyProof.Rows L2 NdefX LamX

/-- the plain state with no frame -/
structure RepA (T : Tb) (K : PySem.W.Frag) (base : Heap) (ρ : Nat → Addr) (h : Hq) (H : Hp) : Prop where
  obj : ∀ l o, h.get l = some o → l < h.n ∧ RepO T K ρ h.n H base (ρ l) o
  inj : ∀ l l' o o', h.get l = some o → h.get l' = some o' → isMut o = true → isMut o' = true → ρ l = ρ l' → l = l'
  tab : TabsN T.tt H
/-- how a call ends -/
def CRes (T : Tb) (P : Program) (w : World) (K : PySem.W.Frag) (base : Heap) (outer : List Env) (H : Hp) (s : Shared) (ρ : Nat → Addr) (h : Hq) : Res A → Result → Shared → Prop
  | .ok a h', .ok (.ret u), s' => ∃ (ρ' : Nat → Addr) (H' : Hp) (v : V), s'.os = s.os ∧ AllBare s'.gens ∧ Un (frs outer) [] H H' s.heap s'.heap ∧ HOk P w H' s'.heap ∧ RelV v u ∧ Step [] ρ h H ρ' h' H' ∧ RepA T K base ρ' h' H' ∧ RepV T K ρ' h'.n H' a v
  | .err c fs h', .error e, s' => CX P w outer H s (fun cls d H' => ∃ (ρ' : Nat → Addr) (dd : Addr) (ws : List (Str × V)), cls = .ref (T.cA c) ∧ d = some dd ∧ H' dd = some (.xd ws) ∧ Step [] ρ h H ρ' h' H' ∧ RepA T K base ρ' h' H' ∧ RepFs T K ρ' h'.n H' fs ws) e s'
  | _, _, _ => False
/-- what stands around a call -/
structure Arnd (k : Nat) (B : Around) : Prop where
  room : Room k B
  grd : B.guards = some []
abbrev Dn := A → List A → List (Nat × A) → Hq → Res A
/-- no cell is tracked -/
def NoTr (H : Hp) : Prop := ∀ a v, H a ≠ some (CellO a v)
/-- all that Φ tells is what the callables do, at level k -/
def Lib (T : Tb) (P : Program) (w : World) (K : PySem.W.Frag) (mg : Str → Option Value) (k : Nat) (Φ : Dn) : Prop :=
  ∀ (base : Heap) (B : Around) (outer : List Env) (s : Shared) (H : Hp) (fa : A) (f : Addr) (us : List Value) (vs : List V) (as : List A) (ku : List (Str × Value)) (kv : List (Str × V)) (ka : List (Nat × A)) (ρ : Nat → Addr) (h : Hq),
    Arnd k B → Env0 P w K mg base B outer s H → RepV T K ρ h.n H fa (.ref f) → Vals vs us → RepVs T K ρ h.n H as vs → KV kv ku → RepFs T K ρ h.n H ka kv → RepA T K base ρ h H → NoTr H → Φ fa as ka h ≠ .bad →
    codeAny (model P w) B (.call (.ref f) ⟨us, ku⟩) (fun r s' => CRes T P w K base outer H s ρ h (Φ fa as ka h) r s') s

/-! ### the tracked cells set aside, for the time of a call -/
open Classical in
noncomputable def dec (H : Hp) : Hp := fun b => if ∃ v, H b = some (CellO b v) then none else H b
open Classical in
noncomputable def rec (H H' : Hp) : Hp := fun b => if ∃ v, H b = some (CellO b v) then H b else H' b
theorem dec_ne {H : Hp} {b : Addr} {o : HO} (e : H b = some o) (n : ∀ v, o ≠ CellO b v) : dec H b = some o := by
  unfold dec
  rw [if_neg (fun ⟨v, z⟩ => n v (Option.some.inj (e.symm.trans z)))]
  exact e
theorem dec_cell {H : Hp} {b : Addr} {v : Option V} (e : H b = some (CellO b v)) : dec H b = none := if_pos ⟨v, e⟩
theorem dec_none {H : Hp} {b : Addr} (e : H b = none) : dec H b = none := by
  unfold dec; split
  · rfl
  · exact e
theorem of_dec {H : Hp} {b : Addr} {o : HO} (e : dec H b = some o) : H b = some o ∧ ∀ v, o ≠ CellO b v := by
  unfold dec at e
  split at e
  · cases e
  · rename_i n
    exact ⟨e, fun v z => n ⟨v, by rw [e, z]⟩⟩
theorem rec_cell {H H' : Hp} {b : Addr} {v : Option V} (e : H b = some (CellO b v)) : rec H H' b = some (CellO b v) := (if_pos ⟨v, e⟩).trans e
theorem rec_ne {H H' : Hp} {b : Addr} (n : ∀ v, H b ≠ some (CellO b v)) : rec H H' b = H' b := if_neg fun ⟨v, z⟩ => n v z
section
variable {P : Program} {w : World} {H H' : Hp} {h h' : Heap}
theorem dec_ok (x : HOk P w H h) : HOk P w (dec H) h := fun b o e => by
  refine (x b o (of_dec e).1).stay (fun _ _ _ q => q) (fun c q => dec_ne q fun v z => nomatch z) fun c xs q => dec_ne q fun v z => nomatch z
/-- what was set aside stands behind the call: G a heap in which the callee's H' holds and the untracked stayed -/
theorem rec_ok {G : Heap} (x : HOk P w H h) (y : HOk P w H' G) (kp : ∀ b o v, H b = some (CellO b v) → h.get? b = some o → G.get? b = some o) (un : ∀ b v, H b = some (CellO b v) → H' b = none) : HOk P w (rec H H') G := fun b o e => by
  have k1 : ∀ c u, H' c = some u → rec H H' c = some u := fun c u q => by
    rw [rec_ne fun v z => ?_]
    · exact q
    · rw [un c v z] at q; cases q
  by_cases hc : ∃ v, H b = some (CellO b v)
  · obtain ⟨v, z⟩ := hc
    rw [rec_cell z] at e; cases e
    obtain ⟨p, ⟨o, ho⟩, st⟩ := x b _ z
    exact ⟨st _ _ p fun o' q => kp b o' v z q, ⟨o, kp b o v z ho⟩, st⟩
  · rw [rec_ne fun v z => hc ⟨v, z⟩] at e
    exact (y b o e).stay (fun _ _ _ q => q) (fun c q => k1 c _ q) fun c xs q => k1 c _ q
end
theorem wk_dec {ρ : Nat → Addr} {n : Nat} {H : Hp} : Wk ρ n H ρ n (dec H) := ⟨fun _ _ => rfl, Nat.le_refl _, fun b o e _ g => dec_ne e g⟩

section
variable {T : Tb} {X : Cx} {cls : List (Option Nat)} {W : WX} {pins : List (Addr × Obj)} {σ : L2.St} {H : Hp} {s : Shared} {ρ : Nat → Addr} {h : Hq} {loc : Lc}
/-- the ground of a call: what is not tracked, but the frames -/
theorem ground (I : Inv X pins σ H s) : ∃ G : Heap, (∀ b o, G.get? b = some o → s.heap.get? b = some o ∧ dec H b = none ∧ b ∉ frs X.stack) ∧ (∀ b o, s.heap.get? b = some o → dec H b = none → b ∉ frs X.stack → G.get? b = some o) ∧ G.objs.size ≤ s.heap.objs.size := by
  classical
  refine ⟨PySem.W.hideAll s.heap ((List.range s.heap.objs.size).filter fun b => decide (¬ (dec H b = none ∧ b ∉ frs X.stack))), fun b o e => ?_, fun b o e n hf => ?_, Nat.le_of_eq (PySem.W.hideAll_size _ _)⟩
  · have e1 := PySem.W.of_hideAll _ e
    by_cases q : dec H b = none ∧ b ∉ frs X.stack
    · exact ⟨e1, q.1, q.2⟩
    · rw [PySem.W.hideAll_none _ (List.mem_filter.mpr ⟨List.mem_range.mpr (Heap.lt_size e1), by simp only [decide_eq_true_eq]; exact q⟩)] at e; cases e
  · refine PySem.W.hideAll_get _ e fun hm => ?_
    have q := (List.mem_filter.mp hm).2
    simp [n, hf] at q
theorem rebase (I : Inv X pins σ H s) (F : Fm T X cls ρ h loc σ H) (hN : X.N.Nodup) : ∃ G : Heap, Env0 X.prog X.w X.K X.mg G X.A X.stack s (dec H) ∧ RepA T X.K G ρ h (dec H) ∧
    (∀ b o, G.get? b = some o → s.heap.get? b = some o ∧ dec H b = none ∧ b ∉ frs X.stack) := by
  obtain ⟨G, g1, g2, g3⟩ := ground I
  have gb : ∀ b o, X.base.get? b = some o → G.get? b = some o := fun b o e => by
    obtain ⟨e1, n⟩ := I.bs b o e
    refine g2 b o e1 (dec_none n) fun hf => ?_
    rcases List.mem_cons.mp (I.stkSub b hf) with z | z
    · have q := (I.ok.bs b o e).1
      rw [z] at q
      exact absurd (Nat.lt_of_lt_of_le (Heap.lt_size q) I.ok.above) (Nat.lt_irrefl _)
    · exact I.ok.nofr e z
  have md : Mod X.K X.mg G := ⟨I.ok.mod.kin.keeps gb, I.ok.mod.glob.keeps gb, let ⟨mb, q1, q2⟩ := I.ok.mod.blt; ⟨mb, q1.keeps gb, q2⟩, I.ok.mod.nolimit.keeps gb⟩
  refine ⟨G, ⟨I.ok.frames, md, fun b o e => ⟨(g1 b o e).1, (g1 b o e).2.1⟩, g3, ?_, fun b hb => dec_none (I.stkFree b hb), dec_ok I.hok, I.bare⟩, ⟨fun l o e => ?_, F.inj, fun q hq => ?_⟩, g1⟩
  · refine funFrames_none I.stack fun L hL => ?_
    cases q : G.get? L with
    | none => rfl
    | some o => exact absurd hL (g1 L o q).2.2
  · obtain ⟨hl, hr⟩ := F.obj l o e
    refine ⟨hl, ?_⟩
    by_cases hc : some l ∈ cls
    · obtain ⟨i, hi⟩ := List.mem_iff_getElem?.mp hc
      obtain ⟨x, ov, e1, e2, e3, nf, e4, e5⟩ := F.cel i l hi
      rw [e] at e4; cases e4
      cases ov with
      | none => trivial
      | some a =>
        obtain ⟨v, z, r⟩ := e5 a rfl
        obtain ⟨m, hn, hl'⟩ := I.loc
        obtain ⟨u, ru, lk⟩ := hl' i x v e1 z (.inr e3)
        have zc : s.heap.IsCell (ρ l) (some u) := by
          rcases lk with ⟨kl, _⟩ | ⟨_, c, ec, zc⟩
          · have kl : X.env.scope.names.lookup x = some .local := kl
            rcases e3 with k | k <;> rw [k] at kl <;> cases kl
          · rw [e2] at ec; cases ec; exact zc
        obtain ⟨o, ho, hd⟩ := zc
        refine ⟨v, RepV.step wk_dec _ _ r, .inl ⟨u, ⟨o, g2 _ _ ho (dec_none (I.freeC x _ e2)) fun hf => ?_, hd⟩, ru⟩⟩
        rcases List.mem_cons.mp (I.stkSub _ hf) with z | z
        · exact I.cne x _ e2 z
        · exact nf z
    · have hr := hr hc
      cases m : isMut o with
      | true => exact RepO.move wk_dec m (fun u e nf => dec_ne e fun v z => by rw [z] at nf; exact nf trivial) hr
      | false =>
        cases o with
        | cel v =>
          cases v with
          | none => trivial
          | some x =>
            obtain ⟨v, r, q⟩ := hr
            refine ⟨v, RepV.step wk_dec _ _ r, .inl ?_⟩
            rcases q with ⟨u, ⟨o, ho, hd⟩, ru⟩ | q
            · exact ⟨u, ⟨o, gb _ _ ho, hd⟩, ru⟩
            · obtain ⟨⟨u, ⟨o, ho, hd⟩, ru⟩, _, _⟩ := I.hok _ _ q
              cases u with
              | none => exact False.elim ru
              | some u => exact ⟨u, ⟨o, g2 _ _ ho (dec_cell q) (fun hf => by have z := I.stkFree _ hf; rw [q] at z; cases z), hd⟩, ru⟩
        | rol xs =>
          obtain ⟨vs, e, r⟩ := hr
          exact ⟨vs, RoL.step (wk_dec (ρ := ρ) (n := h.n)) e, RepVs.step wk_dec _ _ r⟩
        | exc c fs =>
          obtain ⟨dd, ws, e1, e2, r⟩ := hr
          exact ⟨dd, ws, dec_ne e1 (fun v => exc_ne_cell), dec_ne e2 (fun v z => nomatch z), RepFs.step wk_dec r⟩
        | lok xs => cases m
        | lst xs => cases m
        | dic xs => cases m
        | dit xs => cases m
        | ins c fs => cases m
  · refine TabN.keeps (F.tab q hq) fun b o e hf => dec_ne e fun v z => ?_
    rcases hf with ⟨c, rfl⟩ | ⟨ps, rfl⟩
    · exact code_ne_cell z
    · cases z
/-- behind a call -/
theorem back {G : Heap} {H1 : Hp} {ρ' : Nat → Addr} {h' : Hq} (I : Inv X pins σ H s) (F : Fm T X cls ρ h loc σ H) (g1 : ∀ b o, G.get? b = some o → s.heap.get? b = some o ∧ dec H b = none ∧ b ∉ frs X.stack)
    (free : ∀ b o, s.heap.get? b = some o → dec H b = none → H1 b = none) (st : Step [] ρ h (dec H) ρ' h' H1) (R : RepA T X.K G ρ' h' H1) :
    Step [] ρ h H ρ' h' (rec H H1) ∧ Fm T X cls ρ' h' loc σ (rec H H1) ∧ (∀ b o, H1 b = some o → rec H H1 b = some o) := by
  have uc : ∀ b v, H b = some (CellO b v) → H1 b = none := fun b v z => by
    obtain ⟨_, ⟨o, ho⟩, _⟩ := I.hok _ _ z
    exact free b o ho (dec_cell z)
  have up : ∀ b o, H1 b = some o → rec H H1 b = some o := fun b o e => by
    rw [rec_ne fun v z => ?_]
    · exact e
    · rw [uc b v z] at e; cases e
  have wk1 : Wk ρ' h'.n H1 ρ' h'.n (rec H H1) := ⟨fun _ _ => rfl, Nat.le_refl _, fun b o e _ _ => up b o e⟩
  have st2 : Step [] ρ h H ρ' h' (rec H H1) := by
    refine ⟨st.ext, st.le, fun b o e f => ?_, st.cel, fun l x hl he e => ?_⟩
    · by_cases hc : ∃ v, o = CellO b v
      · obtain ⟨v, rfl⟩ := hc
        exact rec_cell e
      · exact up b o (st.keep b o (dec_ne e fun v z => hc ⟨v, z⟩) f)
    · obtain ⟨v, z⟩ := st.ncl l x hl he e
      exact ⟨v, up _ _ z⟩
  refine ⟨st2, ⟨fun l o e => ⟨(R.obj l o e).1, fun hc => ?_⟩, R.inj, F.len, fun i a e => ?_, fun i l e => ?_, fun q hq => TabN.keeps (R.tab q hq) fun b o e _ => up b o e⟩, up⟩
  · have hr := (R.obj l o e).2
    cases m : isMut o with
    | true => exact RepO.move wk1 m (fun u e _ => up _ u e) hr
    | false =>
      cases o with
      | cel v =>
        cases v with
        | none => trivial
        | some x =>
          by_cases hl : l < h.n
          · have e0 := (st.cel l _ hl (by simp)).mp e
            obtain ⟨v, r, q⟩ := (F.obj l _ e0).2 hc
            rw [st.ext l hl]
            exact ⟨v, RepV.step st2.wk _ _ r, q.imp id fun q => rec_cell q⟩
          · obtain ⟨v', z⟩ := st.ncl l x (Nat.le_of_not_lt hl) (by simp) e
            obtain ⟨v, r, q⟩ := hr
            refine ⟨v, RepV.step wk1 _ _ r, ?_⟩
            rcases q with ⟨u, ⟨o, ho, hd⟩, ru⟩ | q
            · obtain ⟨a1, a2, _⟩ := g1 _ o ho
              rw [free _ o a1 a2] at z; cases z
            · exact .inr (up _ _ q)
      | rol xs =>
        obtain ⟨vs, e, r⟩ := hr
        exact ⟨vs, RoL.step wk1 e, RepVs.step wk1 _ _ r⟩
      | exc c fs =>
        obtain ⟨dd, ws, e1, e2, r⟩ := hr
        exact ⟨dd, ws, up _ _ e1, up _ _ e2, RepFs.step wk1 r⟩
      | lok xs => cases m
      | lst xs => cases m
      | dic xs => cases m
      | dit xs => cases m
      | ins c fs => cases m
  · obtain ⟨v, e1, r⟩ := F.val i a e
    exact ⟨v, e1, RepV.step st2.wk _ _ r⟩
  · obtain ⟨x, ov, e1, e2, e3, nf, e4, e5⟩ := F.cel i l e
    have hl := F.lt e4
    refine ⟨x, ov, e1, by rw [st.ext l hl]; exact e2, e3, by rw [st.ext l hl]; exact nf, (st.cel l ov hl (by simp)).mpr e4, fun a ea => ?_⟩
    obtain ⟨v, z, r⟩ := e5 a ea
    exact ⟨v, z, RepV.step st2.wk _ _ r⟩
/-- THE CALL of a callable, as code -/
theorem run_code {mg : Str → Option Value} {k : Nat} {Φ : Dn} {B : Around} {fa : A} {f : Addr} {us : List Value} {vs : List V} {as : List A} {ku : List (Str × Value)} {kv : List (Str × V)} {ka : List (Nat × A)} {Q : VK} (L : Lib T X.prog X.w X.K X.mg k Φ) (ar : Arnd k B) (hB : B.frames = X.A.frames) (tk : Takes X W) (hN : X.N.Nodup) (I : Inv X pins σ H s) (F : Fm T X cls ρ h loc σ H)
    (rf : RepV T X.K ρ h.n H fa (.ref f)) (r : Vals vs us) (rv : RepVs T X.K ρ h.n H as vs) (kr : KV kv ku) (kf : RepFs T X.K ρ h.n H ka kv) (p : PostE T X cls W ρ h H σ loc Q (Φ fa as ka h)) :
    codeAny (model X.prog X.w) B (.call (.ref f) ⟨us, ku⟩) (fun rr s' => match rr with | .ok (.ret u) => EP X pins σ Q u s' | .ok _ => False | .error e => X.xe e s') s := by
  obtain ⟨G, e0, R, g1⟩ := rebase I F hN
  have nb : Φ fa as ka h ≠ .bad := fun z => by rw [z] at p; exact p
  have e0' : Env0 X.prog X.w X.K X.mg G B X.stack s (dec H) := ⟨hB.trans e0.frames, e0.mod, e0.bs, e0.bsz, e0.funs, e0.frf, e0.hok, e0.bare⟩
  refine codeAny_mono (L G B X.stack s (dec H) fa f us vs as ku kv ka ρ h ar e0' (RepV.step wk_dec _ _ rf) r (RepVs.step wk_dec _ _ rv) kr (RepFs.step wk_dec kf) R (fun a v z => (of_dec z).2 v rfl) nb) fun rr s' hq => ?_
  cases eq : Φ fa as ka h with
  | bad => exact absurd eq nb
  | ok a h' =>
    rw [eq] at hq p
    cases rr with
    | error e => exact hq.elim
    | ok fl =>
      cases fl with
      | ret u =>
        obtain ⟨ρ', H1, v, os, bare, un, hok, ru, st, R', rv'⟩ := hq
        have free : ∀ b o, s.heap.get? b = some o → dec H b = none → H1 b = none := fun b o e n => un.free b o e n (by simp)
        obtain ⟨st2, F2, up⟩ := back I F g1 free st R'
        have cellf : ∀ b v, H b = some (CellO b v) → b ∉ frs X.stack := fun b v z hf => by
          have q := I.stkFree b hf
          rw [z] at q; cases q
        have ok2 : HOk X.prog X.w (rec H H1) s'.heap := rec_ok I.hok hok (fun b o v z e => un.keep b o e (dec_cell z) (cellf b v z) (by simp)) fun b v z => by
          obtain ⟨_, ⟨o, ho⟩, _⟩ := I.hok _ _ z
          exact free b o ho (dec_cell z)
        have un2 : Un (frs X.stack) [] H (rec H H1) s.heap s'.heap :=
          ⟨fun b o e n hb hx => un.keep b o e (dec_none n) hb hx, fun b o e n hb hx => un.slot b o e (dec_none n) hb hx, fun b o e n hx => by rw [rec_ne fun v z => by rw [n] at z; cases z]; exact un.free b o e (dec_none n) hx, un.there,
            fun b xs e => up _ _ (un.tups b xs (dec_ne e fun v z => nomatch z)), fun b o xs e => up _ _ (un.frzs b o xs (dec_ne e fun v z => nomatch z)), fun b ps e => let ⟨m, z⟩ := un.tbls b ps (dec_ne e fun v z => nomatch z); ⟨m, up _ _ z⟩⟩
        have wk1 : Wk ρ' h'.n H1 ρ' h'.n (rec H H1) := ⟨fun _ _ => rfl, Nat.le_refl _, fun b o e _ _ => up b o e⟩
        exact ⟨v, rec H H1, I.call' os un2 ok2 bare fun b z => absurd z (by simp), ru, p ρ' _ v st2 F2 (RepV.step wk1 _ _ rv')⟩
      | next => exact hq.elim
      | brk => exact hq.elim
      | cont => exact hq.elim
  | err c fs h' =>
    rw [eq] at hq p
    cases rr with
    | ok fl => cases fl <;> exact hq.elim
    | error e =>
      refine tk e s' (XE.of_call (E := fun cls' d H' => W cls' d σ H') I (fun cls' d H' z => z) ?_)
      obtain ⟨a, B, H1, cl, d, ea, fl, hok, ub, na, os, bare, ρ', dd, ws, e1, e2, e3, st, R', rf'⟩ := hq
      have free : ∀ b o, s.heap.get? b = some o → dec H b = none → H1 b = none := fun b o e n => ub.free b o e n
      obtain ⟨st2, F2, up⟩ := back I F g1 free st R'
      have cellf : ∀ b v, H b = some (CellO b v) → b ∉ frs X.stack := fun b v z hf => by
        have q := I.stkFree b hf
        rw [z] at q; cases q
      have ok2 : HOk X.prog X.w (rec H H1) B := rec_ok I.hok hok (fun b o v z e => ub.keep b o e (dec_cell z) (cellf b v z)) fun b v z => by
        obtain ⟨_, ⟨o, ho⟩, _⟩ := I.hok _ _ z
        exact free b o ho (dec_cell z)
      have ub2 : UB (frs X.stack) H (rec H H1) s.heap B s'.heap :=
        ⟨fun b o e n hb => ub.keep b o e (dec_none n) hb, ub.slot, fun b o e n => by rw [rec_ne fun v z => by rw [n] at z; cases z]; exact ub.free b o e (dec_none n), ub.there,
          fun b xs e => up _ _ (ub.tups b xs (dec_ne e fun v z => nomatch z)), fun b o xs e => up _ _ (ub.frzs b o xs (dec_ne e fun v z => nomatch z)), fun b ps e => let ⟨m, z⟩ := ub.tbls b ps (dec_ne e fun v z => nomatch z); ⟨m, up _ _ z⟩⟩
      have wk1 : Wk ρ' h'.n H1 ρ' h'.n (rec H H1) := ⟨fun _ _ => rfl, Nat.le_refl _, fun b o e _ _ => up b o e⟩
      have na2 : rec H H1 a = none := by
        rw [rec_ne fun v z => ?_]
        · exact na
        · obtain ⟨⟨u, ⟨o, ho, hd⟩, _⟩, _, _⟩ := I.hok _ _ z
          have q := fl.1 a o (ub.keep a o ho (dec_cell z) (cellf a v z))
          obtain ⟨oe, vs', q1, _, q2⟩ := fl.there
          rw [q] at q1; cases q1
          rw [hd] at q2; cases q2
      refine ⟨a, B, rec H H1, cl, d, ea, fl, ok2, ub2, na2, os, bare, ?_⟩
      show W cl d σ (rec H H1)
      rw [e1, e2]
      exact p ρ' _ dd ws st2 F2 (up _ _ e3) (RepFs.step wk1 rf')
/-- THE CALL of a callable -/
theorem run_call {mg : Str → Option Value} {k : Nat} {Φ : Dn} {fa : A} {f : Addr} {us : List Value} {vs : List V} {as : List A} {ku : List (Str × Value)} {kv : List (Str × V)} {ka : List (Nat × A)} {Q : VK} (L : Lib T X.prog X.w X.K X.mg k Φ) (ar : Arnd k X.A) (tk : Takes X W) (hN : X.N.Nodup) (I : Inv X pins σ H s) (F : Fm T X cls ρ h loc σ H)
    (rf : RepV T X.K ρ h.n H fa (.ref f)) (r : Vals vs us) (rv : RepVs T X.K ρ h.n H as vs) (kr : KV kv ku) (kf : RepFs T X.K ρ h.n H ka kv) (p : PostE T X cls W ρ h H σ loc Q (Φ fa as ka h)) : wpAny (model X.prog X.w) X.A (call (.ref f) us ku) (EP X pins σ Q) X.xe s := by
  refine wpAny_call (codeAny_mono (run_code (mg := mg) L ar rfl tk hN I F rf r rv kr kf p) fun rr s' hq => ?_)
  cases rr with
  | error e => exact hq
  | ok fl => cases fl with
    | ret u => exact hq
    | next => exact hq.elim
    | brk => exact hq.elim
    | cont => exact hq.elim
end
end Zk
end
section
set_option Elab.async false
set_option linter.all false
set_option maxRecDepth 100000
/-! Zk4: statements; a def by its body. -/
namespace Zk
open PySem PySem.Spec PyProof.Rows L2 NdefX LamX

/-- how a statement's plain end is met -/
def FlowIs (T : Tb) (K : PySem.W.Frag) (ρ : Nat → Addr) (n : Nat) (H : Hp) : Fl → Flow → Prop
  | .nx, .next => True
  | .bk, .brk => True
  | .ct, .cont => True
  | .rt a, .ret u => ∃ v, RelV v u ∧ RepV T K ρ n H a v
  | _, _ => False
def SQ (T : Tb) (X : Cx) (cls ex : List (Option Nat)) (pins : List (Addr × Obj)) (ρ : Nat → Addr) (h : Hq) (H : Hp) : RS → Flow → Shared → Prop
  | .ok f L' h', fl, s' => ∃ (ρ' : Nat → Addr) (σ' : L2.St) (H' : Hp), L2.Inv X pins σ' H' s' ∧ Step ex ρ h H ρ' h' H' ∧ Fm T X cls ρ' h' L' σ' H' ∧ FlowIs T X.K ρ' h'.n H' f fl
  | _, _, _ => False
/-- what an exception's wish is asked -/
def EW (T : Tb) (X : Cx) (cls ex : List (Option Nat)) (W : WX) (ρ : Nat → Addr) (h : Hq) (H : Hp) : RS → Prop
  | .ok _ _ _ => True
  | .err c fs L' h' => ∀ (ρ' : Nat → Addr) (σ' : L2.St) (H' : Hp) (d : Addr) (ws : List (Str × V)), Step ex ρ h H ρ' h' H' → Fm T X cls ρ' h' L' σ' H' → H' d = some (.xd ws) → RepFs T X.K ρ' h'.n H' fs ws → W (.ref (T.cA c)) (some d) σ' H'
  | .bad => False
def SS (T : Tb) (X : Cx) (cls ex : List (Option Nat)) (W : WX) (st : Stmt) (m : MS) : Prop :=
  ∀ (pins : List (Addr × Obj)) (s : Shared) (σ : L2.St) (H : Hp) (ρ : Nat → Addr) (h : Hq) (L : Lc), L2.Inv X pins σ H s → Fm T X cls ρ h L σ H → EW T X cls ex W ρ h H (m L h) →
    wpAny (model X.prog X.w) X.A (exec st X.env) (SQ T X cls ex pins ρ h H (m L h)) X.xe s
def SB (T : Tb) (X : Cx) (cls ex : List (Option Nat)) (W : WX) (st : List Stmt) (m : MS) : Prop :=
  ∀ (pins : List (Addr × Obj)) (s : Shared) (σ : L2.St) (H : Hp) (ρ : Nat → Addr) (h : Hq) (L : Lc), L2.Inv X pins σ H s → Fm T X cls ρ h L σ H → EW T X cls ex W ρ h H (m L h) →
    wpAny (model X.prog X.w) X.A (execs st X.env) (SQ T X cls ex pins ρ h H (m L h)) X.xe s

/-! ### the plain parts -/
def sSeq (a b : MS) : MS := fun L h => match a L h with
  | .ok .nx L1 h1 => b L1 h1
  | r => r
def sNil : MS := fun L h => .ok .nx L h
def RS.ofE (L : Lc) (r : Res A) (f : A → Hq → RS) : RS := match r with
  | .ok a h => f a h
  | .err c fs h => .err c fs L h
  | .bad => .bad
def sRet (e : ME) : MS := fun L h => RS.ofE L (e L h) fun a h1 => .ok (.rt a) L h1
def sRetN : MS := fun L h => .ok (.rt .non) L h
def sExp (e : ME) : MS := fun L h => RS.ofE L (e L h) fun _ h1 => .ok .nx L h1
def sSet (i : Nat) (e : ME) : MS := fun L h => RS.ofE L (e L h) fun a h1 => .ok .nx (L.set i (some a)) h1
/-- a name whose cell is l -/
def sSetC (i l : Nat) (e : ME) : MS := fun L h => RS.ofE L (e L h) fun a h1 => .ok .nx (L.set i (some a)) (h1.upd l (.cel (some a)))
def truth (h : Hq) : A → Option Bool
  | .bl b => some b
  | .non => some false
  | .int i => some (i != 0)
  | .str s => if s.length ≤ SZ then some (s.length != 0) else none
  | .tup xs => some (!xs.isEmpty)
  | .ref l => match h.get l with
    | some (.lst xs) => some (!xs.isEmpty)
    | some (.rol xs) => some (!xs.isEmpty)
    | some (.dic xs) => some (!xs.isEmpty)
    | _ => none
  | _ => none
abbrev MT := Lc → Hq → Res Bool
def sIf (t : MT) (a b : MS) : MS := fun L h => match t L h with
  | .ok true h1 => a L h1
  | .ok false h1 => b L h1
  | .err c fs h1 => .err c fs L h1
  | .bad => .bad
section
variable {T : Tb} {X : Cx} {cls ex : List (Option Nat)} {W : WX}
theorem EW.of {ρ ρ1 : Nat → Addr} {h h1 : Hq} {H H1 : Hp} (st : Step ex ρ h H ρ1 h1 H1) {r : RS} (p : EW T X cls ex W ρ h H r) : EW T X cls ex W ρ1 h1 H1 r := by
  cases r with
  | ok f L h' => trivial
  | err c fs L h' => exact fun ρ' σ' H' d ws s F e rf => p ρ' σ' H' d ws (st.trans s) F e rf
  | bad => exact p
theorem SQ.of {pins : List (Addr × Obj)} {ρ ρ1 : Nat → Addr} {h h1 : Hq} {H H1 : Hp} (st : Step ex ρ h H ρ1 h1 H1) {r : RS} {fl : Flow} {s' : Shared} (q : SQ T X cls ex pins ρ1 h1 H1 r fl s') : SQ T X cls ex pins ρ h H r fl s' := by
  cases r with
  | ok f L h' =>
    obtain ⟨ρ', σ', H', I, s, F, k⟩ := q
    exact ⟨ρ', σ', H', I, st.trans s, F, k⟩
  | err c fs L h' => exact q
  | bad => exact q
/-- an expression within a statement -/
theorem run_e {e : Expr} {m : ME} {pins : List (Addr × Obj)} {s : Shared} {σ : L2.St} {H : Hp} {ρ : Nat → Addr} {h : Hq} {L : Lc} {f : A → Hq → RS} {Q : Value → Shared → Prop} (he : SE T X cls W e m) (I : L2.Inv X pins σ H s) (F : Fm T X cls ρ h L σ H)
    (ew : EW T X cls ex W ρ h H (RS.ofE L (m L h) f))
    (k : ∀ (a : A) (h1 : Hq) (ρ1 : Nat → Addr) (H1 : Hp) (v : V) (u : Value) (s1 : Shared), m L h = .ok a h1 → L2.Inv X pins σ H1 s1 → Step ex ρ h H ρ1 h1 H1 → Fm T X cls ρ1 h1 L σ H1 → RepV T X.K ρ1 h1.n H1 a v → RelV v u → EW T X cls ex W ρ1 h1 H1 (f a h1) → Q u s1) :
    wpAny (model X.prog X.w) X.A (eval e X.env) Q X.xe s := by
  refine thn (he.run pins s σ H (fun v H1 => ∃ (a : A) (h1 : Hq) (ρ1 : Nat → Addr), m L h = .ok a h1 ∧ Step ex ρ h H ρ1 h1 H1 ∧ Fm T X cls ρ1 h1 L σ H1 ∧ RepV T X.K ρ1 h1.n H1 a v ∧ EW T X cls ex W ρ1 h1 H1 (f a h1)) I ⟨ρ, h, L, F, ?_⟩) fun u s1 ⟨v, H1, I1, ru, a, h1, ρ1, e1, st, F1, rv, ew1⟩ => k a h1 ρ1 H1 v u s1 e1 I1 st F1 rv ru ew1
  cases e : m L h with
  | ok a h1 =>
    rw [e] at ew
    exact fun ρ' H' v s F' r => ⟨a, h1, ρ', rfl, s.wide, F', r, EW.of s.wide ew⟩
  | err c fs h1 =>
    rw [e] at ew
    exact fun ρ' H' d ws s F' e' r => ew ρ' σ H' d ws s.wide F' e' r
  | bad => rw [e] at ew; exact ew
theorem Fm.refl' {ρ : Nat → Addr} {h : Hq} {loc : Lc} {σ : L2.St} {H : Hp} (F : Fm T X cls ρ h loc σ H) : Step ex ρ h H ρ h H := F.refl.wide
theorem b_nil : SB T X cls ex W [] sNil := fun pins s σ H ρ h L I F _ => wpAny_execs_nil ⟨ρ, σ, H, I, F.refl', F, trivial⟩
theorem b_cons {st : Stmt} {rest : List Stmt} {m r : MS} (h1 : SS T X cls ex W st m) (h2 : SB T X cls ex W rest r) : SB T X cls ex W (st :: rest) (sSeq m r) := by
  intro pins s σ H ρ h L I F ew
  have ew1 : EW T X cls ex W ρ h H (m L h) := by
    unfold sSeq at ew
    cases e : m L h with
    | ok f L1 h1 => trivial
    | err c fs L1 h1 => rw [e] at ew; exact ew
    | bad => rw [e] at ew; exact ew
  have key : ∀ (L1 : Lc) (h1 : Hq), m L h = .ok .nx L1 h1 → sSeq m r L h = r L1 h1 := fun L1 h1 e => by unfold sSeq; rw [e]
  refine wpAny_execs_cons (thn (h1 pins s σ H ρ h L I F ew1) fun fl s1 q => ?_)
  unfold sSeq at ew ⊢
  cases e : m L h with
  | ok f L1 h1 =>
    rw [e] at q ew
    obtain ⟨ρ1, σ1, H1, I1, st1, F1, fi⟩ := q
    cases f with
    | nx =>
      cases fl with
      | next => exact thn (h2 pins s1 σ1 H1 ρ1 h1 L1 I1 F1 (EW.of st1 ew)) fun _ _ q => SQ.of st1 q
      | brk => exact fi.elim
      | cont => exact fi.elim
      | ret u => exact fi.elim
    | bk =>
      cases fl with
      | brk => exact ⟨ρ1, σ1, H1, I1, st1, F1, trivial⟩
      | next => exact fi.elim
      | cont => exact fi.elim
      | ret u => exact fi.elim
    | ct =>
      cases fl with
      | cont => exact ⟨ρ1, σ1, H1, I1, st1, F1, trivial⟩
      | next => exact fi.elim
      | brk => exact fi.elim
      | ret u => exact fi.elim
    | rt a =>
      cases fl with
      | ret u => exact ⟨ρ1, σ1, H1, I1, st1, F1, fi⟩
      | next => exact fi.elim
      | brk => exact fi.elim
      | cont => exact fi.elim
  | err c fs L1 h1 => rw [e] at q; exact q.elim
  | bad => rw [e] at q; exact q.elim
theorem s_ret {e : Expr} {m : ME} {pos : Pos} (he : SE T X cls W e m) : SS T X cls ex W (.Return (some e) pos) (sRet m) := by
  intro pins s σ H ρ h L I F ew
  refine wpAny_Return_some (run_e he I F ew fun a h1 ρ1 H1 v u s1 e1 I1 st F1 rv ru _ => ?_)
  unfold sRet; rw [e1]
  exact ⟨ρ1, σ, H1, I1, st, F1, v, ru, rv⟩
theorem s_retN {pos : Pos} : SS T X cls ex W (.Return none pos) sRetN := fun pins s σ H ρ h L I F ew => wpAny_Return_none ⟨ρ, σ, H, I, F.refl', F, .non, rfl, rfl⟩
theorem s_pass {pos : Pos} : SS T X cls ex W (.Pass pos) sNil := fun pins s σ H ρ h L I F ew => wpAny_Pass ⟨ρ, σ, H, I, F.refl', F, trivial⟩
def sBrk : MS := fun L h => .ok .bk L h
def sCnt : MS := fun L h => .ok .ct L h
theorem s_brk {pos : Pos} : SS T X cls ex W (.Break pos) sBrk := fun pins s σ H ρ h L I F ew => wpAny_Break ⟨ρ, σ, H, I, F.refl', F, trivial⟩
theorem s_cnt {pos : Pos} : SS T X cls ex W (.Continue pos) sCnt := fun pins s σ H ρ h L I F ew => wpAny_Continue ⟨ρ, σ, H, I, F.refl', F, trivial⟩
theorem s_exp {e : Expr} {m : ME} {pos : Pos} (he : SE T X cls W e m) (hs : swapsWith e none pos.line X.env = pure false := by rfl) : SS T X cls ex W (.Expr e pos) (sExp m) := by
  intro pins s σ H ρ h L I F ew
  refine wpAny_Expr_any (run_e he I F ew fun a h1 ρ1 H1 v u s1 e1 I1 st F1 rv ru _ => ?_) I.quiet hs
  unfold sExp; rw [e1]
  exact ⟨ρ1, σ, H1, I1, st, F1, trivial⟩
/-! ### targets -/
abbrev MG := A → MS
def gNm (i : Nat) : MG := fun a L h => .ok .nx (L.set i (some a)) h
def gNmC (i l : Nat) : MG := fun a L h => .ok .nx (L.set i (some a)) (h.upd l (.cel (some a)))
def SG (T : Tb) (X : Cx) (cls ex : List (Option Nat)) (W : WX) (tg : Expr) (g : MG) : Prop :=
  ∀ (pins : List (Addr × Obj)) (s : Shared) (σ : L2.St) (H : Hp) (ρ : Nat → Addr) (h : Hq) (L : Lc) (a : A) (v : V) (u : Value), L2.Inv X pins σ H s → Fm T X cls ρ h L σ H → RepV T X.K ρ h.n H a v → RelV v u → EW T X cls ex W ρ h H (g a L h) →
    wpAny (model X.prog X.w) X.A (assign tg X.env u) (fun _ s' => SQ T X cls ex pins ρ h H (g a L h) .next s') X.xe s
theorem Fm.setL {ρ : Nat → Addr} {h : Hq} {L : Lc} {σ : L2.St} {H : Hp} {i : Nat} {x : Str} {a : A} {v : V} (F : Fm T X cls ρ h L σ H) (hl : σ.length = X.N.length) (hi : X.N[i]? = some x) (hk : X.env.scope.names.lookup x = some .local) (r : RepV T X.K ρ h.n H a v) : Fm T X cls ρ h (L.set i (some a)) (σ.set i (some v)) H := by
  have hlt : i < X.N.length := (List.getElem?_eq_some_iff.mp hi).1
  refine ⟨F.obj, F.inj, by rw [List.length_set]; exact F.len, fun j b e => ?_, fun j l e => ?_, F.tab⟩
  · by_cases q : i = j
    · subst q
      rw [List.getElem?_set_self (by rw [F.len]; exact hlt)] at e
      cases e
      exact ⟨v, by rw [List.getElem?_set_self (by rw [hl]; exact hlt)], r⟩
    · rw [List.getElem?_set_ne q] at e
      obtain ⟨w, e1, r1⟩ := F.val j b e
      exact ⟨w, by rw [List.getElem?_set_ne q]; exact e1, r1⟩
  · obtain ⟨y, ov, e1, e2, e3, nf, e4, e5⟩ := F.cel j l e
    refine ⟨y, ov, e1, e2, e3, nf, e4, fun a ea => ?_⟩
    obtain ⟨w, z, r1⟩ := e5 a ea
    refine ⟨w, ?_, r1⟩
    rw [List.getElem?_set_ne fun q => ?_]
    · exact z
    · subst q
      rw [hi] at e1; cases e1
      rcases e3 with k | k <;> rw [hk] at k <;> cases k
theorem g_nm {i : Nat} {x : Str} {pos : Pos} (hN : X.N.Nodup) (hi : X.N[i]? = some x) (hk : X.env.scope.names.lookup x = some .local) : SG T X cls ex W (.Name x pos) (gNm i) := by
  intro pins s σ H ρ h L a v u I F rv ru _
  exact wpAny_assign_Name (store_ok I hN hi (.inl hk) ru (fun s' I' => ⟨ρ, _, H, I', F.refl', F.setL I.len hi hk rv, trivial⟩) (.inr hk))
/-- a name of the def that inner defs read -/
theorem Fm.setC {ρ : Nat → Addr} {h : Hq} {L : Lc} {σ : L2.St} {H : Hp} {i l : Nat} {x : Str} {a : A} {v : V} (F : Fm T X cls ρ h L σ H) (hN : X.N.Nodup) (hl : σ.length = X.N.length) (hi : X.N[i]? = some x) (hc : cls[i]? = some (some l)) (memc : some l ∈ ex) (inj : ∀ y c, X.env.cells.lookup x = some c → X.env.cells.lookup y = some c → x = y) (r : RepV T X.K ρ h.n H a v) :
    Fm T X cls ρ (h.upd l (.cel (some a))) (L.set i (some a)) (σ.set i (some v)) H ∧ Step ex ρ h H ρ (h.upd l (.cel (some a))) H := by
  have hlt : i < X.N.length := (List.getElem?_eq_some_iff.mp hi).1
  obtain ⟨x', ov0, f1, f2, f3, f4, f5, _⟩ := F.cel i l hc
  rw [hi] at f1; cases f1
  have wk : Wk ρ h.n H ρ h.n H := ⟨fun _ _ => rfl, Nat.le_refl _, fun _ _ e _ _ => e⟩
  have old : ∀ j o, (h.upd l (.cel (some a))).get j = some o → isMut o = true → h.get j = some o := fun j o e m => by
    rw [Hq.get_upd] at e
    split at e
    · cases e; cases m
    · exact e
  refine ⟨⟨fun j o e => ?_, fun j j' o o' e e' m m' q => F.inj j j' o o' (old j o e m) (old j' o' e' m') m m' q, by rw [List.length_set]; exact F.len, fun j b e => ?_, fun j l' e => ?_, F.tab⟩, ⟨fun _ _ => rfl, Nat.le_refl _, fun _ _ e _ => e, fun j ov hj he => ?_, fun j y hj he e => ?_⟩⟩
  · rw [Hq.get_upd] at e
    split at e
    · rename_i q; subst q
      exact ⟨F.lt f5, fun z => absurd (List.mem_of_getElem? hc) z⟩
    · exact F.obj j o e
  · by_cases q : i = j
    · subst q
      rw [List.getElem?_set_self (by rw [F.len]; exact hlt)] at e
      cases e
      exact ⟨v, by rw [List.getElem?_set_self (by rw [hl]; exact hlt)], r⟩
    · rw [List.getElem?_set_ne q] at e
      obtain ⟨w, e1, r1⟩ := F.val j b e
      exact ⟨w, by rw [List.getElem?_set_ne q]; exact e1, r1⟩
  · obtain ⟨y, ov, e1, e2, e3, nf, e4, e5⟩ := F.cel j l' e
    by_cases q : l' = l
    · subst q
      have exy := inj y _ f2 e2
      subst exy
      have ij : i = j := nodup_ix hN hi e1
      subst ij
      refine ⟨x, some a, e1, e2, e3, nf, by rw [Hq.get_upd, if_pos rfl], fun b eb => ?_⟩
      cases eb
      exact ⟨v, by rw [List.getElem?_set_self (by rw [hl]; exact hlt)], r⟩
    · refine ⟨y, ov, e1, e2, e3, nf, by rw [Hq.get_upd, if_neg q]; exact e4, fun b eb => ?_⟩
      obtain ⟨w, z, r1⟩ := e5 b eb
      refine ⟨w, ?_, r1⟩
      rw [List.getElem?_set_ne fun z => ?_]
      · exact z
      · subst z
        rw [hc] at e; cases e; exact q rfl
  · rw [Hq.get_upd, if_neg fun z => he (by rw [z]; exact memc)]
  · rw [Hq.get_upd, if_neg fun z => he (by rw [z]; exact memc)] at e
    exact absurd (Nat.lt_of_lt_of_le (F.lt e) hj) (Nat.lt_irrefl _)
theorem g_nmC {i l : Nat} {x : Str} {pos : Pos} (hN : X.N.Nodup) (hi : X.N[i]? = some x) (hk : X.env.scope.names.lookup x = some .cell) (hf : X.fn x = true) (hc : cls[i]? = some (some l)) (hx : some l ∈ ex) : SG T X cls ex W (.Name x pos) (gNmC i l) := by
  intro pins s σ H ρ h L a v u I F rv ru _
  obtain ⟨F2, st⟩ := F.setC hN I.len hi hc hx (fun y c e1 e2 => I.ok.inj x y c e1 e2) rv
  exact wpAny_assign_Name (store_ok I hN hi (.inr hk) ru (fun s' I' => ⟨ρ, _, H, I', st, F2, trivial⟩) (.inl hf))
/-- target = value -/
def sAsg (g : MG) (e : ME) : MS := fun L h => RS.ofE L (e L h) fun a h1 => g a L h1
theorem s_asg {tg e : Expr} {m : ME} {g : MG} {pos : Pos} (he : SE T X cls W e m) (hg : SG T X cls ex W tg g) (hn : ∀ a L h f L' h', g a L h = .ok f L' h' → f = .nx) (hs : swapsWithSole [tg] e pos.line X.env = pure false := by rfl) (hw : swappedStores [tg] e X.env = pure none := by rfl)
    (hst : (assignEach [tg] X.env).map (·.2) = [assign tg X.env] := by rfl) : SS T X cls ex W (.Assign [tg] e pos) (sAsg g m) := by
  intro pins s σ H ρ h L I F ew
  refine wpAny_Assign_stores (run_e he I F ew fun a h1 ρ1 H1 v u s1 e1 I1 st F1 rv ru ew1 => ?_) hs hw
  rw [hst]
  have e2 : sAsg g m L h = g a L h1 := by unfold sAsg; rw [e1]; rfl
  rw [e2]
  exact thn (hg pins s1 σ H1 ρ1 h1 L a v u I1 F1 rv ru ew1) fun _ _ q => SQ.of st q
end
end Zk
end
section
set_option Elab.async false
set_option linter.all false
set_option maxRecDepth 100000
/-! Zk5: tests, if, loops. -/
namespace Zk
open PySem PySem.Spec PyProof.Rows L2 NdefX LamX

def PostT (T : Tb) (X : Cx) (cls : List (Option Nat)) (W : WX) (ρ : Nat → Addr) (h : Hq) (H : Hp) (σ : L2.St) (loc : Lc) (Q : Bool → Hp → Prop) : Res Bool → Prop
  | .ok b h' => ∀ (ρ' : Nat → Addr) (H' : Hp), Step [] ρ h H ρ' h' H' → Fm T X cls ρ' h' loc σ H' → Q b H'
  | .err c fs h' => ErrW T X cls W ρ h H σ loc c fs h'
  | .bad => False
def rdT (T : Tb) (X : Cx) (cls : List (Option Nat)) (W : WX) (m : MT) : TT := fun σ H Q => ∃ ρ h loc, Fm T X cls ρ h loc σ H ∧ PostT T X cls W ρ h H σ loc Q (m loc h)
abbrev ST (T : Tb) (X : Cx) (cls : List (Option Nat)) (W : WX) (e : Expr) (m : MT) : Prop := PT X e (rdT T X cls W m)
abbrev SW (T : Tb) (X : Cx) (cls : List (Option Nat)) (W : WX) (e : Expr) (m : MT) : Prop := PW X e (rdT T X cls W m)
theorem PT.weak {X : Cx} {e : Expr} {t t' : TT} (h : PT X e t) (w : ∀ σ H Q, t' σ H Q → t σ H Q) : PT X e t' := ⟨fun pins s σ H Q I q => h.run pins s σ H Q I (w σ H Q q)⟩
theorem PW.weak {X : Cx} {e : Expr} {t t' : TT} (h : PW X e t) (w : ∀ σ H Q, t' σ H Q → t σ H Q) : PW X e t' := ⟨fun wh pins s σ H Q I q => h.run wh pins s σ H Q I (w σ H Q q)⟩
def tOfE (e : ME) : MT := fun L h => (e L h).bind fun a h1 => match truth h1 a with
  | some b => .ok b h1
  | none => .bad
def tNot (t : MT) : MT := fun L h => (t L h).bind fun b h1 => .ok (!b) h1
def tAnd (t u : MT) : MT := fun L h => (t L h).bind fun b h1 => if b = true then u L h1 else .ok false h1
def tOr (t u : MT) : MT := fun L h => (t L h).bind fun b h1 => if b = true then .ok true h1 else u L h1
section
variable {T : Tb} {X : Cx} {cls ex : List (Option Nat)} {W : WX} {ρ ρ1 : Nat → Addr} {h h1 : Hq} {H H1 : Hp} {σ : L2.St} {loc : Lc}
theorem PostT.of (st : Step [] ρ h H ρ1 h1 H1) {Q : Bool → Hp → Prop} {r : Res Bool} (p : PostT T X cls W ρ h H σ loc Q r) : PostT T X cls W ρ1 h1 H1 σ loc Q r := by
  cases r with
  | ok a h' => exact fun ρ' H' s F => p ρ' H' (st.trans s) F
  | err c fs h' => exact ErrW.of st p
  | bad => exact p
theorem PostT.bindE {r : Res A} {f : A → Hq → Res Bool} {Q : Bool → Hp → Prop} {Q1 : VK} (p : PostT T X cls W ρ h H σ loc Q (r.bind f))
    (k : ∀ (a : A) (h1 : Hq) (ρ1 : Nat → Addr) (H1 : Hp) (v : V), Step [] ρ h H ρ1 h1 H1 → Fm T X cls ρ1 h1 loc σ H1 → RepV T X.K ρ1 h1.n H1 a v → PostT T X cls W ρ1 h1 H1 σ loc Q (f a h1) → Q1 v H1) :
    PostE T X cls W ρ h H σ loc Q1 r := by
  cases r with
  | ok a h1 => exact fun ρ1 H1 v s F e => k a h1 ρ1 H1 v s F e (PostT.of s p)
  | err c fs h' => exact p
  | bad => exact p
theorem PostT.bindT {r : Res Bool} {f : Bool → Hq → Res Bool} {Q : Bool → Hp → Prop} {Q1 : Bool → Hp → Prop} (p : PostT T X cls W ρ h H σ loc Q (r.bind f))
    (k : ∀ (a : Bool) (h1 : Hq) (ρ1 : Nat → Addr) (H1 : Hp), Step [] ρ h H ρ1 h1 H1 → Fm T X cls ρ1 h1 loc σ H1 → PostT T X cls W ρ1 h1 H1 σ loc Q (f a h1) → Q1 a H1) :
    PostT T X cls W ρ h H σ loc Q1 r := by
  cases r with
  | ok a h1 => exact fun ρ1 H1 s F => k a h1 ρ1 H1 s F (PostT.of s p)
  | err c fs h' => exact p
  | bad => exact p
theorem PostE.bindT {r : Res Bool} {f : Bool → Hq → Res A} {Q : VK} {Q1 : Bool → Hp → Prop} (p : PostE T X cls W ρ h H σ loc Q (r.bind f))
    (k : ∀ (a : Bool) (h1 : Hq) (ρ1 : Nat → Addr) (H1 : Hp), Step [] ρ h H ρ1 h1 H1 → Fm T X cls ρ1 h1 loc σ H1 → PostE T X cls W ρ1 h1 H1 σ loc Q (f a h1) → Q1 a H1) :
    PostT T X cls W ρ h H σ loc Q1 r := by
  cases r with
  | ok a h1 => exact fun ρ1 H1 s F => k a h1 ρ1 H1 s F (PostE.of s p)
  | err c fs h' => exact p
  | bad => exact p
theorem PostT.here {Q : Bool → Hp → Prop} {b : Bool} {h' : Hq} (p : PostT T X cls W ρ h' H σ loc Q (.ok b h')) (F : Fm T X cls ρ h' loc σ H) : Q b H := p ρ H F.refl F
/-- truth as the layer has it -/
theorem truth_ok (F : Fm T X cls ρ h loc σ H) {a : A} {v : V} (r : RepV T X.K ρ h.n H a v) {b : Bool} (e : truth h a = some b) : TruV X.K v H b := by
  have em : ∀ {xs : List A} {vs : List V}, RepVs T X.K ρ h.n H xs vs → xs.isEmpty = vs.isEmpty := fun {xs vs} r => by
    have q := RepVs.length r
    cases xs <;> cases vs <;> first | rfl | cases q
  cases a with
  | non => cases r; unfold truth at e; cases e; rfl
  | bl c => cases r; unfold truth at e; cases e; rfl
  | int i => cases r; unfold truth at e; cases e; rfl
  | str s =>
    cases r
    have e : (if s.length ≤ SZ then some (s.length != 0) else none) = some b := e
    split at e
    · rename_i hz
      cases e
      refine ⟨by rw [← sz_eq]; exact hz, ?_⟩
      generalize s.length = n
      cases n with
      | zero => rfl
      | succ n => show ((n + 1 != 0) = ((((n + 1 : Nat) : Int)) != 0)); rw [bne_iff_ne.mpr (Nat.succ_ne_zero n), bne_iff_ne.mpr (by omega)]
    · cases e
  | tup xs =>
    simp only [RepV] at r
    obtain ⟨p, vs, rfl, q, r⟩ := r
    unfold truth at e; cases e
    exact .inr (.inl ⟨vs, q, by rw [em r]⟩)
  | ref l =>
    simp only [RepV] at r
    obtain ⟨rfl, hl⟩ := r
    cases eo : h.get l with
    | none => simp only [truth, eo] at e; cases e
    | some o =>
      simp only [truth, eo] at e
      cases o with
      | lst xs =>
        cases e
        obtain ⟨vs, q, r⟩ := F.rep eo rfl
        exact .inl ⟨vs, SqL.of q, by rw [em r]⟩
      | rol xs =>
        cases e
        by_cases hc : some l ∈ cls
        · obtain ⟨i, hi⟩ := List.mem_iff_getElem?.mp hc
          obtain ⟨_, ov, _, _, _, _, z, _⟩ := F.cel i l hi
          rw [eo] at z; cases z
        · obtain ⟨vs, q, r⟩ := (F.obj l _ eo).2 hc
          exact .inl ⟨vs, (by rcases q with ⟨o, q⟩ | q; exact .inl (.inr ⟨o, q⟩); exact .inr q), by rw [em r]⟩
      | dic xs =>
        cases e
        obtain ⟨vs, q, r⟩ := F.rep eo rfl
        exact .inr (.inr ⟨vs, q, by have z := Paired.length r; cases xs <;> cases vs <;> first | rfl | cases z⟩)
      | dit xs => cases e
      | ins c fs => cases e
      | cel v => cases e
      | exc c fs => cases e
      | lok xs => cases e
  | fn k => unfold truth at e; cases e
  | clo k cs => unfold truth at e; cases e
  | ty t => unfold truth at e; cases e
theorem t_val {e : Expr} {m : ME} (he : SE T X cls W e m) (hp : ∀ whole, isTrue e X.env whole = (do let v ← whole; standAt e.pos; holding [v] (truthy v)) := by intro _; rfl) : ST T X cls W e (tOfE m) := by
  refine PT.weak (pt_truth he hp) fun σ H Q ⟨ρ, h, loc, F, p⟩ => ⟨ρ, h, loc, F, PostT.bindE p fun a h1 ρ1 H1 v s1 F1 r1 p1 => ?_⟩
  cases e : truth h1 a with
  | none => rw [e] at p1; exact p1.elim
  | some b => rw [e] at p1; exact ⟨b, truth_ok F1 r1 e, p1.here F1⟩
theorem t_not {e : Expr} {m : MT} {pos : Pos} (he : ST T X cls W e m) : ST T X cls W (.UnaryOp .Not e pos) (tNot m) :=
  PT.weak (pt_not he) fun σ H Q ⟨ρ, h, loc, F, p⟩ => ⟨ρ, h, loc, F, PostT.bindT p fun a h1 ρ1 H1 s1 F1 p1 => p1.here F1⟩
theorem w_and1 {e : Expr} {m : MT} {pos : Pos} (he : ST T X cls W e m) : SW T X cls W (.BoolOp .And [e] pos) m := pw_and1 he
theorem w_or1 {e : Expr} {m : MT} {pos : Pos} (he : ST T X cls W e m) : SW T X cls W (.BoolOp .Or [e] pos) m := pw_or1 he
theorem w_and {e b : Expr} {rest : List Expr} {m r : MT} {pos : Pos} (he : ST T X cls W e m) (hr : SW T X cls W (.BoolOp .And (b :: rest) pos) r) : SW T X cls W (.BoolOp .And (e :: b :: rest) pos) (tAnd m r) := by
  refine PW.weak (pw_and he hr) fun σ H Q ⟨ρ, h, loc, F, p⟩ => ⟨ρ, h, loc, F, PostT.bindT p fun a h1 ρ1 H1 s1 F1 p1 => ?_⟩
  cases a with
  | true => exact ⟨ρ1, h1, loc, F1, p1⟩
  | false => exact p1.here F1
theorem w_or {e b : Expr} {rest : List Expr} {m r : MT} {pos : Pos} (he : ST T X cls W e m) (hr : SW T X cls W (.BoolOp .Or (b :: rest) pos) r) : SW T X cls W (.BoolOp .Or (e :: b :: rest) pos) (tOr m r) := by
  refine PW.weak (pw_or he hr) fun σ H Q ⟨ρ, h, loc, F, p⟩ => ⟨ρ, h, loc, F, PostT.bindT p fun a h1 ρ1 H1 s1 F1 p1 => ?_⟩
  cases a with
  | true => exact p1.here F1
  | false => exact ⟨ρ1, h1, loc, F1, p1⟩
/-- a test within a statement -/
theorem run_t {e : Expr} {m : MT} {pins : List (Addr × Obj)} {s : Shared} {σ : L2.St} {H : Hp} {ρ : Nat → Addr} {h : Hq} {L : Lc} {f : Bool → Hq → RS} {Q : Bool → Shared → Prop} (he : ST T X cls W e m) (I : L2.Inv X pins σ H s) (F : Fm T X cls ρ h L σ H)
    (ew : EW T X cls ex W ρ h H (match m L h with | .ok b h1 => f b h1 | .err c fs h1 => .err c fs L h1 | .bad => .bad))
    (k : ∀ (b : Bool) (h1 : Hq) (ρ1 : Nat → Addr) (H1 : Hp) (s1 : Shared), m L h = .ok b h1 → L2.Inv X pins σ H1 s1 → Step ex ρ h H ρ1 h1 H1 → Fm T X cls ρ1 h1 L σ H1 → EW T X cls ex W ρ1 h1 H1 (f b h1) → Q b s1) :
    wpAny (model X.prog X.w) X.A (isTrue e X.env (eval e X.env)) Q X.xe s := by
  refine thn (he.run pins s σ H (fun b H1 => ∃ (h1 : Hq) (ρ1 : Nat → Addr), m L h = .ok b h1 ∧ Step ex ρ h H ρ1 h1 H1 ∧ Fm T X cls ρ1 h1 L σ H1 ∧ EW T X cls ex W ρ1 h1 H1 (f b h1)) I ⟨ρ, h, L, F, ?_⟩) fun b s1 ⟨H1, I1, h1, ρ1, e1, st, F1, ew1⟩ => k b h1 ρ1 H1 s1 e1 I1 st F1 ew1
  cases e : m L h with
  | ok b h1 =>
    rw [e] at ew
    exact fun ρ' H' s F' => ⟨h1, ρ', rfl, s.wide, F', EW.of s.wide ew⟩
  | err c fs h1 =>
    rw [e] at ew
    exact fun ρ' H' d ws s F' e' r => ew ρ' σ H' d ws s.wide F' e' r
  | bad => rw [e] at ew; exact ew
theorem s_if {c : Expr} {a b : List Stmt} {t : MT} {ma mb : MS} {pos : Pos} (hc : ST T X cls W c t) (ha : SB T X cls ex W a ma) (hb : SB T X cls ex W b mb) : SS T X cls ex W (.If c a b pos) (sIf t ma mb) := by
  intro pins s σ H ρ h L I F ew
  have e0 : sIf t ma mb L h = (match t L h with | .ok b h1 => (if b = true then ma L h1 else mb L h1) | .err c fs h1 => .err c fs L h1 | .bad => .bad) := by
    unfold sIf
    cases t L h with
    | ok b h1 => cases b <;> rfl
    | err c fs h1 => rfl
    | bad => rfl
  rw [e0] at ew ⊢
  refine wpAny_If (run_t (f := fun b h1 => if b = true then ma L h1 else mb L h1) hc I F ew fun d h1 ρ1 H1 s1 e1 I1 st F1 ew1 => ?_)
  rw [e1]
  cases d with
  | true => exact thn (ha pins s1 σ H1 ρ1 h1 L I1 F1 ew1) fun _ _ q => SQ.of st q
  | false => exact thn (hb pins s1 σ H1 ρ1 h1 L I1 F1 ew1) fun _ _ q => SQ.of st q

/-! ### while -/
def sWhile (t : MT) (body : MS) : Nat → MS
  | 0, _, _ => .bad
  | f + 1, L, h => match t L h with
    | .ok true h1 => (match body L h1 with
      | .ok .nx L2 h2 => sWhile t body f L2 h2
      | .ok .ct L2 h2 => sWhile t body f L2 h2
      | .ok .bk L2 h2 => .ok .nx L2 h2
      | r => r)
    | .ok false h1 => .ok .nx L h1
    | .err c fs h1 => .err c fs L h1
    | .bad => .bad
theorem EW.while1 {t : MT} {body : MS} {f : Nat} {L : Lc} (ew : EW T X cls ex W ρ h H (sWhile t body (f + 1) L h)) :
    EW T X cls ex W ρ h H (match t L h with | .ok b h1 => (if b = true then (match body L h1 with | .ok .nx L2 h2 => sWhile t body f L2 h2 | .ok .ct L2 h2 => sWhile t body f L2 h2 | .ok .bk L2 h2 => .ok .nx L2 h2 | r => r) else .ok .nx L h1) | .err c fs h1 => .err c fs L h1 | .bad => .bad) := by
  unfold sWhile at ew
  cases e : t L h with
  | ok b h1 => rw [e] at ew; cases b <;> exact ew
  | err c fs h1 => rw [e] at ew; exact ew
  | bad => rw [e] at ew; exact ew
theorem s_while {c : Expr} {body : List Stmt} {t : MT} {mb : MS} {fuel : Nat} {pos : Pos} (hp : PassesOwn (model X.prog X.w) X.A X.env X.xe) (hc : ST T X cls W c t) (hb : SB T X cls ex W body mb) : SS T X cls ex W (.While c body [] pos) (sWhile t mb fuel) := by
  intro pins s σ H ρ h L I F ew
  generalize hg : sWhile t mb fuel L h = G at ew ⊢
  refine wpAny_While (codeAny_whileLoop (fun n s' => ∃ σ' H' ρ' h' L', L2.Inv X pins σ' H' s' ∧ Step ex ρ h H ρ' h' H' ∧ Fm T X cls ρ' h' L' σ' H' ∧ sWhile t mb n L' h' = G ∧ EW T X cls ex W ρ' h' H' G) ?_ fuel ⟨σ, H, ρ, h, L, I, F.refl', F, hg, ew⟩)
  rintro n s1 ⟨σ1, H1, ρ1, h1, L1, I1, st1, F1, e1, ew1⟩
  cases n with
  | zero =>
    unfold sWhile at e1
    rw [← e1] at ew1
    exact ew1.elim
  | succ n =>
    have ew1' := ew1
    rw [← e1] at ew1'
    refine wpAny_passesOwn hp (run_t (f := fun b h1 => if b = true then (match mb L1 h1 with | .ok .nx L2 h2 => sWhile t mb n L2 h2 | .ok .ct L2 h2 => sWhile t mb n L2 h2 | .ok .bk L2 h2 => .ok .nx L2 h2 | r => r) else .ok .nx L1 h1) hc I1 F1 ew1'.while1 fun b h2 ρ2 H2 s2 e2 I2 st2 F2 ew2 => ?_)
    unfold sWhile at e1
    rw [e2] at e1
    cases b with
    | false =>
      subst e1
      exact wpAny_execs_nil ⟨ρ2, σ1, H2, I2, st1.trans st2, F2, trivial⟩
    | true =>
      have e1 : (match mb L1 h2 with | .ok .nx L2 h2 => sWhile t mb n L2 h2 | .ok .ct L2 h2 => sWhile t mb n L2 h2 | .ok .bk L2 h2 => .ok .nx L2 h2 | r => r) = G := e1
      have ew3 : EW T X cls ex W ρ2 h2 H2 (mb L1 h2) := by
        have ew2 : EW T X cls ex W ρ2 h2 H2 (match mb L1 h2 with | .ok .nx L2 h2 => sWhile t mb n L2 h2 | .ok .ct L2 h2 => sWhile t mb n L2 h2 | .ok .bk L2 h2 => .ok .nx L2 h2 | r => r) := ew2
        cases e3 : mb L1 h2 with
        | ok f L2 h3 => trivial
        | err c fs L2 h3 => rw [e3] at ew2; exact ew2
        | bad => rw [e3] at ew2; exact ew2
      refine wpAny_passesOwn hp (thn (hb pins s2 σ1 H2 ρ2 h2 L1 I2 F2 ew3) fun fl s3 q => ?_)
      cases e3 : mb L1 h2 with
      | err c fs L2 h3 => rw [e3] at q; exact q.elim
      | bad => rw [e3] at q; exact q.elim
      | ok f L2 h3 =>
        rw [e3] at q e1
        obtain ⟨ρ3, σ3, H3, I3, st3, F3, fi⟩ := q
        have st := (st1.trans st2).trans st3
        cases f with
        | nx => cases fl with
          | next => exact ⟨n, Nat.lt_succ_self n, σ3, H3, ρ3, h3, L2, I3, st, F3, e1, EW.of (st2.trans st3) ew1⟩
          | brk => exact fi.elim
          | cont => exact fi.elim
          | ret u => exact fi.elim
        | ct => cases fl with
          | cont => exact ⟨n, Nat.lt_succ_self n, σ3, H3, ρ3, h3, L2, I3, st, F3, e1, EW.of (st2.trans st3) ew1⟩
          | brk => exact fi.elim
          | next => exact fi.elim
          | ret u => exact fi.elim
        | bk => cases fl with
          | brk => subst e1; exact ⟨ρ3, σ3, H3, I3, st, F3, trivial⟩
          | next => exact fi.elim
          | cont => exact fi.elim
          | ret u => exact fi.elim
        | rt a => cases fl with
          | ret u => subst e1; exact ⟨ρ3, σ3, H3, I3, st, F3, fi⟩
          | next => exact fi.elim
          | cont => exact fi.elim
          | brk => exact fi.elim
end
end Zk
end
section
set_option Elab.async false
set_option linter.all false
set_option maxRecDepth 100000
/-! Zk6: a def of the text by its body. -/
namespace Zk
open PySem PySem.Spec PyProof.Rows L2 NdefX LamX

abbrev xD (P : Program) (w : World) (K : PySem.W.Frag) (mg : Str → Option Value) (base : Heap) (N : List Str) (qual : Str) (scope : Scope) (f : Addr) (cd : Value) (B : Around) (outer : List Env) (s : Shared) (H : Hp) (E : XK) : Cx :=
  cxOf (L2.CX P w) P w K mg base N qual scope f cd B outer s H E
abbrev wD (E : XK) : WX := fun cls d _ H => E cls d H
/-- how the arguments come to the parameters -/
def BOk (T : Tb) (P : Program) (w : World) (K : PySem.W.Frag) (mg : Str → Option Value) (fd : FuncData) (ps : List Str) (bd : List A → List (Nat × A) → Option (List A)) : Prop :=
  ∀ (base : Heap) (B : Around) (outer : List Env) (s : Shared) (H : Hp) (us : List Value) (vs : List V) (as : List A) (ku : List (Str × Value)) (kv : List (Str × V)) (ka : List (Nat × A)) (ρ : Nat → Addr) (h : Hq) (as' : List A),
    Env0 P w K mg base B outer s H → Vals vs us → RepVs T K ρ h.n H as vs → KV kv ku → RepFs T K ρ h.n H ka kv → RepA T K base ρ h H → bd as ka = some as' →
    ∀ (B' : Around) (Ex : Value → Shared → Prop) (Q : List (Str × Value) → Shared → Prop),
      (∀ (s2 : Shared) (H2 : Hp) (vs2 : List V) (us2 : List Value), Env0 P w K mg base B outer s2 H2 → (∀ b o, s.heap.get? b = some o → s2.heap.get? b = some o) → s2.os = s.os → Un (frs outer) [] H H2 s.heap s2.heap → Vals vs2 us2 → vs2.length = ps.length →
        Step [] ρ h H ρ h H2 → RepA T K base ρ h H2 → RepVs T K ρ h.n H2 as' vs2 → Q (ps.zip us2) s2) → wpAny (model P w) B' (bindArgs fd ⟨us, ku⟩) Q Ex s
def slots0 (n : Nat) (as : List A) : Lc := as.map some ++ List.replicate (n - as.length) none
def outF : RS → Res A
  | .ok .nx _ h => .ok .non h
  | .ok (.rt a) _ h => .ok a h
  | .ok _ _ _ => .bad
  | .err c fs _ h => .err c fs h
  | .bad => .bad
def runF (n : Nat) (m : MS) (as : List A) (h : Hq) : Res A := outF (m (slots0 n as) h)
/-- a callable's plain reading from its parts -/
def callF (n : Nat) (bd : List A → List (Nat × A) → Option (List A)) (m : MS) (as : List A) (ka : List (Nat × A)) (h : Hq) : Res A := match bd as ka with
  | some as' => runF n m as' h
  | none => .bad
/-- what the callable at f is to do -/
def COk (T : Tb) (P : Program) (w : World) (K : PySem.W.Frag) (mg : Str → Option Value) (k : Nat) (f : Addr) (c : List A → List (Nat × A) → Hq → Res A) : Prop :=
  ∀ (base : Heap) (B : Around) (outer : List Env) (s : Shared) (H : Hp) (us : List Value) (vs : List V) (as : List A) (ku : List (Str × Value)) (kv : List (Str × V)) (ka : List (Nat × A)) (ρ : Nat → Addr) (h : Hq),
    Arnd k B → Env0 P w K mg base B outer s H → Vals vs us → RepVs T K ρ h.n H as vs → KV kv ku → RepFs T K ρ h.n H ka kv → RepA T K base ρ h H → NoTr H → c as ka h ≠ .bad →
    codeAny (model P w) B (.call (.ref f) ⟨us, ku⟩) (fun r s' => CRes T P w K base outer H s ρ h (c as ka h) r s') s
theorem Room.deep {k : Nat} {B : Around} (r : Room (k + 1) B) (env : Env) : Room k (B.deeper env) := r.deeper env
theorem Arnd.deep {k : Nat} {B : Around} (r : Arnd (k + 1) B) (env : Env) : Arnd k (B.deeper env) := ⟨r.room.deeper env, r.grd⟩
theorem Arnd.mono {j k : Nat} {B : Around} (r : Arnd k B) (h : j ≤ k) : Arnd j B := ⟨r.room.mono h, r.grd⟩
theorem RepVs.get {T : Tb} {K : PySem.W.Frag} {ρ : Nat → Addr} {n : Nat} {H : Hp} : ∀ {xs : List A} {vs : List V} {i : Nat} {a : A}, RepVs T K ρ n H xs vs → xs[i]? = some a → ∃ v, vs[i]? = some v ∧ RepV T K ρ n H a v
  | [], _, _, _, _, e => by simp at e
  | x :: xs, _, 0, a, r, e => by
    simp only [RepVs] at r
    obtain ⟨y, ys, rfl, q, r⟩ := r
    simp at e; subst e
    exact ⟨y, rfl, q⟩
  | x :: xs, _, i + 1, a, r, e => by
    simp only [RepVs] at r
    obtain ⟨y, ys, rfl, q, r⟩ := r
    obtain ⟨v, e1, r1⟩ := RepVs.get (i := i) r (by simpa using e)
    exact ⟨v, by simpa using e1, r1⟩
theorem slots_val {T : Tb} {K : PySem.W.Frag} {ρ : Nat → Addr} {n : Nat} {H : Hp} {N : List Str} {as : List A} {vs : List V} (r : RepVs T K ρ n H as vs) (i : Nat) (a : A) (e : (slots0 N.length as)[i]? = some (some a)) : ∃ v : V, (L2.start N vs)[i]? = some (some v) ∧ RepV T K ρ n H a v := by
  have hl := RepVs.length r
  unfold slots0 at e
  by_cases hi : i < as.length
  · rw [List.getElem?_append_left (by simpa using hi), List.getElem?_map] at e
    cases q : as[i]? with
    | none => rw [q] at e; cases e
    | some b =>
      rw [q] at e; cases e
      obtain ⟨v, e1, r1⟩ := r.get q
      refine ⟨v, ?_, r1⟩
      unfold L2.start
      rw [List.getElem?_append_left (by rw [List.length_map, hl]; exact hi), List.getElem?_map, e1]
      rfl
  · rw [List.getElem?_append_right (by simpa using hi), List.getElem?_replicate] at e
    split at e <;> cases e
section
variable {T : Tb} {P : Program} {w : World} {K : PySem.W.Frag} {mg : Str → Option Value}
/-- THE RULE for a def of the top (or a method) whose names no inner def reads -/
theorem fn_def {k : Nat} {f : Addr} {name qual : Str} {params : Arguments} {body : List Stmt} {scope : Scope} {dV kV doc pm cdv ct oc : Value} {an od : Option Addr} {osl : Array (Option Value)} {N ps : List Str} {bd : List A → List (Nat × A) → Option (List A)} {m : MS}
    (lk : K.lookup f = some ⟨oc, od, .func (PySem.W.fnOf name qual params body scope dV kV doc pm an cdv ct), osl⟩) (hcd : PySem.W.codeIn K cdv qual = true) (S : FnScope N ps scope) (bo : BOk T P w K mg (PySem.W.fnOf name qual params body scope dV kV doc pm an cdv ct) ps bd)
    (hbody : ∀ (base : Heap) (B : Around) (outer : List Env) (s : Shared) (H : Hp) (E : XK), Arnd k (B.deeper (envOfC qual scope s.heap.objs.size f cdv)) → SB T (xD P w K mg base N qual scope f cdv B outer s H E) [] [] (wD E) body m) :
    COk T P w K mg (k + 1) f (callF N.length bd m) := by
  intro base B outer s H us vs as ku kv ka ρ h ar e0 r rv kr kf R nt nb
  unfold callF at nb ⊢
  cases eb : bd as ka with
  | none => rw [eb] at nb; exact absurd rfl nb
  | some as' =>
    rw [eb] at nb
    have KX : K.In s.heap := e0.mod.kin.keeps fun b o e => (e0.bs b o e).1
    refine codeAny_call_function ar.room.depth (KX _ _ lk) rfl S.co S.gen rfl (PySem.W.codeRec_of KX hcd) ?_
    refine bo base B outer s H us vs as ku kv ka ρ h as' e0 r rv kr kf R eb _ _ _ fun s2 H2 vs2 us2 e2 kp os un r2 hl st2 R2 rv2 => ?_
    have lim : s2.heap.NoLimit := e0.mod.nolimit.keeps fun b o e => (e2.bs b o e).1
    have hkind : ∀ y ∈ ps.zip us2, scope.names.lookup y.1 = some .local ∨ (scope.names.lookup y.1 = some .cell ∧ ((cellsFrom (s2.heap.objs.size + 1) scope.names []).lookup y.1).isSome = true) := fun y hy => by
      rcases S.par y.1 (List.of_mem_zip hy).1 with q | q
      · exact .inl q
      · exact .inr ⟨q, PySem.W.cellsFrom_some _ _ _ (.inl q)⟩
    refine wpAny_newFunctionEnv_cells (s := s2) S.kind hkind fun env he s1 x => ?_
    subst he
    refine ⟨lim.keeps x.toInCall.keep, codeAny_func ?_⟩
    -- the wish of what leaves
    obtain ⟨E, hE⟩ : ∃ E : XK, E = fun cls d H' => match runF N.length m as' h with
      | .err c fs h' => ∃ (ρ' : Nat → Addr) (dd : Addr) (ws : List (Str × V)), cls = .ref (T.cA c) ∧ d = some dd ∧ H' dd = some (.xd ws) ∧ Step [] ρ h H ρ' h' H' ∧ RepA T K base ρ' h' H' ∧ RepFs T K ρ' h'.n H' fs ws
      | _ => False := ⟨_, rfl⟩
    have I : L2.Inv (xD P w K mg base N qual scope f cdv B outer s2 H2 E) [] (L2.start N vs2) H2 s1 := inv_start S ar.room.hd e2 hl r2 x
    have F : Fm T (xD P w K mg base N qual scope f cdv B outer s2 H2 E) [] ρ h (slots0 N.length as') (L2.start N vs2) H2 :=
      ⟨fun l o e => ⟨(R2.obj l o e).1, fun _ => (R2.obj l o e).2⟩, R2.inj, by
        have q := RepVs.length rv2
        have hpl : ps.length ≤ N.length := by have := congrArg List.length S.pre; rw [List.length_take] at this; omega
        show (slots0 N.length as').length = N.length
        unfold slots0; rw [List.length_append, List.length_map, List.length_replicate]; omega, slots_val rv2, fun i l e => by simp at e, R2.tab⟩
    have toA : ∀ {ρ' : Nat → Addr} {h' : Hq} {L' : Lc} {σ' : L2.St} {H' : Hp}, Fm T (xD P w K mg base N qual scope f cdv B outer s2 H2 E) [] ρ' h' L' σ' H' → RepA T K base ρ' h' H' := fun F' =>
      ⟨fun l o e => ⟨(F'.obj l o e).1, (F'.obj l o e).2 (by simp)⟩, F'.inj, F'.tab⟩
    have ew : EW T (xD P w K mg base N qual scope f cdv B outer s2 H2 E) [] [] (wD E) ρ h H2 (m (slots0 N.length as') h) := by
      have nb : outF (m (slots0 N.length as') h) ≠ .bad := nb
      cases e : m (slots0 N.length as') h with
      | ok fl L' h' => trivial
      | bad => rw [e] at nb; exact absurd rfl nb
      | err c fs L' h' =>
        intro ρ' σ' H' d ws st F' ed rf
        show E (.ref (T.cA c)) (some d) H'
        rw [hE]
        have e' : runF N.length m as' h = .err c fs h' := by unfold runF; rw [e]; rfl
        rw [e']
        exact ⟨ρ', d, ws, rfl, rfl, ed, st2.trans st, toA F', rf⟩
    refine wpAny_mono (hbody base B outer s2 H2 E (ar.deep _) [] s1 (L2.start N vs2) H2 ρ h (slots0 N.length as') I F ew) (fun fl s' hs => ?_) fun e s' hs => ?_
    · have fin : ∀ {a : A} {ρ' : Nat → Addr} {h' : Hq} {L' : Lc} {σ' : L2.St} {H' : Hp} {v' : V} {u' : Value}, L2.Inv (xD P w K mg base N qual scope f cdv B outer s2 H2 E) [] σ' H' s' → Step [] ρ h H2 ρ' h' H' → Fm T (xD P w K mg base N qual scope f cdv B outer s2 H2 E) [] ρ' h' L' σ' H' → RelV v' u' → RepV T K ρ' h'.n H' a v' →
          runF N.length m as' h = .ok a h' → CRes T P w K base outer H s ρ h (runF N.length m as' h) (.ok (.ret u')) s' :=
        fun {a ρ' h' L' σ' H' v' u'} J st F' ru rv' e => by
          rw [e]
          exact ⟨ρ', H', v', J.os.trans os, J.bare, un.trans J.base, J.hok, ru, st2.trans st, toA F', rv'⟩
      cases e : m (slots0 N.length as') h with
      | bad => rw [e] at hs; exact hs.elim
      | err c fs L' h' => rw [e] at hs; exact hs.elim
      | ok f' L' h' =>
        rw [e] at hs
        obtain ⟨ρ', σ', H', J, st, F', fi⟩ := hs
        cases f' with
        | nx => cases fl with
          | next => exact fin (a := .non) (v' := .non) (u' := Value.none) J st F' rfl rfl (by unfold runF; rw [e]; rfl)
          | brk => exact fi.elim
          | cont => exact fi.elim
          | ret u => exact fi.elim
        | rt a => cases fl with
          | ret u =>
            obtain ⟨v', ru, rv'⟩ := fi
            exact fin J st F' ru rv' (by unfold runF; rw [e]; rfl)
          | next => exact fi.elim
          | brk => exact fi.elim
          | cont => exact fi.elim
        | bk => exact absurd (show runF N.length m as' h = .bad by unfold runF; rw [e]; rfl) nb
        | ct => exact absurd (show runF N.length m as' h = .bad by unfold runF; rw [e]; rfl) nb
    · have conv : ∀ e s'', L2.CX P w outer H2 s2 E e s'' → CRes T P w K base outer H s ρ h (runF N.length m as' h) (.error e) s'' := fun e s'' c => by
        have c2 := StX.cxUp outer s H s2 H2 E e s'' un kp os c
        cases er : runF N.length m as' h with
        | err c' fs' h' =>
          refine (?_ : L2.CX P w outer H s _ e s'')
          have hEE : E = fun cls d H' => ∃ (ρ' : Nat → Addr) (dd : Addr) (ws : List (Str × V)), cls = .ref (T.cA c') ∧ d = some dd ∧ H' dd = some (.xd ws) ∧ Step [] ρ h H ρ' h' H' ∧ RepA T K base ρ' h' H' ∧ RepFs T K ρ' h'.n H' fs' ws := by
            rw [hE, er]
          rw [hEE] at c2
          exact c2
        | ok a' h' =>
          have hEE : E = fun _ _ _ => False := by rw [hE, er]
          rw [hEE] at c2
          obtain ⟨_, _, _, _, _, _, _, _, _, _, _, _, z⟩ := c2
          exact z.elim
        | bad => exact absurd er nb
      exact wpAny_mono hs (fun _ s'' z => conv e s'' z) fun e' s'' z => conv e' s'' z
end
end Zk
end
section
set_option Elab.async false
set_option linter.all false
set_option maxRecDepth 100000
/-! Zk7: calls as expressions. -/
namespace Zk
open PySem PySem.Spec PyProof.Rows L2 NdefX LamX

abbrev MAK := Lc → Hq → Res (List A × List (Nat × A))
def PostK (T : Tb) (X : Cx) (cls : List (Option Nat)) (W : WX) (pins : List (Addr × Obj)) (ρ : Nat → Addr) (h : Hq) (H : Hp) (σ : L2.St) (L : Lc) (Q : Args → Shared → Prop) : Res (List A × List (Nat × A)) → Prop
  | .ok z h1 => ∀ (ρ1 : Nat → Addr) (H1 : Hp) (s1 : Shared) (us : List Value) (ku : List (Str × Value)) (vs : List V) (kv : List (Str × V)), L2.Inv X pins σ H1 s1 → Step [] ρ h H ρ1 h1 H1 → Fm T X cls ρ1 h1 L σ H1 → Vals vs us → RepVs T X.K ρ1 h1.n H1 z.1 vs → KV kv ku → RepFs T X.K ρ1 h1.n H1 z.2 kv → Q ⟨us, ku⟩ s1
  | .err c fs h1 => ErrW T X cls W ρ h H σ L c fs h1
  | .bad => False
/-- the arguments of a call -/
def SK (T : Tb) (X : Cx) (cls : List (Option Nat)) (W : WX) (es : List Expr) (kws : List Keyword) (pos : Pos) (m : MAK) : Prop :=
  ∀ (fv : Value) (pins : List (Addr × Obj)) (s : Shared) (σ : L2.St) (H : Hp) (ρ : Nat → Addr) (h : Hq) (L : Lc) (Q : Args → Shared → Prop), L2.Inv X pins σ H s → Fm T X cls ρ h L σ H → PostK T X cls W pins ρ h H σ L Q (m L h) →
    wpAny (model X.prog X.w) X.A (evalArgs fv true (backTo pos (starEach es X.env)) (backToKw pos (keywordEach kws X.env))) Q X.xe s
def kOf (m : MA) : MAK := fun L h => (m L h).bind fun as h1 => .ok (as, []) h1
/-- .. and keywords, their names by number -/
def kKw (m : MA) (ks : List Nat) (r : MA) : MAK := fun L h => (m L h).bind fun as h1 => (r L h1).bind fun zs h2 => if zs.length = ks.length then .ok (as, ks.zip zs) h2 else .bad
/-- what can be called without more ado -/
def Keep (f : Value) (h : Heap) : Prop := ∀ M : Model, ∃ k, (k = Keeper.frame ∨ k = Keeper.machine ∨ k = Keeper.boundFrame) ∧ PySem.W.Looks M h (keeperOf f) k
theorem keep_K {K : PySem.W.Frag} {f : Value} {h : Heap} (hk : PySem.W.keepIn K f = true) (X : K.In h) : Keep f h := fun M => PySem.W.keeps_K (M := M) hk h X
theorem keep_F {f : Addr} {h : Heap} (X : PySem.W.FnAt f h) : Keep (.ref f) h := fun M => PySem.W.keeps_F (M := M) h X
theorem callWith_any {M : Model} {B : Around} {E : Value → Shared → Prop} {s : Shared} {pos : Pos} {f : Value} {first : List Value} {Q : Value → Shared → Prop} {args : List (Bool × Sem Value)} {keywords : List (Option Str × Sem Value)}
    (h : wpAny M B (evalArgs f true args keywords) (fun a s₁ => Keep f s₁.heap ∧ wpAny M B (call f (first ++ a.pos) a.kw) Q E s₁) E s) : wpAny M B (callWith pos f first args keywords) Q E s := by
  unfold callWith
  refine wpAny_bind (wpAny_holding (wpAny_mono h (fun a s₁ h₁ => wpAny_bind (wpAny_standAt ?_)) fun _ _ x => x))
  obtain ⟨k, hk', L⟩ := h₁.1 M
  refine wpAny_bind (L.here ?_)
  have tail : ∀ {t : Sem Value}, wpAny M B t Q E s₁ → wpAny M B (t >>= fun r => holding [r] point >>= fun _ => pure r) Q E s₁ :=
    fun ht => wpAny_bind (wpAny_mono ht (fun r s₂ hr => wpAny_bind (wpAny_holding (wpAny_point (wpAny_pure hr)))) fun _ _ x => x)
  have marked (mk : Value) : wpAny M B (callMarked mk f (first ++ a.pos) a.kw) Q E s₁ := by unfold callMarked; exact Calls.wpAny_keep h₁.2
  generalize (args.any (·.1) || keywords.any (·.1.isNone)) = b
  cases b <;> rcases hk' with rfl | rfl | rfl <;> dsimp only <;> first | exact tail h₁.2 | exact tail (marked _) | (split <;> first | exact tail h₁.2 | exact tail (marked _)) | exact tail (wpAny_operating h₁.2)
section
variable {T : Tb} {X : Cx} {cls : List (Option Nat)} {W : WX}
theorem SA.runs {es : List Expr} {m : MA} (he : SA T X cls W es m) {pos : Pos} {pins : List (Addr × Obj)} {s : Shared} {σ : L2.St} {H : Hp} {ρ : Nat → Addr} {h : Hq} {L : Lc} {Q : List Value → Shared → Prop} (I : L2.Inv X pins σ H s) (F : Fm T X cls ρ h L σ H)
    (p : match m L h with
      | .ok as h1 => ∀ (ρ1 : Nat → Addr) (H1 : Hp) (s1 : Shared) (us : List Value) (vs : List V), L2.Inv X pins σ H1 s1 → Step [] ρ h H ρ1 h1 H1 → Fm T X cls ρ1 h1 L σ H1 → Vals vs us → RepVs T X.K ρ1 h1.n H1 as vs → Q us s1
      | .err c fs h1 => ErrW T X cls W ρ h H σ L c fs h1
      | .bad => False) : wpAny (model X.prog X.w) X.A (spliced (backTo pos (starEach es X.env))) Q X.xe s := by
  refine thn (he.run pos pins s σ H (fun vs H1 => ∃ (as : List A) (h1 : Hq) (ρ1 : Nat → Addr), m L h = .ok as h1 ∧ Step [] ρ h H ρ1 h1 H1 ∧ Fm T X cls ρ1 h1 L σ H1 ∧ RepVs T X.K ρ1 h1.n H1 as vs) I ⟨ρ, h, L, F, ?_⟩) fun us s1 ⟨vs, H1, I1, r1, as, h1, ρ1, e1, st, F1, rv⟩ => ?_
  · cases e : m L h with
    | ok as h1 => exact fun ρ' H' vs s F' r => ⟨as, h1, ρ', rfl, s, F', r⟩
    | err c fs h1 => rw [e] at p; exact p
    | bad => rw [e] at p; exact p
  · rw [e1] at p
    exact p ρ1 H1 s1 us vs I1 st F1 r1 rv
theorem k_nil {pos : Pos} : SK T X cls W [] [] pos (kOf aNil) := fun fv pins s σ H ρ h L Q I F p => evalArgs_nil3 (p ρ H s [] [] [] [] I F.refl F .nil rfl .nil .nil)
theorem k_pos {e : Expr} {es : List Expr} {pos : Pos} {m : MA} (he : SA T X cls W (e :: es) m) (hs : starEach (e :: es) X.env = (false, eval e X.env) :: starEach es X.env := by rfl) : SK T X cls W (e :: es) [] pos (kOf m) := by
  intro fv pins s σ H ρ h L Q I F p
  have z := SA.runs he (pos := pos) (Q := fun us s1 => Q ⟨us, []⟩ s1) I F (by
    unfold kOf at p
    cases e : m L h with
    | ok as h1 => rw [e] at p; exact fun ρ1 H1 s1 us vs I1 st F1 r1 rv => p ρ1 H1 s1 us [] vs [] I1 st F1 r1 rv .nil .nil
    | err c fs h1 => rw [e] at p; exact p
    | bad => rw [e] at p; exact p)
  rw [hs] at z ⊢
  exact Calls.evalArgs_plain z
end
/-! ### stars, keywords -/
/-- what a star may unpack -/
def seqOf (h : Hq) : A → Option (List A)
  | .tup xs => some xs
  | .ref l => match h.get l with
    | some (.lst xs) => some xs
    | some (.rol xs) => some xs
    | _ => none
  | _ => none
section
variable {T : Tb} {X : Cx} {cls : List (Option Nat)} {W : WX} {ρ : Nat → Addr} {h : Hq} {H : Hp} {σ : L2.St} {L : Lc}
theorem RoL.sq {K : PySem.W.Frag} {a : Addr} {vs : List V} (q : RoL K H a vs) : SqL K H a vs := by
  rcases q with ⟨o, q⟩ | q
  · exact .inl (.inr ⟨o, q⟩)
  · exact .inr q
theorem seq_ok (F : Fm T X cls ρ h L σ H) {a : A} {v : V} {xs : List A} (e : seqOf h a = some xs) (r : RepV T X.K ρ h.n H a v) : ∃ p vs, v = .ref p ∧ (SqT X.K H p vs ∨ SqL X.K H p vs) ∧ RepVs T X.K ρ h.n H xs vs := by
  cases a with
  | tup ys =>
    cases e
    simp only [RepV] at r
    obtain ⟨p, vs, rfl, q, r⟩ := r
    exact ⟨p, vs, rfl, .inl q, r⟩
  | ref l =>
    simp only [RepV] at r
    obtain ⟨rfl, hl⟩ := r
    simp only [seqOf] at e
    cases eo : h.get l with
    | none => rw [eo] at e; cases e
    | some o =>
      rw [eo] at e
      cases o with
      | lst ys =>
        cases e
        obtain ⟨vs, q, r⟩ := F.rep eo rfl
        exact ⟨_, vs, rfl, .inr (SqL.of q), r⟩
      | rol ys =>
        cases e
        by_cases hc : some l ∈ cls
        · obtain ⟨i, hi⟩ := List.mem_iff_getElem?.mp hc
          obtain ⟨_, ov, _, _, _, _, z, _⟩ := F.cel i l hi
          rw [eo] at z; cases z
        · obtain ⟨vs, q, r⟩ := (F.obj l _ eo).2 hc
          exact ⟨_, vs, rfl, .inr q.sq, r⟩
      | dic kvs => cases e
      | dit kvs => cases e
      | ins c fs => cases e
      | cel v => cases e
      | exc c fs => cases e
      | lok xs => cases e
  | non => cases e
  | bl b => cases e
  | int i => cases e
  | str s => cases e
  | fn k => cases e
  | clo k cs => cases e
  | ty t => cases e
theorem RepVs.append {K : PySem.W.Frag} {n : Nat} : ∀ {xs ys : List A} {vs ws : List V}, RepVs T K ρ n H xs vs → RepVs T K ρ n H ys ws → RepVs T K ρ n H (xs ++ ys) (vs ++ ws)
  | [], _, _, _, r, q => by simp only [RepVs] at r; subst r; exact q
  | x :: xs, _, _, _, r, q => by
    simp only [RepVs] at r
    obtain ⟨y, zs, rfl, r1, r2⟩ := r
    simp only [List.cons_append, RepVs]
    exact ⟨y, _, rfl, r1, RepVs.append r2 q⟩
end
def aStar (e : ME) (r : MA) : MA := fun L h => (e L h).bind fun a h1 => match seqOf h1 a with
  | some xs => (r L h1).bind fun as h2 => .ok (xs ++ as) h2
  | none => .bad
def kLone (e : ME) : MAK := fun L h => (e L h).bind fun a h1 => match seqOf h1 a with
  | some xs => .ok (xs, []) h1
  | none => .bad
section
variable {T : Tb} {X : Cx} {cls : List (Option Nat)} {W : WX}
theorem a_star {e : Expr} {es : List Expr} {m : ME} {r : MA} {p : Pos} (he : SE T X cls W e m) (hr : SA T X cls W es r) (hs : starEach (.Starred e p :: es) X.env = (true, eval e X.env) :: starEach es X.env := by rfl) : SA T X cls W (.Starred e p :: es) (aStar m r) := by
  refine PA.weak (StX.pa_star he hr hs) fun σ H Q ⟨ρ, h, loc, F, p⟩ => ⟨ρ, h, loc, F, PostA.bindE p fun a h1 ρ1 H1 v s1 F1 r1 p1 => ?_⟩
  cases e : seqOf h1 a with
  | none => rw [e] at p1; exact p1.elim
  | some xs =>
    rw [e] at p1
    obtain ⟨q, vs, ev, hq, rv⟩ := seq_ok F1 e r1
    exact ⟨q, vs, ev, hq, ρ1, h1, loc, F1, PostA.bindA p1 fun as h2 ρ2 H2 ws s2 F2 r2 p2 => p2 ρ2 H2 (vs ++ ws) F2.refl F2 ((RepVs.step s2.wk _ _ rv).append r2)⟩
theorem SE.runs {e : Expr} {m : ME} (he : SE T X cls W e m) {pins : List (Addr × Obj)} {s : Shared} {σ : L2.St} {H : Hp} {ρ : Nat → Addr} {h : Hq} {L : Lc} {Q : Value → Shared → Prop} (I : L2.Inv X pins σ H s) (F : Fm T X cls ρ h L σ H)
    (p : match m L h with
      | .ok a h1 => ∀ (ρ1 : Nat → Addr) (H1 : Hp) (s1 : Shared) (v : V) (u : Value), L2.Inv X pins σ H1 s1 → Step [] ρ h H ρ1 h1 H1 → Fm T X cls ρ1 h1 L σ H1 → RelV v u → RepV T X.K ρ1 h1.n H1 a v → Q u s1
      | .err c fs h1 => ErrW T X cls W ρ h H σ L c fs h1
      | .bad => False) : wpAny (model X.prog X.w) X.A (eval e X.env) Q X.xe s := by
  refine thn (he.run pins s σ H (fun v H1 => ∃ (a : A) (h1 : Hq) (ρ1 : Nat → Addr), m L h = .ok a h1 ∧ Step [] ρ h H ρ1 h1 H1 ∧ Fm T X cls ρ1 h1 L σ H1 ∧ RepV T X.K ρ1 h1.n H1 a v) I ⟨ρ, h, L, F, ?_⟩) fun u s1 ⟨v, H1, I1, r1, a, h1, ρ1, e1, st, F1, rv⟩ => ?_
  · cases e : m L h with
    | ok a h1 => exact fun ρ' H' v s F' r => ⟨a, h1, ρ', rfl, s, F', r⟩
    | err c fs h1 => rw [e] at p; exact p
    | bad => rw [e] at p; exact p
  · rw [e1] at p
    exact p ρ1 H1 s1 v u I1 st F1 r1 rv
theorem k_lone {e : Expr} {pos sp : Pos} {m : ME} (he : SE T X cls W e m) (hs : starEach [.Starred e sp] X.env = [(true, eval e X.env)] := by rfl) : SK T X cls W [.Starred e sp] [] pos (kLone m) := by
  intro fv pins s σ H ρ h L Q I F p
  rw [hs]
  refine PySem.W.ks_lone (SE.runs he I F ?_)
  unfold kLone at p
  cases e1 : m L h with
  | err c fs h1 => rw [e1] at p; exact p
  | bad => rw [e1] at p; exact p
  | ok a h1 =>
    rw [e1] at p
    intro ρ1 H1 s1 v u I1 st F1 ru rv
    have p : PostK T X cls W pins ρ h H σ L Q (match seqOf h1 a with | some xs => .ok (xs, []) h1 | none => .bad) := p
    cases e2 : seqOf h1 a with
    | none => rw [e2] at p; exact p.elim
    | some xs =>
      rw [e2] at p
      obtain ⟨q, vs, rfl, hq, rvs⟩ := seq_ok F1 e2 rv
      obtain rfl : u = Value.ref q := ru
      exact StX.star_any I1 hq fun us s2 I2 rr => p ρ1 H1 s2 us [] vs [] I2 st F1 rr rvs .nil .nil
/-- the values of the keywords -/
abbrev SKw (T : Tb) (X : Cx) (cls : List (Option Nat)) (W : WX) (kws : List Keyword) (m : MA) : Prop := PK X kws (rdA T X cls W m)
theorem PK.weak {X : Cx} {e : List Keyword} {t t' : TA} (h : PK X e t) (w : ∀ σ H Q, t' σ H Q → t σ H Q) : PK X e t' := ⟨fun pos pins s σ H Q I q => h.run pos pins s σ H Q I (w σ H Q q)⟩
theorem kw_nil : SKw T X cls W [] aNil := PK.weak pk_nil fun σ H Q ⟨ρ, h, loc, F, p⟩ => p ρ H [] F.refl F rfl
theorem kw_cons {e : Expr} {kws : List Keyword} {nm : Option Str} {kp : Pos} {m : ME} {r : MA} (he : SE T X cls W e m) (hr : SKw T X cls W kws r) : SKw T X cls W (⟨nm, e, kp⟩ :: kws) (aCons m r) := by
  refine PK.weak (pk_cons he hr) fun σ H Q ⟨ρ, h, loc, F, p⟩ => ⟨ρ, h, loc, F, PostA.bindE p fun a h1 ρ1 H1 v s1 F1 r1 p1 => ⟨ρ1, h1, loc, F1, PostA.bindA p1 fun as h2 ρ2 H2 vs s2 F2 r2 p2 => ?_⟩⟩
  exact p2 ρ2 H2 (v :: vs) F2.refl F2 ⟨v, vs, rfl, RepV.step s2.wk _ _ r1, r2⟩
theorem SKw.runs {kws : List Keyword} {m : MA} (he : SKw T X cls W kws m) {pos : Pos} {pins : List (Addr × Obj)} {s : Shared} {σ : L2.St} {H : Hp} {ρ : Nat → Addr} {h : Hq} {L : Lc} {Q : List Value → Shared → Prop} (I : L2.Inv X pins σ H s) (F : Fm T X cls ρ h L σ H)
    (p : match m L h with
      | .ok as h1 => ∀ (ρ1 : Nat → Addr) (H1 : Hp) (s1 : Shared) (us : List Value) (vs : List V), L2.Inv X pins σ H1 s1 → Step [] ρ h H ρ1 h1 H1 → Fm T X cls ρ1 h1 L σ H1 → Vals vs us → RepVs T X.K ρ1 h1.n H1 as vs → Q us s1
      | .err c fs h1 => ErrW T X cls W ρ h H σ L c fs h1
      | .bad => False) : wpAny (model X.prog X.w) X.A (evalAll ((backToKw pos (keywordEach kws X.env)).map (·.2))) Q X.xe s := by
  refine thn (he.run pos pins s σ H (fun vs H1 => ∃ (as : List A) (h1 : Hq) (ρ1 : Nat → Addr), m L h = .ok as h1 ∧ Step [] ρ h H ρ1 h1 H1 ∧ Fm T X cls ρ1 h1 L σ H1 ∧ RepVs T X.K ρ1 h1.n H1 as vs) I ⟨ρ, h, L, F, ?_⟩) fun us s1 ⟨vs, H1, I1, r1, as, h1, ρ1, e1, st, F1, rv⟩ => ?_
  · cases e : m L h with
    | ok as h1 => exact fun ρ' H' vs s F' r => ⟨as, h1, ρ', rfl, s, F', r⟩
    | err c fs h1 => rw [e] at p; exact p
    | bad => rw [e] at p; exact p
  · rw [e1] at p
    exact p ρ1 H1 s1 us vs I1 st F1 r1 rv
theorem kv_zip {K : PySem.W.Frag} {ρ : Nat → Addr} {n : Nat} {H : Hp} : ∀ {ks : List Nat} {zs : List A} {vs : List V} {us : List Value}, RepVs T K ρ n H zs vs → Vals vs us → zs.length = ks.length → KV ((ks.map T.nm).zip vs) ((ks.map T.nm).zip us) ∧ RepFs T K ρ n H (ks.zip zs) ((ks.map T.nm).zip vs)
  | [], [], _, _, r, q, _ => by simp only [RepVs] at r; subst r; cases q; exact ⟨.nil, .nil⟩
  | k :: ks, z :: zs, _, _, r, q, e => by
    simp only [RepVs] at r
    obtain ⟨y, ys, rfl, r1, r2⟩ := r
    cases q with
    | cons q1 q2 =>
      obtain ⟨a, b⟩ := kv_zip (ks := ks) r2 q2 (by simpa using e)
      exact ⟨.cons ⟨rfl, q1⟩ a, .cons ⟨rfl, r1⟩ b⟩
  | [], z :: zs, _, _, _, _, e => by simp at e
  | k :: ks, [], _, _, _, _, e => by simp at e
theorem k_kw {e : Expr} {es : List Expr} {kws : List Keyword} {pos : Pos} {m r : MA} {ks : List Nat} (he : SA T X cls W (e :: es) m) (hk : SKw T X cls W kws r) (hks : (backToKw pos (keywordEach kws X.env)).filterMap (·.1) = ks.map T.nm)
    (hall : (backToKw pos (keywordEach kws X.env)).all (·.1.isSome) = true := by rfl) (hs : starEach (e :: es) X.env = (false, eval e X.env) :: starEach es X.env := by rfl) : SK T X cls W (e :: es) kws pos (kKw m ks r) := by
  intro fv pins s σ H ρ h L Q I F p
  refine evalArgs_kw2 hall ?_ hs
  rw [hks]
  unfold kKw at p
  refine SA.runs he I F ?_
  cases e1 : m L h with
  | err c fs h1 => rw [e1] at p; exact p
  | bad => rw [e1] at p; exact p
  | ok as h1 =>
    rw [e1] at p
    intro ρ1 H1 s1 us vs I1 st F1 ru rv
    have p : PostK T X cls W pins ρ h H σ L Q ((r L h1).bind fun zs h2 => if zs.length = ks.length then .ok (as, ks.zip zs) h2 else .bad) := p
    refine SKw.runs hk I1 F1 ?_
    cases e2 : r L h1 with
    | err c fs h2 => rw [e2] at p; exact ErrW.of st p
    | bad => rw [e2] at p; exact p
    | ok zs h2 =>
      rw [e2] at p
      intro ρ2 H2 s2 us2 vs2 I2 st2 F2 ru2 rv2
      have p : PostK T X cls W pins ρ h H σ L Q (if zs.length = ks.length then .ok (as, ks.zip zs) h2 else .bad) := p
      split at p
      · rename_i hl
        obtain ⟨a, b⟩ := kv_zip rv2 ru2 hl
        exact p ρ2 H2 s2 us _ vs _ I2 (st.trans st2) F2 ru (RepVs.step st2.wk _ _ rv) a b
      · exact p.elim
theorem k_kw0 {kws : List Keyword} {pos : Pos} {r : MA} {ks : List Nat} (hk : SKw T X cls W kws r) (hks : (backToKw pos (keywordEach kws X.env)).filterMap (·.1) = ks.map T.nm)
    (hall : (backToKw pos (keywordEach kws X.env)).all (·.1.isSome) = true := by rfl) : SK T X cls W [] kws pos (kKw aNil ks r) := by
  intro fv pins s σ H ρ h L Q I F p
  refine evalArgs_kw2_nil hall ?_
  rw [hks]
  unfold kKw at p
  have p : PostK T X cls W pins ρ h H σ L Q ((r L h).bind fun zs h2 => if zs.length = ks.length then .ok ([], ks.zip zs) h2 else .bad) := p
  refine SKw.runs hk I F ?_
  cases e2 : r L h with
  | err c fs h2 => rw [e2] at p; exact p
  | bad => rw [e2] at p; exact p
  | ok zs h2 =>
    rw [e2] at p
    intro ρ2 H2 s2 us2 vs2 I2 st2 F2 ru2 rv2
    have p : PostK T X cls W pins ρ h H σ L Q (if zs.length = ks.length then .ok ([], ks.zip zs) h2 else .bad) := p
    split at p
    · rename_i hl
      obtain ⟨a, b⟩ := kv_zip rv2 ru2 hl
      exact p ρ2 H2 s2 [] _ [] _ I2 st2 F2 .nil rfl a b
    · exact p.elim

/-! ### the call -/
/-- what a body that calls must have -/
structure Cal (T : Tb) (X : Cx) (W : WX) (k : Nat) (Φ : Dn) : Prop where
  lib : Lib T X.prog X.w X.K X.mg k Φ
  ar : Arnd k X.A
  tk : Takes X W
  nd : X.N.Nodup
  kp : ∀ j, PySem.W.keepIn X.K (.ref (T.fA j)) = true
  nr : ∀ fa as ka h, Φ fa as ka h ≠ .bad → (∃ j, fa = .fn j) ∨ ∃ j cs, fa = .clo j cs
theorem Cal.keep {k : Nat} {Φ : Dn} (C : Cal T X W k Φ) {pins : List (Addr × Obj)} {s : Shared} {σ : L2.St} {H : Hp} {ρ : Nat → Addr} {n : Nat} {fa : A} {f : Addr} (I : L2.Inv X pins σ H s) (r : RepV T X.K ρ n H fa (.ref f)) (q : (∃ j, fa = .fn j) ∨ ∃ j cs, fa = .clo j cs) : Keep (.ref f) s.heap := by
  rcases q with ⟨j, rfl⟩ | ⟨j, cs, rfl⟩
  · simp only [RepV] at r
    cases r
    exact keep_K (C.kp j) I.kIn
  · simp only [RepV] at r
    obtain ⟨g, e, cl, c, h1, _⟩ := r
    cases e
    obtain ⟨od, sl, doc, pm, ctv, ho⟩ := fnB_at I.hok h1
    exact keep_F ⟨_, _, _, _, ho⟩
theorem Cal.run {k : Nat} {Φ : Dn} (C : Cal T X W k Φ) {pos : Pos} {es : List Expr} {kws : List Keyword} {mk : MAK} (hk : SK T X cls W es kws pos mk) {pins : List (Addr × Obj)} {s : Shared} {σ : L2.St} {H : Hp} {ρ : Nat → Addr} {h : Hq} {L : Lc} {fa : A} {f : Addr} {first : List Value} {vf : List V} {af : List A} {Q : VK}
    (I : L2.Inv X pins σ H s) (F : Fm T X cls ρ h L σ H) (rf : RepV T X.K ρ h.n H fa (.ref f)) (r1 : Vals vf first) (r2 : RepVs T X.K ρ h.n H af vf) (p : PostE T X cls W ρ h H σ L Q ((mk L h).bind fun z h2 => Φ fa (af ++ z.1) z.2 h2)) :
    wpAny (model X.prog X.w) X.A (callWith pos (.ref f) first (backTo pos (starEach es X.env)) (backToKw pos (keywordEach kws X.env))) (EP X pins σ Q) X.xe s := by
  refine callWith_any (hk _ pins s σ H ρ h L _ I F ?_)
  cases e : mk L h with
  | err c fs h1 => rw [e] at p; exact p
  | bad => rw [e] at p; exact p
  | ok z h1 =>
    rw [e] at p
    have p : PostE T X cls W ρ h H σ L Q (Φ fa (af ++ z.1) z.2 h1) := p
    intro ρ1 H1 s1 us ku vs kv I1 st F1 ru rv kk kf
    have nb : Φ fa (af ++ z.1) z.2 h1 ≠ .bad := fun q => by rw [q] at p; exact p
    have rf1 := RepV.step st.wk _ _ rf
    exact ⟨C.keep I1 rf1 (C.nr _ _ _ _ nb), run_call (mg := X.mg) C.lib C.ar C.tk C.nd I1 F1 rf1 (r1.append ru) ((RepVs.step st.wk _ _ r2).append rv) kk kf (PostE.of st p)⟩
def eCallF (Φ : Dn) (fa : A) (mk : MAK) : ME := fun L h => (mk L h).bind fun z h1 => Φ fa z.1 z.2 h1
def isFn : A → Bool
  | .fn _ | .clo _ _ => true
  | _ => false
def callV (Φ : Dn) (mk : MAK) (fa : A) : ME := fun L h => if isFn fa then (mk L h).bind fun z h2 => Φ fa z.1 z.2 h2 else .bad
def eCallL (Φ : Dn) (i : Nat) (mk : MAK) : ME := fun L h => (eLoc i L h).bind fun fa h1 => callV Φ mk fa L h1
theorem isFn_ref {T : Tb} {K : PySem.W.Frag} {ρ : Nat → Addr} {n : Nat} {H : Hp} {fa : A} {v : V} (r : RepV T K ρ n H fa v) (e : isFn fa = true) : ∃ f, v = .ref f := by
  cases fa with
  | fn k => exact ⟨_, r⟩
  | clo k cs => simp only [RepV] at r; obtain ⟨f, e, _⟩ := r; exact ⟨f, e⟩
  | _ => cases e
theorem s_callG {k j : Nat} {Φ : Dn} (C : Cal T X W k Φ) {x : Str} {p pos : Pos} {es : List Expr} {kws : List Keyword} {mk : MAK} (hk : SK T X cls W es kws pos mk) (hg : Gl X x) (hm : X.mg x = some (.ref (T.fA j))) (hdb : (x == ("__debug__" : Str)) = false := by decide) : SE T X cls W (.Call (.Name x p) es kws pos) (eCallF Φ (.fn j) mk) := by
  refine ⟨fun pins s σ H Q I ⟨ρ, h, L, F, q⟩ => ?_⟩
  refine wpAny_Call_Name_kw (ld_glob I hg hm ?_ hdb)
  exact C.run hk (first := []) (vf := []) (af := []) (fa := .fn j) I F rfl .nil rfl q
theorem s_callL {k i : Nat} {Φ : Dn} (C : Cal T X W k Φ) {x : Str} {p pos : Pos} {es : List Expr} {kws : List Keyword} {mk : MAK} (hk : SK T X cls W es kws pos mk) (hN : X.N[i]? = some x) (hv : Vis X.env.scope x) (hdb : (x == ("__debug__" : Str)) = false := by decide) (hcd : (x == ("__classdict__" : Str)) = false := by decide) : SE T X cls W (.Call (.Name x p) es kws pos) (eCallL Φ i mk) := by
  refine ⟨fun pins s σ H Q I ⟨ρ, h, L, F, q⟩ => ?_⟩
  unfold eCallL at q
  refine wpAny_Call_Name_kw (SE.runs (W := W) (s_loc (pos := p) hN hv hdb hcd) I F ?_)
  cases e : eLoc i L h with
  | err c fs h1 => rw [e] at q; exact q
  | bad => rw [e] at q; exact q
  | ok fa h1 =>
    rw [e] at q
    intro ρ1 H1 s1 v u I1 st F1 ru rv
    have q : PostE T X cls W ρ h H σ L Q (callV Φ mk fa L h1) := q
    unfold callV at q
    split at q
    · rename_i hf
      obtain ⟨f, rfl⟩ := isFn_ref rv hf
      obtain rfl : u = Value.ref f := ru
      exact C.run hk (first := []) (vf := []) (af := []) I1 F1 rv .nil rfl (PostE.of st q)
    · exact q.elim
end
end Zk
end
section
set_option Elab.async false
set_option linter.all false
set_option maxRecDepth 100000
/-! Zk8: values of the text, attributes, methods, makes. -/
namespace Zk
open PySem PySem.Spec PyProof.Rows L2 NdefX LamX

section
variable {T : Tb} {K : PySem.W.Frag} {ρ : Nat → Addr} {n : Nat} {H : Hp}
theorem RepFs.get : ∀ {fs : List (Nat × A)} {ws : List (Str × V)} (i : Nat), RepFs T K ρ n H fs ws → match fs.lookup i with
    | some a => ∃ v, ws.lookup (T.nm i) = some v ∧ RepV T K ρ n H a v
    | none => ws.lookup (T.nm i) = none
  | _, _, i, .nil => rfl
  | (k, a) :: fs, (m, v) :: ws, i, .cons q t => by
    obtain ⟨e, r⟩ := q
    have ih := RepFs.get i t
    simp only at e r
    subst e
    by_cases hk : i = k
    · subst hk
      simp only [List.lookup, beq_self_eq_true]
      exact ⟨v, rfl, r⟩
    · have h1 : (i == k) = false := beq_eq_false_iff_ne.mpr hk
      have h2 : (T.nm i == T.nm k) = false := beq_eq_false_iff_ne.mpr fun z => hk (T.inj _ _ z)
      simp only [List.lookup, h1, h2]
      exact ih
theorem RepFs.some {fs : List (Nat × A)} {ws : List (Str × V)} {i : Nat} {a : A} (r : RepFs T K ρ n H fs ws) (e : fs.lookup i = some a) : ∃ v, ws.lookup (T.nm i) = some v ∧ RepV T K ρ n H a v := by
  have q := r.get i
  rw [e] at q
  exact q
theorem RepFs.none {fs : List (Nat × A)} {ws : List (Str × V)} {i : Nat} (r : RepFs T K ρ n H fs ws) (e : fs.lookup i = none) : ws.lookup (T.nm i) = none := by
  have q := r.get i
  rw [e] at q
  exact q
end
/-- an attribute put -/
def putN (f : Nat) (v : A) : List (Nat × A) → List (Nat × A)
  | [] => [(f, v)]
  | (g, x) :: r => if g = f then (g, v) :: r else (g, x) :: putN f v r
theorem RepFs.put {T : Tb} {K : PySem.W.Frag} {ρ : Nat → Addr} {n : Nat} {H : Hp} {a : A} {v : V} {i : Nat} (ra : RepV T K ρ n H a v) : ∀ {fs : List (Nat × A)} {ws : List (Str × V)}, RepFs T K ρ n H fs ws → RepFs T K ρ n H (putN i a fs) (putF (T.nm i) v ws)
  | _, _, .nil => .cons ⟨rfl, ra⟩ .nil
  | (k, b) :: fs, (m, u) :: ws, .cons q t => by
    obtain ⟨e, r⟩ := q
    simp only at e r
    subst e
    unfold putN putF
    by_cases hk : k = i
    · subst hk
      rw [if_pos rfl, if_pos rfl]
      exact .cons ⟨rfl, ra⟩ t
    · rw [if_neg hk, if_neg fun z => hk (T.inj _ _ z)]
      exact .cons ⟨rfl, r⟩ (RepFs.put ra t)

section
variable {T : Tb} {X : Cx} {cls : List (Option Nat)} {W : WX}
/-! ### names of the module -/
theorem s_glob {x : Str} {a : A} {v : V} {u : Value} {pos : Pos} (hg : Gl X x) (hm : X.mg x = some u) (r : RelV v u) (hr : ∀ (ρ : Nat → Addr) (n : Nat) (H : Hp), RepV T X.K ρ n H a v) (hd : (x == ("__debug__" : Str)) = false := by decide) : SE T X cls W (.Name x pos) (eCon a) :=
  PE.weak (pe_glob hg hm r hd) fun σ H Q ⟨ρ, h, loc, F, p⟩ => PostE.here p F (hr _ _ _)
theorem s_fnv {x : Str} {j : Nat} {pos : Pos} (hg : Gl X x) (hm : X.mg x = some (.ref (T.fA j))) (hd : (x == ("__debug__" : Str)) = false := by decide) : SE T X cls W (.Name x pos) (eCon (.fn j)) :=
  s_glob (v := .ref (T.fA j)) hg hm rfl (fun _ _ _ => rfl) hd
theorem s_gstr {x : Str} {z : Str} {tk : Tok} {pos : Pos} (hg : Gl X x) (hm : X.mg x = some (.str z tk)) (hd : (x == ("__debug__" : Str)) = false := by decide) : SE T X cls W (.Name x pos) (eCon (.str z)) :=
  s_glob (v := .str z) hg hm ⟨tk, rfl⟩ (fun _ _ _ => rfl) hd
theorem s_gint {x : Str} {z : Int} {tk : Tok} {pos : Pos} (hg : Gl X x) (hm : X.mg x = some (.int z tk)) (hd : (x == ("__debug__" : Str)) = false := by decide) : SE T X cls W (.Name x pos) (eCon (.int z)) :=
  s_glob (v := .int z) hg hm ⟨tk, rfl⟩ (fun _ _ _ => rfl) hd
theorem s_ty {x : Str} {t : String} {pos : Pos} (hg : Gl X x) (hm : X.mg x = none) (hv : bootBuiltins x = some (.type t)) (hn : x ≠ "__name__" := by decide) (hd : (x == ("__debug__" : Str)) = false := by decide) : SE T X cls W (.Name x pos) (eCon (.ty t)) :=
  PE.weak (pe_bltn (v := .ty t) hg hm hv rfl hn hd) fun σ H Q ⟨ρ, h, loc, F, p⟩ => PostE.here p F rfl

/-! ### attributes -/
/-- how an attribute of a class is read: a field, a property by its getter -/
inductive Ak where
  | fld | xfl | prop (j : Nat) | no
/-- what of the text an attribute must have -/
def AkOk (T : Tb) (K : PySem.W.Frag) (i : Nat) (at_ : Nat → Ak) : Prop := ∀ c, match at_ c with
  | .fld => Cls K (T.cA c) ∧ NoAttr K (T.cA c) (T.nm i)
  | .xfl => XfC K (T.cA c) ∧ PySem.W.findIn K (.ref (T.cA c)) (T.nm i) = some none
  | .prop j => Cls K (T.cA c) ∧ ∃ p, PropOf K (T.cA c) (T.nm i) p (T.fA j)
  | .no => True
/-- no exception may leave -/
def Res.calm {α : Type} : Res α → Res α
  | .ok a h => .ok a h
  | _ => .bad
def getA (Φ : Dn) (at_ : Nat → Ak) (i : Nat) (a : A) (h : Hq) : Res A := match a with
  | .ref l => match h.get l with
    | some o => match o with
      | .ins c fs => match at_ c with
        | .fld => match fs.lookup i with
          | some b => .ok b h
          | none => .bad
        | .prop j => (Φ (.fn j) [.ref l] [] h).calm
        | _ => .bad
      | .exc c fs => match at_ c with
        | .xfl => match fs.lookup i with
          | some b => .ok b h
          | none => .bad
        | _ => .bad
      | _ => .bad
    | none => .bad
  | _ => .bad
def eAttr (Φ : Dn) (at_ : Nat → Ak) (i : Nat) (e : ME) : ME := fun L h => (e L h).bind fun a h1 => getA Φ at_ i a h1
theorem Arnd.in1 {k : Nat} {B : Around} (r : Arnd (k + 1) B) : Arnd k B.in1 := ⟨r.room.in1, r.grd⟩
theorem Arnd.make {k : Nat} {B : Around} (r : Arnd (k + 1) B) (C : Addr) (us : List Value) (kw : List (Str × Value)) : Arnd k (B.under (.builtin "type.__call__" ⟨.ref C :: us, kw⟩)) := by
  refine ⟨⟨r.room.hd, by have := r.room.dp; rw [make_depth]; omega, by have := r.room.un; rw [make_units]; omega⟩, ?_⟩
  have e : (B.under (.builtin "type.__call__" ⟨.ref C :: us, kw⟩)).guards = B.guards := by
    first | rfl | simp [Around.under, Code.weight, Code.isCreation, Code.isGuard, Code.isCaller, Code.frames, Code.isFrame, guardIds]
  rw [e]; exact r.grd

theorem Fm.nox {ρ : Nat → Addr} {h : Hq} {L : Lc} {σ : L2.St} {H : Hp} (F : Fm T X cls ρ h L σ H) : Fm T X.nox cls ρ h L σ H := ⟨F.obj, F.inj, F.len, F.val, F.cel, F.tab⟩
theorem Fm.ofNox {ρ : Nat → Addr} {h : Hq} {L : Lc} {σ : L2.St} {H : Hp} (F : Fm T X.nox cls ρ h L σ H) : Fm T X cls ρ h L σ H := ⟨F.obj, F.inj, F.len, F.val, F.cel, F.tab⟩
theorem s_attr {k i : Nat} {Φ : Dn} (C : Cal T X W (k + 1) Φ) (L0 : Lib T X.prog X.w X.K X.mg k Φ) {at_ : Nat → Ak} (ha : AkOk T X.K i at_) {e : Expr} {m : ME} {f : Str} {pos : Pos} (he : SE T X cls W e m) (hf : T.nm i = f) (hb : attributeBase e f X.env (eval e X.env) = eval e X.env := by rfl) :
    SE T X cls W (.Attribute e f pos) (eAttr Φ at_ i m) := by
  subst hf
  refine ⟨fun pins s σ H Q I ⟨ρ, h, L, F, q⟩ => ?_⟩
  unfold eAttr at q
  refine attr_of hb (SE.runs he I F ?_)
  cases e1 : m L h with
  | err c fs h1 => rw [e1] at q; exact q
  | bad => rw [e1] at q; exact q
  | ok a h1 =>
    rw [e1] at q
    intro ρ1 H1 s1 v u I1 st F1 ru rv
    have q1 : PostE T X cls W ρ1 h1 H1 σ L Q (getA Φ at_ i a h1) := PostE.of st q
    cases a with
    | ref l =>
      simp only [RepV] at rv
      obtain ⟨rfl, hl⟩ := rv
      obtain rfl : u = Value.ref (ρ1 l) := ru
      simp only [getA] at q1
      cases eo : h1.get l with
      | none => rw [eo] at q1; exact q1.elim
      | some o =>
        rw [eo] at q1
        cases o with
        | ins c fs =>
          simp only at q1
          obtain ⟨dx, ws, ei, rf⟩ := F1.rep eo rfl
          have hk := ha c
          cases ek : at_ c with
          | no => rw [ek] at q1; exact q1.elim
          | xfl => rw [ek] at q1; exact q1.elim
          | fld =>
            rw [ek] at q1 hk
            simp only at q1 hk
            cases el : fs.lookup i with
            | none => rw [el] at q1; exact q1.elim
            | some b =>
              rw [el] at q1
              obtain ⟨v, hv, rb⟩ := rf.some el
              exact getattr_ok I1 ei hk.1 hk.2 hv fun u' s2 I2 ru2 => ⟨v, H1, I2, ru2, q1.here F1 rb⟩
          | prop j =>
            rw [ek] at q1 hk
            simp only at q1 hk
            obtain ⟨hc, p, hp⟩ := hk
            obtain ⟨mA, O, _, _, _, _⟩ := ins_get I1.hok ei
            obtain ⟨od, J, _⟩ := O.look
            obtain ⟨rest, hrec⟩ := hp.rec_
            have I2 := I1.tok (s1.toks + 1)
            have hcl : (PySem.W.clsIn X.K (T.cA c)).isSome = true := by
              obtain ⟨cd, hc, _⟩ := PySem.W.any_some hc.hd
              rw [hc]; rfl
            have q2 : PostE T X.nox cls (fun _ _ _ _ => False) ρ1 h1 H1 σ L Q (Φ (.fn j) [.ref l] [] h1) := by
              cases er : Φ (.fn j) [.ref l] [] h1 with
              | ok b h2 => rw [er] at q1; exact fun ρ' H' v s F' r => q1 ρ' H' v s F'.ofNox r
              | err c2 fs2 h2 => rw [er] at q1; exact q1.elim
              | bad => rw [er] at q1; exact q1.elim
            refine PySem.W.get_bind I1.kIn J (PySem.W.plainGet_of (hc.get (T.nm i))).1 (PySem.W.findObj_data hcl hp.at_ hp.get hp.tak) (PySem.W.plainGet_of (hc.get (T.nm i))).2 (wpAny_call (PySem.W.prop_get (s := { s1 with toks := s1.toks + 1 }) I1.kIn hrec ?_))
            refine codeAny_mono (run_code (X := X.nox) (mg := X.mg) (B := X.A.in1) (fa := .fn j) (f := T.fA j) (us := [.ref (ρ1 l)]) (vs := [.ref (ρ1 l)]) (as := [.ref l]) (ku := []) (kv := []) (ka := []) L0 C.ar.in1 rfl takes_none5 C.nd (I2.wish _) F1.nox rfl (.cons rfl .nil) ⟨.ref (ρ1 l), [], rfl, ⟨rfl, hl⟩, rfl⟩ .nil .nil q2) fun r s' hq => ?_
            cases r with
            | error e => exact False.elim hq
            | ok fl =>
              cases fl with
              | ret u =>
                obtain ⟨v, H', I3, rv, q3⟩ := hq
                show wpAny _ _ (handedOut u) _ _ _
                rw [PySem.W.handedOut_of (handed_of rv)]
                exact wpAny_pure ⟨v, H', I3.wish _, rv, q3⟩
              | next => exact False.elim hq
              | brk => exact False.elim hq
              | cont => exact False.elim hq
        | lst xs => exact q1.elim
        | rol xs => exact q1.elim
        | dic xs => exact q1.elim
        | dit xs => exact q1.elim
        | cel v => exact q1.elim
        | lok xs => exact q1.elim
        | exc c fs =>
          simp only at q1
          have hk := ha c
          cases ek : at_ c with
          | xfl =>
            rw [ek] at q1 hk
            simp only at q1 hk
            obtain ⟨XC, hno⟩ := hk
            cases el : fs.lookup i with
            | none => rw [el] at q1; exact q1.elim
            | some b =>
              rw [el] at q1
              have nc : some l ∉ cls := fun hc => by
                obtain ⟨i, hi⟩ := List.mem_iff_getElem?.mp hc
                obtain ⟨_, ov, _, _, _, _, z, _⟩ := F1.cel i l hi
                rw [eo] at z; cases z
              obtain ⟨dd, ws, e1, e2, rf⟩ := (F1.obj l _ eo).2 nc
              obtain ⟨v, hv, rb⟩ := rf.some el
              obtain ⟨⟨o, vs, ho, hc, hd, hdt⟩, _, _⟩ := I1.hok _ _ e1
              obtain ⟨mA, hns, hr⟩ := (show ObjOk X.prog X.w H1 s1.heap dd (.xd ws) from I1.hok dd _ e2)
              obtain ⟨od, ho2, hl2⟩ := lookIn_ns hns
              obtain ⟨u, hu, ru2⟩ := RelO.some_of (v := v) (o := mA (T.nm i)) (by rw [← hv]; exact hr _)
              have J : PySem.W.InstAt s1.heap (ρ1 l) o (T.cA c) (some od) := ⟨ho, hc, by unfold PySem.W.notCls; rw [hdt] <;> rfl, by rw [hd]; exact ho2⟩
              exact HandSPX.exc_get I1.kIn J XC.ga XC.gg XC.exC (PySem.W.findObj_own XC.hdC hno rfl (by rw [hl2, hu])) (handed_of ru2) ⟨v, H1, I1.tok _, ru2, q1.here F1 rb⟩
          | _ => rw [ek] at q1; exact q1.elim
    | _ => exact q1.elim

/-! ### methods -/
def MthOk (T : Tb) (K : PySem.W.Frag) (i : Nat) (tbl : Nat → Option Nat) : Prop := ∀ c j, tbl c = some j → Cls K (T.cA c) ∧ Meth K (T.cA c) (T.nm i) (T.fA j)
def methA (Φ : Dn) (tbl : Nat → Option Nat) (i : Nat) (mk : MAK) (a : A) : ME := fun L h => match a with
  | .ref l => match h.get l with
    | some (.ins c fs) => match tbl c, fs.lookup i with
      | some j, none => (mk L h).bind fun z h2 => Φ (.fn j) (.ref l :: z.1) z.2 h2
      | _, _ => .bad
    | _ => .bad
  | _ => .bad
def eMeth (Φ : Dn) (tbl : Nat → Option Nat) (i : Nat) (e : ME) (mk : MAK) : ME := fun L h => (e L h).bind fun a h1 => methA Φ tbl i mk a L h1
theorem s_meth {k i : Nat} {Φ : Dn} (C : Cal T X W k Φ) {tbl : Nat → Option Nat} (hm : MthOk T X.K i tbl) {o : Expr} {es : List Expr} {kws : List Keyword} {mo : ME} {mk : MAK} {m : Str} {apos pos : Pos} {pl : Sem Bool} (he : SE T X cls W o mo) (hk : SK T X cls W es kws pos mk) (hn : T.nm i = m)
    (ht : eval (.Call (.Attribute o m apos) es kws pos) X.env = (do
      let ov ← eval o X.env
      standAt apos.atName
      let (f, first) ← holding [ov] (getMethod ov m pl)
      callWith pos f first (backTo pos (starEach es X.env)) (backToKw pos (keywordEach kws X.env))) := by rfl) :
    SE T X cls W (.Call (.Attribute o m apos) es kws pos) (eMeth Φ tbl i mo mk) := by
  subst hn
  refine ⟨fun pins s σ H Q I ⟨ρ, h, L, F, q⟩ => ?_⟩
  unfold eMeth at q
  refine PySem.W.methodCall_KW (pl := pl) (SE.runs he I F ?_) ht
  cases e1 : mo L h with
  | err c fs h1 => rw [e1] at q; exact q
  | bad => rw [e1] at q; exact q
  | ok a h1 =>
    rw [e1] at q
    intro ρ1 H1 s1 v u I1 st F1 ru rv
    have q1 : PostE T X cls W ρ1 h1 H1 σ L Q (methA Φ tbl i mk a L h1) := PostE.of st q
    cases a with
    | ref l =>
      have rv0 := rv
      simp only [RepV] at rv
      obtain ⟨rfl, hl⟩ := rv
      obtain rfl : u = Value.ref (ρ1 l) := ru
      simp only [methA] at q1
      cases eo : h1.get l with
      | none => rw [eo] at q1; exact q1.elim
      | some o =>
        rw [eo] at q1
        cases o with
        | ins c fs =>
          simp only at q1
          obtain ⟨dx, ws, ei, rf⟩ := F1.rep eo rfl
          cases ej : tbl c with
          | none => rw [ej] at q1; exact q1.elim
          | some j =>
            rw [ej] at q1
            cases el : fs.lookup i with
            | some b => rw [el] at q1; exact q1.elim
            | none =>
              rw [el] at q1
              obtain ⟨hc, hme⟩ := hm c j ej
              refine getmeth_ok I1 ei hc hme (rf.none el) ?_
              exact C.run hk (first := [.ref (ρ1 l)]) (vf := [.ref (ρ1 l)]) (af := [.ref l]) (fa := .fn j) I1 F1 rfl (.cons rfl .nil) ⟨.ref (ρ1 l), [], rfl, rv0, rfl⟩ q1
        | lst xs => exact q1.elim
        | rol xs => exact q1.elim
        | dic xs => exact q1.elim
        | dit xs => exact q1.elim
        | cel v => exact q1.elim
        | lok xs => exact q1.elim
        | exc c fs => exact q1.elim
    | _ => exact q1.elim
/-- C.m is a static method: its record at p, its def at g -/
structure SMet (K : PySem.W.Frag) (C : Addr) (mc : Value) (m : Str) (p g : Addr) : Prop where
  rd : PySem.W.readsIn K C mc = true
  ga : PySem.W.specialIn K (.ref C) "__getattribute__" = some (some (.builtin "type.__getattribute__"))
  at_ : PySem.W.findCls K (.ref C) mc m = some (.get (.builtin "staticmethod.__get__") (.ref p) .none (.ref C))
  rc : ∃ rest, PySem.W.recIn K p "staticmethod" = some (.ref g :: rest)
theorem s_static {k j : Nat} {Φ : Dn} (C : Cal T X W k Φ) {x m : Str} {D p : Addr} {mc : Value} (sm : SMet X.K D mc m p (T.fA j)) {es : List Expr} {kws : List Keyword} {mk : MAK} {p1 apos pos : Pos} {pl : Sem Bool} (hk : SK T X cls W es kws pos mk) (hg : Gl X x) (hm : X.mg x = some (.ref D)) (hdb : (x == ("__debug__" : Str)) = false := by decide)
    (ht : eval (.Call (.Attribute (.Name x p1) m apos) es kws pos) X.env = (do
      let ov ← eval (.Name x p1) X.env
      standAt apos.atName
      let (f, first) ← holding [ov] (getMethod ov m pl)
      callWith pos f first (backTo pos (starEach es X.env)) (backToKw pos (keywordEach kws X.env))) := by rfl) :
    SE T X cls W (.Call (.Attribute (.Name x p1) m apos) es kws pos) (eCallF Φ (.fn j) mk) := by
  refine ⟨fun pins s σ H Q I ⟨ρ, h, L, F, q⟩ => ?_⟩
  refine PySem.W.methodCall_KW (pl := pl) (ld_glob I hg hm ?_ hdb) ht
  obtain ⟨rest, hp⟩ := sm.rc
  refine PySem.W.method_cls I.kIn sm.ga (PySem.W.cls_bind I.kIn sm.rd sm.at_ (wpAny_call (PySem.W.sm_get (s := { s with toks := s.toks + 1 }) I.kIn hp (PySem.W.handed_on rfl ?_))))
  exact C.run hk (first := []) (vf := []) (af := []) (fa := .fn j) (I.tok _) F rfl .nil rfl q

/-! ### instances made -/
theorem Fm.aux {ρ : Nat → Addr} {h : Hq} {L : Lc} {σ : L2.St} {H : Hp} {q : Addr} {u : HO} (F : Fm T X cls ρ h L σ H) (hq : H q = none) : Fm T X cls ρ h L σ (L2.upd H q u) := by
  have st := (step_tup (ρ := ρ) (u := u) (fun _ _ => F.lt) hq).wk
  have kp : ∀ b w, H b = some w → (L2.upd H q u) b = some w := fun b w e => by rw [upd_ne (ne_of_none e hq)]; exact e
  refine ⟨fun l o e => ⟨F.lt e, fun hc => RepO.stay st (kp _) ((F.obj l o e).2 hc)⟩, F.inj, F.len, fun i a e => ?_, fun i l e => ?_, fun b hb => TabN.keeps (F.tab b hb) fun b w e _ => kp b w e⟩
  · obtain ⟨v, e1, r⟩ := F.val i a e
    exact ⟨v, e1, RepV.step st _ _ r⟩
  · obtain ⟨x, ov, e1, e2, e3, nf, e4, e5⟩ := F.cel i l e
    exact ⟨x, ov, e1, e2, e3, nf, e4, fun a ea => let ⟨v, z, r⟩ := e5 a ea; ⟨v, z, RepV.step st _ _ r⟩⟩
def makeA (Φ : Dn) (c j : Nat) (z : List A × List (Nat × A)) (h : Hq) : Res A := match z.2 with
  | [] => (Φ (.fn j) (.ref h.n :: z.1) [] (h.new (.ins c []))).bind fun r h2 => match r with
    | .non => .ok (.ref h.n) h2
    | _ => .bad
  | _ => .bad
def eMake (Φ : Dn) (c j : Nat) (mk : MAK) : ME := fun L h => (mk L h).bind fun z h1 => makeA Φ c j z h1
theorem s_make {k c j : Nat} {Φ : Dn} (C : Cal T X W (k + 1) Φ) (L0 : Lib T X.prog X.w X.K X.mg k Φ) (M : Mk X.K (T.cA c) (T.fA j)) {x : Str} {p pos : Pos} {es : List Expr} {mk : MAK} (hk : SK T X cls W es [] pos mk) (hg : Gl X x) (hm : X.mg x = some (.ref (T.cA c))) (hdb : (x == ("__debug__" : Str)) = false := by decide) :
    SE T X cls W (.Call (.Name x p) es [] pos) (eMake Φ c j mk) := by
  refine ⟨fun pins s σ H Q I ⟨ρ, h, L, F, q⟩ => ?_⟩
  unfold eMake at q
  refine wpAny_Call_Name_kw (ld_glob I hg hm ?_ hdb)
  refine callWith_any (hk _ pins s σ H ρ h L _ I F ?_)
  cases e : mk L h with
  | err c fs h1 => rw [e] at q; exact q
  | bad => rw [e] at q; exact q
  | ok z h1 =>
    rw [e] at q
    have q : PostE T X cls W ρ h H σ L Q (makeA Φ c j z h1) := q
    intro ρ1 H1 s1 us ku vs kv I1 st F1 ru rv kk kf
    refine ⟨keep_K M.kp I1.kIn, ?_⟩
    have q1 := PostE.of st q
    obtain ⟨as, ka⟩ := z
    unfold makeA at q1
    cases ka with
    | cons _ _ => exact q1.elim
    | nil =>
      simp only at q1 rv kf
      cases kf
      cases kk
      have I2 := Inv.made (C := T.cA c) I1
      have n1 : H1 (s1.heap.objs.size + 1) = none := I1.hok.fresh (Nat.le_succ _)
      have n0 : H1 s1.heap.objs.size = none := I1.hok.fresh (Nat.le_refl _)
      have Fa := F1.aux (u := .own (s1.heap.objs.size + 1)) n0
      have n1' : (upd H1 s1.heap.objs.size (.own (s1.heap.objs.size + 1))) (s1.heap.objs.size + 1) = none := by rw [upd_ne (Nat.succ_ne_self _)]; exact n1
      have sta := step_tup (ρ := ρ1) (h := h1) (u := HO.own (s1.heap.objs.size + 1)) (fun _ _ => F1.lt) n0
      have F2 := Fa.new (p := s1.heap.objs.size + 1) (u := .ins (T.cA c) s1.heap.objs.size []) (o := .ins c []) n1' rfl ⟨_, [], upd_same, .nil⟩
      have st2 := sta.trans (step_new (ρ := ρ1) (h := h1) (p := s1.heap.objs.size + 1) (u := HO.ins (T.cA c) s1.heap.objs.size []) (o := .ins c []) (fun _ _ => Fa.lt) n1' rfl)
      have q2 : PostE T X cls W _ _ _ σ L Q ((Φ (.fn j) (.ref h1.n :: as) [] (h1.new (.ins c []))).bind fun r h2 => match r with | .non => .ok (.ref h1.n) h2 | _ => .bad) := PostE.of st2 q1
      have q3 := q2.bindE (Q1 := fun v H2 => v = .non ∧ Q (.ref (s1.heap.objs.size + 1)) H2) fun a h2 ρ2 H2 v st3 F3 rv3 p3 => by
        cases a with
        | non =>
          refine ⟨rv3, p3.here F3 ?_⟩
          have hlt : h1.n < (h1.new (.ins c [])).n := Nat.lt_succ_self _
          simp only [RepV]
          exact ⟨by rw [st3.ext _ hlt, put1_same], Nat.lt_of_lt_of_le hlt st3.le⟩
        | _ => exact p3.elim
      have rself : RepV T X.K (put1 ρ1 h1.n (s1.heap.objs.size + 1)) (h1.new (.ins c [])).n (upd (upd H1 s1.heap.objs.size (.own (s1.heap.objs.size + 1))) (s1.heap.objs.size + 1) (.ins (T.cA c) s1.heap.objs.size [])) (.ref h1.n) (.ref (s1.heap.objs.size + 1)) := by
        simp only [RepV]
        exact ⟨by rw [put1_same], Nat.lt_succ_self _⟩
      refine wpAny_call (make_map (f := T.fA j) I1.kIn M.makes M.init (beq_iff_eq.mp M.fn) (codeAny_mono (run_code (mg := X.mg) (fa := .fn j) (f := T.fA j) (us := .ref (s1.heap.objs.size + 1) :: us) (vs := .ref (s1.heap.objs.size + 1) :: vs) (as := .ref h1.n :: as) (ku := []) (kv := []) (ka := []) L0 (C.ar.make (T.cA c) us []) ?_ C.tk C.nd I2 F2 rfl (.cons rfl ru) ⟨_, vs, rfl, rself, RepVs.step st2.wk _ _ rv⟩ .nil .nil q3) fun r s' hq => ?_))
      · first | rfl | simp [Around.under, Code.envs, Code.isFrame, pushEnvs]
      · cases r with
        | error e => exact hq
        | ok fl =>
          cases fl with
          | ret u =>
            obtain ⟨v, H', I3, rv3, ev, q4⟩ := hq
            subst ev
            exact ⟨rv3, ⟨V.ref (s1.heap.objs.size + 1), H', I3, rfl, q4⟩⟩
          | next => exact hq.elim
          | brk => exact hq.elim
          | cont => exact hq.elim
end
end Zk
end
section
set_option Elab.async false
set_option linter.all false
set_option maxRecDepth 100000
/-! Zk9: operators of two places. -/
namespace Zk
open PySem PySem.Spec PyProof.Rows L2 NdefX LamX

abbrev O2 := A → A → Hq → Res A
def orE (f g : O2) : O2 := fun a b h => match f a b h with
  | .bad => g a b h
  | r => r
def e2 (f : O2) (ma mb : ME) : ME := fun L h => (ma L h).bind fun a h1 => (mb L h1).bind fun b h2 => f a b h2
def Op2 (T : Tb) (X : Cx) (cls : List (Option Nat)) (W : WX) (r : R2) (f : O2) : Prop := ∀ {ρ : Nat → Addr} {h : Hq} {H : Hp} {σ : L2.St} {L : Lc} {a b : A} {va vb : V} {Q : VK},
  Fm T X cls ρ h L σ H → RepV T X.K ρ h.n H a va → RepV T X.K ρ h.n H b vb → PostE T X cls W ρ h H σ L Q (f a b h) → r va vb H Q
section
variable {T : Tb} {X : Cx} {cls : List (Option Nat)} {W : WX}
theorem Op2.or {r1 r2 : R2} {f1 f2 : O2} (h1 : Op2 T X cls W r1 f1) (h2 : Op2 T X cls W r2 f2) : Op2 T X cls W (fun x y H Q => r1 x y H Q ∨ r2 x y H Q) (orE f1 f2) := by
  intro ρ h H σ L a b va vb Q F ra rb p
  unfold orE at p
  cases e : f1 a b h with
  | bad => rw [e] at p; exact .inr (h2 F ra rb p)
  | ok c h' => rw [e] at p; exact .inl (h1 F ra rb (by rw [e]; exact p))
  | err c fs h' => rw [e] at p; exact .inl (h1 F ra rb (by rw [e]; exact p))
theorem e2_tOp {r : R2} {f : O2} (hf : Op2 T X cls W r f) {ma mb : ME} {σ : L2.St} {H : Hp} {Q : VK} (p : rdE T X cls W (e2 f ma mb) σ H Q) : tOp r (rdE T X cls W ma) (rdE T X cls W mb) σ H Q := by
  obtain ⟨ρ, h, L, F, p⟩ := p
  exact ⟨ρ, h, L, F, p.bindE fun a h1 ρ1 H1 v s1 F1 r1 p1 => ⟨ρ1, h1, L, F1, p1.bindE fun b h2 ρ2 H2 w s2 F2 r2 p2 => hf F2 (RepV.step s2.wk _ _ r1) r2 p2⟩⟩
theorem s_bin {op : Operator} {r : R2} {f : O2} {a b : Expr} {ma mb : ME} {pos : Pos} (ho : OpR X (binaryOp op) r) (hf : Op2 T X cls W r f) (ha : SE T X cls W a ma) (hb : SE T X cls W b mb) : SE T X cls W (.BinOp a op b pos) (e2 f ma mb) :=
  PE.weak (pe_op ho ha hb) fun σ H Q p => e2_tOp hf p
theorem s_cmp {op : CmpOp} {r : R2} {f : O2} {a b : Expr} {ma mb : ME} {pos : Pos} (ho : OpR X (compareOp op) r) (hf : Op2 T X cls W r f) (ha : SE T X cls W a ma) (hb : SE T X cls W b mb) (hm : behindInMarks op b = false := by first | exact nobehind _ (by decide) (by decide) | rfl) : SE T X cls W (.Compare a [op] [b] pos) (e2 f ma mb) :=
  PE.weak (pe_cmpR ho ha hb hm) fun σ H Q p => e2_tOp hf p

/-! ### ints -/
def iOp (g : Int → Int → A) : O2 := fun a b h => match a, b with
  | .int i, .int j => .ok (g i j) h
  | _, _ => .bad
def iOpC (C : Int → Int → Bool) (g : Int → Int → A) : O2 := fun a b h => match a, b with
  | .int i, .int j => if C i j = true then .ok (g i j) h else .bad
  | _, _ => .bad
theorem op2_i {gV : Int → Int → V} {g : Int → Int → A} (hg : ∀ i j (K : PySem.W.Frag) (ρ : Nat → Addr) (n : Nat) (H : Hp), RepV T K ρ n H (g i j) (gV i j)) : Op2 T X cls W (rI0 gV) (iOp g) := by
  intro ρ h H σ L a b va vb Q F ra rb p
  unfold iOp at p
  split at p
  · cases ra; cases rb
    exact ⟨_, _, rfl, rfl, p.here F (hg _ _ _ _ _ _)⟩
  · exact p.elim
theorem op2_iC {C : Int → Int → Prop} {Cb : Int → Int → Bool} {gV : Int → Int → V} {g : Int → Int → A} (hC : ∀ i j, Cb i j = true → C i j) (hg : ∀ i j (K : PySem.W.Frag) (ρ : Nat → Addr) (n : Nat) (H : Hp), RepV T K ρ n H (g i j) (gV i j)) : Op2 T X cls W (rI C gV) (iOpC Cb g) := by
  intro ρ h H σ L a b va vb Q F ra rb p
  unfold iOpC at p
  split at p
  · split at p
    · rename_i hc
      cases ra; cases rb
      exact ⟨_, _, rfl, rfl, hC _ _ hc, p.here F (hg _ _ _ _ _ _)⟩
    · exact p.elim
  · exact p.elim
def P64 : Int := 18446744073709551616
def bMul (i j : Int) : Bool := (decide (-P64 < i) && decide (i < P64)) || (decide (-P64 < j) && decide (j < P64))
theorem bMul_ok {i j : Int} (h : bMul i j = true) : CMul i j := by
  unfold bMul at h
  simp only [Bool.or_eq_true, Bool.and_eq_true, decide_eq_true_eq] at h
  have e : P64 = 2 ^ 64 := by decide
  rw [e] at h
  exact h
def bDiv (_ j : Int) : Bool := decide (j ≠ 0) && decide (j.natAbs < 1073741824)
def bMod (_ j : Int) : Bool := decide (j ≠ 0)
def bPow (i j : Int) : Bool := decide (0 ≤ j) && (decide (j ≤ 1000000) && decide (i.natAbs < 18446744073709551616))
def oAddI : O2 := iOp fun i j => .int (i + j)
def oSub : O2 := iOp fun i j => .int (i - j)
def oMulI : O2 := iOpC bMul fun i j => .int (i * j)
def oDiv : O2 := iOpC bDiv fun i j => .int (i.fdiv j)
def oMod : O2 := iOpC bMod fun i j => .int (i.fmod j)
def oPow : O2 := iOpC bPow fun i j => .int (i ^ j.toNat)
def oLt : O2 := iOp fun i j => .bl (decide (i < j))
def oLe : O2 := iOp fun i j => .bl (decide (i ≤ j))
def oGt : O2 := iOp fun i j => .bl (decide (j < i))
def oGe : O2 := iOp fun i j => .bl (decide (j ≤ i))
theorem op2_sub : Op2 T X cls W (rI0 fun i j => .int (i - j)) oSub := op2_i (gV := fun i j => .int (i - j)) (g := fun i j => .int (i - j)) fun _ _ _ _ _ _ => rfl
theorem op2_addI : Op2 T X cls W (rI0 fun i j => .int (i + j)) oAddI := op2_i (gV := fun i j => .int (i + j)) (g := fun i j => .int (i + j)) fun _ _ _ _ _ _ => rfl
theorem op2_mulI : Op2 T X cls W (rI CMul fun i j => .int (i * j)) oMulI := op2_iC (gV := fun i j => .int (i * j)) (g := fun i j => .int (i * j)) (fun _ _ h => bMul_ok h) fun _ _ _ _ _ _ => rfl
theorem op2_div : Op2 T X cls W (rI CDivN fun i j => .int (i.fdiv j)) oDiv := op2_iC (gV := fun i j => .int (i.fdiv j)) (g := fun i j => .int (i.fdiv j)) (fun i j h => by unfold bDiv at h; simp only [Bool.and_eq_true, decide_eq_true_eq] at h; exact h) fun _ _ _ _ _ _ => rfl
theorem op2_mod : Op2 T X cls W (rI (fun _ j => j ≠ 0) fun i j => .int (i.fmod j)) oMod := op2_iC (gV := fun i j => .int (i.fmod j)) (g := fun i j => .int (i.fmod j)) (fun i j h => by unfold bMod at h; simp only [decide_eq_true_eq] at h; exact h) fun _ _ _ _ _ _ => rfl
theorem bPow_ok {i j : Int} (h : bPow i j = true) : CPow i j := by
  unfold bPow at h
  simp only [Bool.and_eq_true, decide_eq_true_eq] at h
  have e : (18446744073709551616 : Nat) = 2 ^ 64 := by decide
  exact ⟨h.1, h.2.1, by rw [← e]; exact h.2.2⟩
theorem op2_pow : Op2 T X cls W (rI CPow fun i j => .int (i ^ j.toNat)) oPow := op2_iC (gV := fun i j => .int (i ^ j.toNat)) (g := fun i j => .int (i ^ j.toNat)) (fun _ _ h => bPow_ok h) fun _ _ _ _ _ _ => rfl
theorem op2_lt : Op2 T X cls W (rI0 fun i j => .bl (decide (i < j))) oLt := op2_i (gV := fun i j => .bl (decide (i < j))) (g := fun i j => .bl (decide (i < j))) fun _ _ _ _ _ _ => rfl
theorem op2_le : Op2 T X cls W (rI0 fun i j => .bl (decide (i ≤ j))) oLe := op2_i (gV := fun i j => .bl (decide (i ≤ j))) (g := fun i j => .bl (decide (i ≤ j))) fun _ _ _ _ _ _ => rfl
theorem op2_gt : Op2 T X cls W (rI0 fun i j => .bl (decide (j < i))) oGt := op2_i (gV := fun i j => .bl (decide (j < i))) (g := fun i j => .bl (decide (j < i))) fun _ _ _ _ _ _ => rfl
theorem op2_ge : Op2 T X cls W (rI0 fun i j => .bl (decide (j ≤ i))) oGe := op2_i (gV := fun i j => .bl (decide (j ≤ i))) (g := fun i j => .bl (decide (j ≤ i))) fun _ _ _ _ _ _ => rfl
theorem s_sub {a b : Expr} {ma mb : ME} {pos : Pos} (ha : SE T X cls W a ma) (hb : SE T X cls W b mb) : SE T X cls W (.BinOp a .Sub b pos) (e2 oSub ma mb) := s_bin op_sub op2_sub ha hb
theorem s_div {a b : Expr} {ma mb : ME} {pos : Pos} (ha : SE T X cls W a ma) (hb : SE T X cls W b mb) : SE T X cls W (.BinOp a .FloorDiv b pos) (e2 oDiv ma mb) := s_bin op_fdivN op2_div ha hb
theorem s_mod {a b : Expr} {ma mb : ME} {pos : Pos} (ha : SE T X cls W a ma) (hb : SE T X cls W b mb) : SE T X cls W (.BinOp a .Mod b pos) (e2 oMod ma mb) := s_bin op_modN op2_mod ha hb
theorem s_pow {a b : Expr} {ma mb : ME} {pos : Pos} (ha : SE T X cls W a ma) (hb : SE T X cls W b mb) : SE T X cls W (.BinOp a .Pow b pos) (e2 oPow ma mb) := s_bin op_pow op2_pow ha hb

/-! ### + of texts, tuples, lists; * of lists -/
def oAddS : O2 := fun a b h => match a, b with
  | .str x, .str y => if x.length + y.length ≤ SZ then .ok (.str (x ++ y)) h else .bad
  | _, _ => .bad
def oAddT : O2 := fun a b h => match a, b with
  | .tup xs, .tup ys => if xs.length + ys.length ≤ SZ then .ok (.tup (xs ++ ys)) h else .bad
  | _, _ => .bad
def lstOf (h : Hq) : A → Option (List A)
  | .ref l => match h.get l with
    | some (.lst xs) => some xs
    | _ => none
  | _ => none
def oAddL : O2 := fun a b h => match lstOf h a, lstOf h b with
  | some xs, some ys => if xs.length + ys.length ≤ SZ then .ok (.ref h.n) (h.new (.lst (xs ++ ys))) else .bad
  | _, _ => .bad
theorem lst_ok {ρ : Nat → Addr} {h : Hq} {H : Hp} {σ : L2.St} {L : Lc} (F : Fm T X cls ρ h L σ H) {a : A} {v : V} {xs : List A} (e : lstOf h a = some xs) (r : RepV T X.K ρ h.n H a v) : ∃ l vs, a = .ref l ∧ v = .ref (ρ l) ∧ h.get l = some (.lst xs) ∧ H (ρ l) = some (.lst vs) ∧ RepVs T X.K ρ h.n H xs vs := by
  cases a with
  | ref l =>
    simp only [RepV] at r
    obtain ⟨rfl, hl⟩ := r
    simp only [lstOf] at e
    cases eo : h.get l with
    | none => rw [eo] at e; cases e
    | some o =>
      rw [eo] at e
      cases o with
      | lst ys =>
        cases e
        obtain ⟨vs, q, r⟩ := F.rep eo rfl
        exact ⟨l, vs, rfl, rfl, eo, q, r⟩
      | _ => cases e
  | _ => cases e
/-- a new list -/
theorem new_lst {ρ : Nat → Addr} {h : Hq} {H : Hp} {σ : L2.St} {L : Lc} {Q : VK} {xs : List A} {vs : List V} {p : Addr} (F : Fm T X cls ρ h L σ H) (r : RepVs T X.K ρ h.n H xs vs) (q : PostE T X cls W ρ h H σ L Q (.ok (.ref h.n) (h.new (.lst xs)))) (hp : H p = none) : Q (.ref p) (upd H p (.lst vs)) := by
  have st := step_new (ρ := ρ) (h := h) (H := H) (u := .lst vs) (o := .lst xs) (fun _ _ => F.lt) hp rfl
  refine q (put1 ρ h.n p) _ (.ref p) st (F.new hp rfl ⟨vs, upd_same, RepVs.step st.wk _ _ r⟩) ?_
  simp only [RepV]
  exact ⟨by rw [put1_same], Nat.lt_succ_self _⟩
/-- a new tuple -/
theorem new_tup {ρ : Nat → Addr} {h : Hq} {H : Hp} {σ : L2.St} {L : Lc} {Q : VK} {xs : List A} {vs : List V} {p : Addr} (F : Fm T X cls ρ h L σ H) (r : RepVs T X.K ρ h.n H xs vs) (q : PostE T X cls W ρ h H σ L Q (.ok (.tup xs) h)) (hp : H p = none) : Q (.ref p) (upd H p (.tup vs)) := by
  have st := step_tup (ρ := ρ) (h := h) (H := H) (u := .tup vs) (fun _ _ => F.lt) hp
  refine q ρ _ (.ref p) st (F.aux hp) ?_
  simp only [RepV]
  exact ⟨p, vs, rfl, SqT.of upd_same, RepVs.step st.wk _ _ r⟩
theorem op2_addS : Op2 T X cls W (fun x y H Q => ∃ i j, x = .str i ∧ y = .str j ∧ i.length + j.length ≤ sizeLine ∧ Q (.str (i ++ j)) H) oAddS := by
  intro ρ h H σ L a b va vb Q F ra rb p
  unfold oAddS at p
  split at p
  · split at p
    · rename_i hz
      cases ra; cases rb
      exact ⟨_, _, rfl, rfl, by rw [← sz_eq]; exact hz, p.here F rfl⟩
    · exact p.elim
  · exact p.elim
theorem op2_addT : Op2 T X cls W (rCatA X.K) oAddT := by
  intro ρ h H σ L a b va vb Q F ra rb p
  unfold oAddT at p
  split at p
  · split at p
    · rename_i xs ys hz
      have ra0 := ra
      have rb0 := rb
      simp only [RepV] at ra rb
      obtain ⟨pa, vs, rfl, qa, ra⟩ := ra
      obtain ⟨pb, ws, rfl, qb, rb⟩ := rb
      refine ⟨pa, pb, vs, ws, rfl, rfl, qa, qb, by rw [RepVs.length ra, RepVs.length rb, ← sz_eq]; exact hz, fun e => ?_, fun _ e => ?_, fun _ _ q hq => new_tup F (ra.append rb) p hq⟩
      · have e2 : xs = [] := List.eq_nil_of_length_eq_zero (by rw [← RepVs.length ra, e]; rfl)
        subst e2
        exact p.here F rb0
      · have e2 : ys = [] := List.eq_nil_of_length_eq_zero (by rw [← RepVs.length rb, e]; rfl)
        subst e2
        rw [List.append_nil] at p
        exact p.here F ra0
    · exact p.elim
  · exact p.elim
theorem op2_addL : Op2 T X cls W rCat oAddL := by
  intro ρ h H σ L a b va vb Q F ra rb p
  unfold oAddL at p
  split at p
  · split at p
    · rename_i xs ys e1 e2 hz
      obtain ⟨l, vs, rfl, rfl, _, q1, r1⟩ := lst_ok F e1 ra
      obtain ⟨m, ws, rfl, rfl, _, q2, r2⟩ := lst_ok F e2 rb
      exact ⟨_, _, vs, ws, rfl, rfl, q1, q2, by rw [RepVs.length r1, RepVs.length r2, ← sz_eq]; exact hz, fun q hq => new_lst F (r1.append r2) p hq⟩
    · exact p.elim
  · exact p.elim
def oAdd : O2 := orE oAddI (orE oAddS (orE oAddT oAddL))
theorem s_add {a b : Expr} {ma mb : ME} {pos : Pos} (ha : SE T X cls W a ma) (hb : SE T X cls W b mb) : SE T X cls W (.BinOp a .Add b pos) (e2 oAdd ma mb) :=
  s_bin (op_add.or (op_add_str.or (op_catA.or op_cat))) (Op2.or op2_addI (Op2.or op2_addS (Op2.or op2_addT op2_addL))) ha hb
def oRepL : O2 := fun a b h => match lstOf h a, b with
  | some xs, .int k => if decide (0 ≤ k) && (decide (k < 1000000) && decide (xs.length * k.toNat ≤ SZ)) then .ok (.ref h.n) (h.new (.lst (List.replicate k.toNat xs).flatten)) else .bad
  | _, _ => .bad
theorem RepVs.rep {K : PySem.W.Frag} {ρ : Nat → Addr} {n : Nat} {H : Hp} {xs : List A} {vs : List V} (r : RepVs T K ρ n H xs vs) : ∀ k, RepVs T K ρ n H (List.replicate k xs).flatten (List.replicate k vs).flatten
  | 0 => rfl
  | k + 1 => by
    rw [List.replicate_succ, List.replicate_succ, List.flatten_cons, List.flatten_cons]
    exact r.append (RepVs.rep r k)
theorem op2_repL : Op2 T X cls W rRep oRepL := by
  intro ρ h H σ L a b va vb Q F ra rb p
  unfold oRepL at p
  split at p
  · split at p
    · rename_i xs k e1 hz
      simp only [Bool.and_eq_true, decide_eq_true_eq] at hz
      obtain ⟨l, vs, rfl, rfl, _, q1, r1⟩ := lst_ok F e1 ra
      cases rb
      exact ⟨_, k, vs, rfl, rfl, q1, by omega, by omega, by rw [RepVs.length r1, ← sz_eq]; exact hz.2.2, fun q hq => new_lst F (r1.rep _) p hq⟩
    · exact p.elim
  · exact p.elim
def oMul : O2 := orE oMulI oRepL
theorem s_mul {a b : Expr} {ma mb : ME} {pos : Pos} (ha : SE T X cls W a ma) (hb : SE T X cls W b mb) : SE T X cls W (.BinOp a .Mult b pos) (e2 oMul ma mb) :=
  s_bin (op_mul.or op_rep) (Op2.or op2_mulI op2_repL) ha hb

/-! ### == and != of data -/
def FU : Nat := 2000
mutual
theorem dat_ok {ρ : Nat → Addr} {h : Hq} {H : Hp} {σ : L2.St} {L : Lc} (F : Fm T X cls ρ h L σ H) : ∀ (f : Nat) (a : A) (v : V) (d : PyData), A.dat h f a = some d → RepV T X.K ρ h.n H a v → Dp X.K H v d
  | _, .non, v, d, e, r => by cases r; simp only [A.dat] at e; cases e; exact .non
  | _, .bl b, v, d, e, r => by cases r; simp only [A.dat] at e; cases e; exact .bl b
  | _, .int i, v, d, e, r => by cases r; simp only [A.dat] at e; cases e; exact .int i
  | _, .str x, v, d, e, r => by cases r; simp only [A.dat] at e; cases e; exact .str x
  | f + 1, .tup xs, v, d, e, r => by
    simp only [A.dat] at e
    obtain ⟨ds, e1, rfl⟩ := Option.map_eq_some_iff.mp e
    simp only [RepV] at r
    obtain ⟨p, vs, rfl, q, r⟩ := r
    exact .tup q (dats_ok F f xs vs ds e1 r)
  | f + 1, .ref l, v, d, e, r => by
    simp only [A.dat] at e
    have r0 := r
    simp only [RepV] at r
    obtain ⟨rfl, hl⟩ := r
    cases eo : h.get l with
    | none => rw [eo] at e; cases e
    | some o =>
      rw [eo] at e
      cases o with
      | lst xs =>
        obtain ⟨ds, e1, rfl⟩ := Option.map_eq_some_iff.mp e
        obtain ⟨vs, q, r⟩ := F.rep eo rfl
        exact .lst (SqL.of q) (dats_ok F f xs vs ds e1 r)
      | rol xs =>
        obtain ⟨ds, e1, rfl⟩ := Option.map_eq_some_iff.mp e
        by_cases hc : some l ∈ cls
        · obtain ⟨i, hi⟩ := List.mem_iff_getElem?.mp hc
          obtain ⟨_, ov, _, _, _, _, z, _⟩ := F.cel i l hi
          rw [eo] at z; cases z
        · obtain ⟨vs, q, r⟩ := (F.obj l _ eo).2 hc
          exact .lst q.sq (dats_ok F f xs vs ds e1 r)
      | dic kvs => cases e
      | dit kvs => cases e
      | ins c fs => cases e
      | cel v => cases e
      | exc c fs => cases e
      | lok xs => cases e
  | 0, .tup xs, v, d, e, r => by simp only [A.dat] at e; cases e
  | 0, .ref l, v, d, e, r => by simp only [A.dat] at e; cases e
  | 0, .fn k, v, d, e, r => by simp only [A.dat] at e; cases e
  | _ + 1, .fn k, v, d, e, r => by simp only [A.dat] at e; cases e
  | 0, .clo k cs, v, d, e, r => by simp only [A.dat] at e; cases e
  | _ + 1, .clo k cs, v, d, e, r => by simp only [A.dat] at e; cases e
  | 0, .ty t, v, d, e, r => by simp only [A.dat] at e; cases e
  | _ + 1, .ty t, v, d, e, r => by simp only [A.dat] at e; cases e
theorem dats_ok {ρ : Nat → Addr} {h : Hq} {H : Hp} {σ : L2.St} {L : Lc} (F : Fm T X cls ρ h L σ H) : ∀ (f : Nat) (xs : List A) (vs : List V) (ds : List PyData), A.dats h f xs = some ds → RepVs T X.K ρ h.n H xs vs → DpAll X.K H vs ds
  | 0, [], vs, ds, e, r => by simp only [A.dats] at e; cases e; simp only [RepVs] at r; subst r; exact .nil
  | _ + 1, [], vs, ds, e, r => by simp only [A.dats] at e; cases e; simp only [RepVs] at r; subst r; exact .nil
  | 0, x :: xs, vs, ds, e, r => by simp only [A.dats] at e; cases e
  | f + 1, x :: xs, vs, ds, e, r => by
    simp only [A.dats] at e
    simp only [RepVs] at r
    obtain ⟨y, ys, rfl, r1, r2⟩ := r
    cases e1 : A.dat h f x with
    | none => rw [e1] at e; cases e
    | some d =>
      cases e2 : A.dats h f xs with
      | none => rw [e1, e2] at e; cases e
      | some ds' =>
        rw [e1, e2] at e
        cases e
        exact .cons (dat_ok F f x y d e1 r1) (dats_ok F f xs ys ds' e2 r2)
end
def oEqB (neg : Bool) : O2 := fun a b h => match A.dat h FU a, A.dat h FU b with
  | some d, some e => if SeqAt.shaped d && SeqAt.shaped e then .ok (.bl (if neg then !PyData.eqv d e else PyData.eqv d e)) h else .bad
  | _, _ => .bad
def oEq : O2 := oEqB false
def oNe : O2 := oEqB true
theorem op2_eq : Op2 T X cls W (rEqD X.K) oEq := by
  intro ρ h H σ L a b va vb Q F ra rb p
  unfold oEq oEqB at p
  split at p
  · split at p
    · rename_i d e e1 e2 hz
      simp only [Bool.and_eq_true] at hz
      exact ⟨d, e, dat_ok F _ _ _ _ e1 ra, dat_ok F _ _ _ _ e2 rb, hz.1, hz.2, p.here F rfl⟩
    · exact p.elim
  · exact p.elim
theorem op2_ne : Op2 T X cls W (rNeD X.K) oNe := by
  intro ρ h H σ L a b va vb Q F ra rb p
  unfold oNe oEqB at p
  split at p
  · split at p
    · rename_i d e e1 e2 hz
      simp only [Bool.and_eq_true] at hz
      exact ⟨d, e, dat_ok F _ _ _ _ e1 ra, dat_ok F _ _ _ _ e2 rb, hz.1, hz.2, p.here F rfl⟩
    · exact p.elim
  · exact p.elim

/-! ### is -/
def oIs (neg : Bool) : O2 := fun a b h => match b with
  | .non => .ok (.bl (match a with | .non => !neg | _ => neg)) h
  | .bl c => match a with
    | .bl d => .ok (.bl (if neg then !decide (d = c) else decide (d = c))) h
    | _ => .bad
  | _ => .bad
theorem rep_non {K : PySem.W.Frag} {ρ : Nat → Addr} {n : Nat} {H : Hp} {a : A} {v : V} (r : RepV T K ρ n H a v) : decide (v = .non) = match a with | .non => true | _ => false := by
  cases a with
  | non => cases r; rfl
  | bl b => cases r; rfl
  | int i => cases r; rfl
  | str s => cases r; rfl
  | tup xs => simp only [RepV] at r; obtain ⟨p, vs, rfl, _⟩ := r; rfl
  | ref l => simp only [RepV] at r; obtain ⟨rfl, _⟩ := r; rfl
  | fn k => cases r; rfl
  | clo k cs => simp only [RepV] at r; obtain ⟨f, rfl, _⟩ := r; rfl
  | ty t => cases r; rfl
theorem op2_is : Op2 T X cls W (fun x y H Q => (y = .non ∧ Q (.bl (decide (x = .non))) H) ∨ rIsB x y H Q) (oIs false) := by
  intro ρ h H σ L a b va vb Q F ra rb p
  unfold oIs at p
  split at p
  · cases rb
    refine .inl ⟨rfl, ?_⟩
    rw [rep_non ra]
    exact p.here F (by cases a <;> rfl)
  · split at p
    · cases ra; cases rb
      exact .inr ⟨_, _, rfl, rfl, p.here F rfl⟩
    · exact p.elim
  · exact p.elim
theorem op2_isnot : Op2 T X cls W (fun x y H Q => (y = .non ∧ Q (.bl (!decide (x = .non))) H) ∨ rNotB x y H Q) (oIs true) := by
  intro ρ h H σ L a b va vb Q F ra rb p
  unfold oIs at p
  split at p
  · cases rb
    refine .inl ⟨rfl, ?_⟩
    rw [rep_non ra]
    exact p.here F (by cases a <;> rfl)
  · split at p
    · cases ra; cases rb
      exact .inr ⟨_, _, rfl, rfl, p.here F rfl⟩
    · exact p.elim
  · exact p.elim
end
end Zk
end
section
set_option Elab.async false
set_option linter.all false
set_option maxRecDepth 100000
/-! Zk10: comparisons, and, or, not, if as values and tests. -/
namespace Zk
open PySem PySem.Spec PyProof.Rows L2 NdefX LamX

/-- a comparison by plain values -/
def CmpOk (T : Tb) (X : Cx) (cls : List (Option Nat)) (W : WX) (op : CmpOp) (f : O2) : Prop := ∀ {pins : List (Addr × Obj)} {s : Shared} {ρ : Nat → Addr} {h : Hq} {H : Hp} {σ : L2.St} {L : Lc} {a b : A} {va vb : V} {u w : Value} {Q : VK},
  L2.Inv X pins σ H s → Fm T X cls ρ h L σ H → RepV T X.K ρ h.n H a va → RepV T X.K ρ h.n H b vb → RelV va u → RelV vb w → PostE T X cls W ρ h H σ L Q (f a b h) → wpAny (model X.prog X.w) X.A (compareOp op u w) (EP X pins σ Q) X.xe s
def isB (r : Res A) : Res Bool := r.bind fun z h => match z with
  | .bl b => .ok b h
  | _ => .bad
def tB2 (m : ME) : MT := fun L h => isB (m L h)
def eChain (f g : O2) (ma mb mc : ME) : ME := fun L h => (ma L h).bind fun a h1 => (mb L h1).bind fun b h2 => (isB (f a b h2)).bind fun t h3 => if t = true then (mc L h3).bind fun c h4 => g b c h4 else .ok (.bl false) h3
section
variable {T : Tb} {X : Cx} {cls : List (Option Nat)} {W : WX}
theorem CmpOk.of {op : CmpOp} {r : R2} {f : O2} (ho : OpR X (compareOp op) r) (hf : Op2 T X cls W r f) : CmpOk T X cls W op f := by
  intro pins s ρ h H σ L a b va vb u w Q I F ra rb ru rw p
  exact ho pins s σ H va vb u w Q I ru rw (hf F ra rb p)
theorem CmpOk.or {op : CmpOp} {f g : O2} (h1 : CmpOk T X cls W op f) (h2 : CmpOk T X cls W op g) : CmpOk T X cls W op (orE f g) := by
  intro pins s ρ h H σ L a b va vb u w Q I F ra rb ru rw p
  unfold orE at p
  cases e : f a b h with
  | bad => rw [e] at p; exact h2 I F ra rb ru rw p
  | ok c h' => rw [e] at p; exact h1 I F ra rb ru rw (by rw [e]; exact p)
  | err c fs h' => rw [e] at p; exact h1 I F ra rb ru rw (by rw [e]; exact p)
/-- what is behind a value within another -/
theorem SE.then {e : Expr} {m : ME} (he : SE T X cls W e m) {pins : List (Addr × Obj)} {s : Shared} {σ : L2.St} {H : Hp} {ρ : Nat → Addr} {h : Hq} {L : Lc} {R : VK} {Q : Value → Shared → Prop} {f : A → Hq → Res A} (I : L2.Inv X pins σ H s) (F : Fm T X cls ρ h L σ H)
    (p : PostE T X cls W ρ h H σ L R ((m L h).bind f))
    (k : ∀ (a : A) (h1 : Hq) (ρ1 : Nat → Addr) (H1 : Hp) (s1 : Shared) (v : V) (u : Value), L2.Inv X pins σ H1 s1 → Step [] ρ h H ρ1 h1 H1 → Fm T X cls ρ1 h1 L σ H1 → RelV v u → RepV T X.K ρ1 h1.n H1 a v → PostE T X cls W ρ1 h1 H1 σ L R (f a h1) → Q u s1) :
    wpAny (model X.prog X.w) X.A (eval e X.env) Q X.xe s := by
  refine SE.runs he I F ?_
  cases e1 : m L h with
  | err c fs h1 => rw [e1] at p; exact p
  | bad => rw [e1] at p; exact p
  | ok a h1 => rw [e1] at p; exact fun ρ1 H1 s1 v u I1 st F1 ru rv => k a h1 ρ1 H1 s1 v u I1 st F1 ru rv (PostE.of st p)
theorem s_cmpv {op : CmpOp} {f : O2} {a b : Expr} {ma mb : ME} {pos : Pos} (ho : CmpOk T X cls W op f) (ha : SE T X cls W a ma) (hb : SE T X cls W b mb) (hm : behindInMarks op b = false := by first | exact nobehind _ (by decide) (by decide) | rfl) : SE T X cls W (.Compare a [op] [b] pos) (e2 f ma mb) := by
  refine ⟨fun pins s σ H Q I ⟨ρ, h, L, F, p⟩ => wpAny_Compare1 ?_ hm⟩
  refine ha.then I F p fun x h1 ρ1 H1 s1 v u I1 st1 F1 ru rv p1 => ?_
  exact hb.then I1 F1 p1 fun y h2 ρ2 H2 s2 v2 u2 I2 st2 F2 ru2 rv2 p2 => ho I2 F2 (RepV.step st2.wk _ _ rv) rv2 ru ru2 p2
/-- a test's wish, as a value's -/
theorem PostT.toE {ρ : Nat → Addr} {h : Hq} {H : Hp} {σ : L2.St} {L : Lc} {Q : Bool → Hp → Prop} {r : Res A} (p : PostT T X cls W ρ h H σ L Q (isB r)) : PostE T X cls W ρ h H σ L (fun v H' => ∃ k, v = .bl k ∧ Q k H') r := by
  unfold isB at p
  exact PostT.bindE p fun a h1 ρ1 H1 v st F1 rv p1 => by
    cases a with
    | bl b => cases rv; exact ⟨b, rfl, p1.here F1⟩
    | _ => exact p1.elim
theorem t_cmpv {op : CmpOp} {f : O2} {a b : Expr} {ma mb : ME} {pos : Pos} (ho : CmpOk T X cls W op f) (ha : SE T X cls W a ma) (hb : SE T X cls W b mb) (hm : behindInMarks op b = false := by first | exact nobehind _ (by decide) (by decide) | rfl) : ST T X cls W (.Compare a [op] [b] pos) (tB2 (e2 f ma mb)) := by
  refine ⟨fun pins s σ H Q I ⟨ρ, h, L, F, p⟩ => wpAny_isTrue_Compare1 ?_ hm⟩
  have p : PostE T X cls W ρ h H σ L _ (e2 f ma mb L h) := PostT.toE p
  refine ha.then I F p fun x h1 ρ1 H1 s1 v u I1 st1 F1 ru rv p1 => ?_
  refine hb.then I1 F1 p1 fun y h2 ρ2 H2 s2 v2 u2 I2 st2 F2 ru2 rv2 p2 => ?_
  refine thn (ho I2 F2 (RepV.step st2.wk _ _ rv) rv2 ru ru2 p2) fun c s3 ⟨z, H3, I3, r3, k, e, q3⟩ => ?_
  subst e
  cases r3
  exact wpAny_truthy_bool ⟨H3, I3, q3⟩
theorem s_chain {op op' : CmpOp} {f g : O2} {a b c : Expr} {ma mb mc : ME} {pos : Pos} (ho : CmpOk T X cls W op f) (ho' : CmpOk T X cls W op' g) (ha : SE T X cls W a ma) (hb : SE T X cls W b mb) (hc : SE T X cls W c mc)
    (hm : lastMarks [op, op'] [b, c] = false := by with_unfolding_all rfl) : SE T X cls W (.Compare a [op, op'] [b, c] pos) (eChain f g ma mb mc) := by
  refine ⟨fun pins s σ H Q I ⟨ρ, h, L, F, p⟩ => Compare_chain ?_ hm⟩
  refine ha.then I F p fun x h1 ρ1 H1 s1 v u I1 st1 F1 ru rv p1 => chain_link ?_
  refine hb.then I1 F1 p1 fun y h2 ρ2 H2 s2 v2 u2 I2 st2 F2 ru2 rv2 p2 => ?_
  have p3 : PostE T X cls W ρ2 h2 H2 σ L (fun v H' => ∃ k, v = .bl k ∧ ∃ (ρ3 : Nat → Addr) (h3 : Hq), Step [] ρ2 h2 H2 ρ3 h3 H' ∧ Fm T X cls ρ3 h3 L σ H' ∧ PostE T X cls W ρ3 h3 H' σ L Q (if k = true then (mc L h3).bind fun c h4 => g y c h4 else .ok (.bl false) h3)) (f x y h2) :=
    PostT.toE (PostE.bindT p2 fun k h3 ρ3 H3 st3 F3 p3 => ⟨ρ3, h3, st3, F3, p3⟩)
  refine thn (ho I2 F2 (RepV.step st2.wk _ _ rv) rv2 ru ru2 p3) fun d s3 ⟨z, H3, I3, r3, k, e, ρ3, h3, st3, F3, p4⟩ => ?_
  subst e
  cases r3
  refine wpAny_truthy_bool ?_
  cases k with
  | false => exact ite_ff ⟨.bl false, H3, I3, rfl, p4.here F3 rfl⟩
  | true =>
    have p4 : PostE T X cls W ρ3 h3 H3 σ L Q ((mc L h3).bind fun c h4 => g y c h4) := p4
    exact ite_tt (chain_last (hc.then I3 F3 p4 fun c h4 ρ4 H4 s4 v4 u4 I4 st4 F4 ru4 rv4 p5 => ho' I4 F4 (RepV.step (st3.trans st4).wk _ _ rv2) rv4 ru2 ru4 p5))
theorem t_chain {op op' : CmpOp} {f g : O2} {a b c : Expr} {ma mb mc : ME} {pos : Pos} (ho : CmpOk T X cls W op f) (ho' : CmpOk T X cls W op' g) (ha : SE T X cls W a ma) (hb : SE T X cls W b mb) (hc : SE T X cls W c mc)
    (hm : lastMarks [op, op'] [b, c] = false := by with_unfolding_all rfl) : ST T X cls W (.Compare a [op, op'] [b, c] pos) (tB2 (eChain f g ma mb mc)) := by
  refine ⟨fun pins s σ H Q I ⟨ρ, h, L, F, p⟩ => isTrue_chain ?_ hm⟩
  have p : PostE T X cls W ρ h H σ L _ (eChain f g ma mb mc L h) := PostT.toE p
  refine ha.then I F p fun x h1 ρ1 H1 s1 v u I1 st1 F1 ru rv p1 => test_link ?_
  refine hb.then I1 F1 p1 fun y h2 ρ2 H2 s2 v2 u2 I2 st2 F2 ru2 rv2 p2 => ?_
  have p3 : PostE T X cls W ρ2 h2 H2 σ L (fun v H' => ∃ k, v = .bl k ∧ ∃ (ρ3 : Nat → Addr) (h3 : Hq), Step [] ρ2 h2 H2 ρ3 h3 H' ∧ Fm T X cls ρ3 h3 L σ H' ∧ PostE T X cls W ρ3 h3 H' σ L (fun v H' => ∃ k, v = .bl k ∧ Q k H') (if k = true then (mc L h3).bind fun c h4 => g y c h4 else .ok (.bl false) h3)) (f x y h2) :=
    PostT.toE (PostE.bindT p2 fun k h3 ρ3 H3 st3 F3 p3 => ⟨ρ3, h3, st3, F3, p3⟩)
  refine thn (ho I2 F2 (RepV.step st2.wk _ _ rv) rv2 ru ru2 p3) fun d s3 ⟨z, H3, I3, r3, k, e, ρ3, h3, st3, F3, p4⟩ => ?_
  subst e
  cases r3
  refine wpAny_truthy_bool ?_
  cases k with
  | false =>
    obtain ⟨k', e', q'⟩ := p4.here F3 (v := .bl false) rfl
    cases e'
    exact ite_ff ⟨H3, I3, q'⟩
  | true =>
    have p4 : PostE T X cls W ρ3 h3 H3 σ L (fun v H' => ∃ k, v = .bl k ∧ Q k H') ((mc L h3).bind fun c h4 => g y c h4) := p4
    refine ite_tt (test_last (hc.then I3 F3 p4 fun c h4 ρ4 H4 s4 v4 u4 I4 st4 F4 ru4 rv4 p5 => ?_))
    refine thn (ho' I4 F4 (RepV.step (st3.trans st4).wk _ _ rv2) rv4 ru2 ru4 p5) fun d' s5 ⟨z2, H5, I5, r5, k2, e2, q5⟩ => ?_
    subst e2
    cases r5
    exact wpAny_truthy_bool ⟨H5, I5, q5⟩
theorem c_lt : CmpOk T X cls W .Lt oLt := CmpOk.of op_lt op2_lt
theorem c_le : CmpOk T X cls W .LtE oLe := CmpOk.of op_le op2_le
theorem c_gt : CmpOk T X cls W .Gt oGt := CmpOk.of op_gt op2_gt
theorem c_ge : CmpOk T X cls W .GtE oGe := CmpOk.of op_ge op2_ge
theorem c_eq {k : Nat} (ar : Arnd k X.A) : CmpOk T X cls W .Eq oEq := CmpOk.of (op_eqD ar.room.units) op2_eq
theorem c_ne {k : Nat} (ar : Arnd k X.A) : CmpOk T X cls W .NotEq oNe := CmpOk.of (op_neD ar.room.units) op2_ne
theorem c_is : CmpOk T X cls W .Is (oIs false) := CmpOk.of (op_isN.or op_isBl) op2_is
theorem c_isnot : CmpOk T X cls W .IsNot (oIs true) := CmpOk.of (op_notN.or op_notBl) op2_isnot

/-! ### in -/
def flatA : A → Bool
  | .non | .bl _ | .int _ | .str _ => true
  | _ => false
def toV : A → V
  | .bl b => .bl b
  | .int i => .int i
  | .str s => .str s
  | _ => .non
theorem flat_rep {K : PySem.W.Frag} {ρ : Nat → Addr} {n : Nat} {H : Hp} {a : A} {v : V} (e : flatA a = true) (r : RepV T K ρ n H a v) : v = toV a ∧ flatV v = true := by
  cases a with
  | non => cases r; exact ⟨rfl, rfl⟩
  | bl b => cases r; exact ⟨rfl, rfl⟩
  | int i => cases r; exact ⟨rfl, rfl⟩
  | str s => cases r; exact ⟨rfl, rfl⟩
  | _ => cases e
theorem flats_rep {K : PySem.W.Frag} {ρ : Nat → Addr} {n : Nat} {H : Hp} : ∀ {xs : List A} {vs : List V}, xs.all flatA = true → RepVs T K ρ n H xs vs → vs = xs.map toV ∧ vs.all flatV = true
  | [], _, _, r => by simp only [RepVs] at r; subst r; exact ⟨rfl, rfl⟩
  | x :: xs, _, e, r => by
    simp only [RepVs] at r
    obtain ⟨y, ys, rfl, r1, r2⟩ := r
    simp only [List.all_cons, Bool.and_eq_true] at e
    obtain ⟨e1, e2⟩ := flat_rep e.1 r1
    obtain ⟨e3, e4⟩ := flats_rep e.2 r2
    exact ⟨by rw [e1, e3]; rfl, by rw [List.all_cons, e2, e4]; rfl⟩
def oInF (neg : Bool) : O2 := fun a b h => match seqOf h b with
  | some xs => if flatA a && xs.all flatA then .ok (.bl (if neg then !(xs.any fun y => eqV (toV y) (toV a)) else xs.any fun y => eqV (toV y) (toV a))) h else .bad
  | none => .bad
theorem op2_inF {neg : Bool} : Op2 T X cls W (rIn X.K neg) (oInF neg) := by
  intro ρ h H σ L a b va vb Q F ra rb p
  unfold oInF at p
  split at p
  · split at p
    · rename_i xs e1 hz
      simp only [Bool.and_eq_true] at hz
      obtain ⟨q, vs, rfl, hq, rv⟩ := seq_ok F e1 rb
      obtain ⟨e2, f2⟩ := flat_rep hz.1 ra
      obtain ⟨e3, f3⟩ := flats_rep hz.2 rv
      refine ⟨q, vs, rfl, hq.symm, f2, f3, p.here F ?_⟩
      have e4 : inV va vs = xs.any fun y => eqV (toV y) (toV a) := by
        rw [e2, e3]
        unfold inV
        rw [List.any_map]
        rfl
      rw [e4]
      rfl
    · exact p.elim
  · exact p.elim
def oInD (neg : Bool) : O2 := fun a b h => match A.dat h FU a, A.dat h FU b with
  | some d, some (.list ds) => if SeqAt.shaped d && SeqAt.shaped (.list ds) then .ok (.bl (if neg then !(ds.any fun z => PyData.eqv z d) else ds.any fun z => PyData.eqv z d)) h else .bad
  | _, _ => .bad
theorem op2_inD : Op2 T X cls W (rInD X.K) (oInD false) := by
  intro ρ h H σ L a b va vb Q F ra rb p
  unfold oInD at p
  split at p
  · split at p
    · rename_i d e e1 e2 hz
      simp only [Bool.and_eq_true] at hz
      exact ⟨d, e, dat_ok F _ _ _ _ e1 ra, dat_ok F _ _ _ _ e2 rb, hz.1, hz.2, p.here F rfl⟩
    · exact p.elim
  · exact p.elim
theorem op2_ninD : Op2 T X cls W (rNotInD X.K) (oInD true) := by
  intro ρ h H σ L a b va vb Q F ra rb p
  unfold oInD at p
  split at p
  · split at p
    · rename_i d e e1 e2 hz
      simp only [Bool.and_eq_true] at hz
      exact ⟨d, e, dat_ok F _ _ _ _ e1 ra, dat_ok F _ _ _ _ e2 rb, hz.1, hz.2, p.here F rfl⟩
    · exact p.elim
  · exact p.elim
def oInS (neg : Bool) : O2 := fun a b h => match a, b with
  | .str x, .str z => match x.cps.toList with
    | [c] => .ok (.bl (if neg then !decide (c ∈ z.cps.toList) else decide (c ∈ z.cps.toList))) h
    | _ => .bad
  | _, _ => .bad
theorem one_sign {x : Str} {c : Nat} (e : x.cps.toList = [c]) : x = ⟨#[c]⟩ := by
  obtain ⟨⟨l⟩⟩ := x
  simp only at e
  rw [e]
theorem op2_inS : Op2 T X cls W (fun x y H Q => ∃ (c : Nat) (z : Str), x = .str ⟨#[c]⟩ ∧ y = .str z ∧ Q (.bl (decide (c ∈ z.cps.toList))) H) (oInS false) := by
  intro ρ h H σ L a b va vb Q F ra rb p
  unfold oInS at p
  split at p
  · split at p
    · rename_i c e
      cases ra; cases rb
      exact ⟨c, _, by rw [one_sign e], rfl, p.here F rfl⟩
    · exact p.elim
  · exact p.elim
theorem op2_ninS : Op2 T X cls W (fun x y H Q => ∃ (c : Nat) (z : Str), x = .str ⟨#[c]⟩ ∧ y = .str z ∧ Q (.bl (!decide (c ∈ z.cps.toList))) H) (oInS true) := by
  intro ρ h H σ L a b va vb Q F ra rb p
  unfold oInS at p
  split at p
  · split at p
    · rename_i c e
      cases ra; cases rb
      exact ⟨c, _, by rw [one_sign e], rfl, p.here F rfl⟩
    · exact p.elim
  · exact p.elim
/-! dicts, as tables -/
def keyOf : A → Option Key
  | .int i => some (.inl i)
  | .str s => some (.inr s)
  | _ => none
def keysOf : List A → Option (List Key)
  | [] => some []
  | x :: xs => match keyOf x, keysOf xs with
    | some k, some ks => some (k :: ks)
    | _, _ => none
def valA {κ : Type} [DecidableEq κ] (kvs : List (κ × A)) (k : κ) : Option A := (kvs.find? fun kv => decide (kv.1 = k)).map (·.2)
def putA {κ : Type} [DecidableEq κ] (kvs : List (κ × A)) (k : κ) (v : A) : List (κ × A) :=
  if (kvs.any fun kv => decide (kv.1 = k)) = true then kvs.map (fun kv => if kv.1 = k then (kv.1, v) else kv) else kvs ++ [(k, v)]
def dropA {κ : Type} [DecidableEq κ] (kvs : List (κ × A)) (k : κ) : List (κ × A) := kvs.filter fun kv => decide (kv.1 ≠ k)
theorem key_rep {K : PySem.W.Frag} {ρ : Nat → Addr} {n : Nat} {H : Hp} {a : A} {v : V} {k : Key} (e : keyOf a = some k) (r : RepV T K ρ n H a v) : v = kV k := by
  cases a with
  | int i => cases e; cases r; rfl
  | str s => cases e; cases r; rfl
  | _ => cases e
theorem keys_rep {K : PySem.W.Frag} {ρ : Nat → Addr} {n : Nat} {H : Hp} : ∀ {xs : List A} {vs : List V} {ks : List Key}, keysOf xs = some ks → RepVs T K ρ n H xs vs → vs = ks.map kV
  | [], _, _, e, r => by cases e; simp only [RepVs] at r; subst r; rfl
  | x :: xs, _, _, e, r => by
    simp only [RepVs] at r
    obtain ⟨y, ys, rfl, r1, r2⟩ := r
    simp only [keysOf] at e
    cases e1 : keyOf x with
    | none => rw [e1] at e; cases e
    | some k =>
      cases e2 : keysOf xs with
      | none => rw [e1, e2] at e; cases e
      | some ks =>
        rw [e1, e2] at e
        cases e
        rw [key_rep e1 r1, keys_rep e2 r2]
        rfl
theorem RepKs.len {κ : Type} {K : PySem.W.Frag} {ρ : Nat → Addr} {n : Nat} {H : Hp} {kvs : List (κ × A)} {ws : List (κ × V)} (r : RepKs T K ρ n H kvs ws) : kvs.length = ws.length := Paired.length r
theorem RepKs.val {κ : Type} [DecidableEq κ] {K : PySem.W.Frag} {ρ : Nat → Addr} {n : Nat} {H : Hp} (k : κ) : ∀ {kvs : List (κ × A)} {ws : List (κ × V)}, RepKs T K ρ n H kvs ws → match valA kvs k with
    | some a => ∃ v, valV ws k = some v ∧ RepV T K ρ n H a v
    | none => valV ws k = none
  | _, _, .nil => rfl
  | (k1, a) :: kvs, (k2, v) :: ws, .cons q t => by
    obtain ⟨e, r⟩ := q
    simp only at e r
    subst e
    have ih := RepKs.val k t
    by_cases hk : k1 = k
    · subst hk
      simp only [valA, valV, List.find?_cons, decide_true, Option.map_some]
      exact ⟨v, rfl, r⟩
    · simp only [valA, valV, List.find?_cons, decide_eq_false hk] at ih ⊢
      exact ih
theorem RepKs.isSome {κ : Type} [DecidableEq κ] {K : PySem.W.Frag} {ρ : Nat → Addr} {n : Nat} {H : Hp} (k : κ) {kvs : List (κ × A)} {ws : List (κ × V)} (r : RepKs T K ρ n H kvs ws) : (valV ws k).isSome = (valA kvs k).isSome := by
  have hv := r.val k
  cases e1 : valA kvs k with
  | none => rw [e1] at hv; rw [show valV ws k = none from hv]; rfl
  | some x => rw [e1] at hv; obtain ⟨v, hv, _⟩ := hv; rw [hv]; rfl
theorem RepKs.any {κ : Type} [DecidableEq κ] {K : PySem.W.Frag} {ρ : Nat → Addr} {n : Nat} {H : Hp} (k : κ) : ∀ {kvs : List (κ × A)} {ws : List (κ × V)}, RepKs T K ρ n H kvs ws → (kvs.any fun kv => decide (kv.1 = k)) = ws.any fun kv => decide (kv.1 = k)
  | _, _, .nil => rfl
  | (k1, a) :: kvs, (k2, v) :: ws, .cons q t => by
    obtain ⟨e, r⟩ := q
    simp only at e
    subst e
    rw [List.any_cons, List.any_cons, RepKs.any k t]
theorem RepKs.putM {κ : Type} [DecidableEq κ] {K : PySem.W.Frag} {ρ : Nat → Addr} {n : Nat} {H : Hp} {k : κ} {a : A} {v : V} (ra : RepV T K ρ n H a v) : ∀ {kvs : List (κ × A)} {ws : List (κ × V)}, RepKs T K ρ n H kvs ws → RepKs T K ρ n H (kvs.map fun kv => if kv.1 = k then (kv.1, a) else kv) (ws.map fun kv => if kv.1 = k then (kv.1, v) else kv)
  | _, _, .nil => .nil
  | (k1, b) :: kvs, (k2, w) :: ws, .cons q t => by
    obtain ⟨e, r1⟩ := q
    simp only at e r1
    subst e
    rw [List.map_cons, List.map_cons]
    by_cases hk : k1 = k
    · simp only [if_pos hk]; exact .cons ⟨rfl, ra⟩ (RepKs.putM ra t)
    · simp only [if_neg hk]; exact .cons ⟨rfl, r1⟩ (RepKs.putM ra t)
theorem RepKs.putE {κ : Type} {K : PySem.W.Frag} {ρ : Nat → Addr} {n : Nat} {H : Hp} {k : κ} {a : A} {v : V} (ra : RepV T K ρ n H a v) : ∀ {kvs : List (κ × A)} {ws : List (κ × V)}, RepKs T K ρ n H kvs ws → RepKs T K ρ n H (kvs ++ [(k, a)]) (ws ++ [(k, v)])
  | _, _, .nil => .cons ⟨rfl, ra⟩ .nil
  | _ :: _, _ :: _, .cons q t => .cons q (RepKs.putE ra t)
theorem RepKs.put {κ : Type} [DecidableEq κ] {K : PySem.W.Frag} {ρ : Nat → Addr} {n : Nat} {H : Hp} {k : κ} {a : A} {v : V} {kvs : List (κ × A)} {ws : List (κ × V)} (r : RepKs T K ρ n H kvs ws) (ra : RepV T K ρ n H a v) : RepKs T K ρ n H (putA kvs k a) (putK ws k v) := by
  unfold putA putK
  rw [r.any k]
  split
  · exact RepKs.putM ra r
  · exact RepKs.putE ra r
theorem RepKs.drop {κ : Type} [DecidableEq κ] {K : PySem.W.Frag} {ρ : Nat → Addr} {n : Nat} {H : Hp} {k : κ} : ∀ {kvs : List (κ × A)} {ws : List (κ × V)}, RepKs T K ρ n H kvs ws → RepKs T K ρ n H (dropA kvs k) (dropK ws k)
  | _, _, .nil => .nil
  | (k1, a) :: kvs, (k2, v) :: ws, .cons q t => by
    obtain ⟨e, r⟩ := q
    simp only at e r
    subst e
    have ih := RepKs.drop (k := k) t
    by_cases hk : k1 = k
    · have z : decide (k1 ≠ k) = false := by simp [hk]
      simp only [dropA, dropK, List.filter_cons, z] at ih ⊢
      exact ih
    · have z : decide (k1 ≠ k) = true := by simp [hk]
      simp only [dropA, dropK, List.filter_cons, z] at ih ⊢
      exact .cons ⟨rfl, r⟩ ih
/-- what a dict holds at a value -/
def dget (h : Hq) (b a : A) : Option (Option A) := match b with
  | .ref l => match h.get l with
    | some (.dic kvs) => (keyOf a).map fun k => valA kvs k
    | some (.dit kvs) => match a with
      | .tup xs => (keysOf xs).map fun k => valA kvs k
      | _ => none
    | _ => none
  | _ => none
theorem SqT.tupOf {K : PySem.W.Frag} {H : Hp} {p : Addr} {xs : List V} (q : SqT K H p xs) : True := True.intro
def oInK (neg : Bool) : O2 := fun a b h => match b with
  | .ref l => match h.get l with
    | some (.dic kvs) => match keyOf a with
      | some k => .ok (.bl (if neg then !(valA kvs k).isSome else (valA kvs k).isSome)) h
      | none => .bad
    | _ => .bad
  | _ => .bad
/-- the table that stands at a dict -/
theorem dic_ok {ρ : Nat → Addr} {h : Hq} {H : Hp} {σ : L2.St} {L : Lc} (F : Fm T X cls ρ h L σ H) {l : Nat} {v : V} {kvs : List (Key × A)} (e : h.get l = some (.dic kvs)) (r : RepV T X.K ρ h.n H (.ref l) v) : ∃ ws, v = .ref (ρ l) ∧ H (ρ l) = some (.dK ws) ∧ RepKs T X.K ρ h.n H kvs ws := by
  simp only [RepV] at r
  obtain ⟨rfl, hl⟩ := r
  obtain ⟨ws, q, r⟩ := F.rep e rfl
  exact ⟨ws, rfl, q, r⟩
theorem c_inK {k : Nat} (ar : Arnd k X.A) : CmpOk T X cls W .In (oInK false) := by
  intro pins s ρ h H σ L a b va vb u w Q I F ra rb ru rw p
  cases b with
  | ref l =>
    simp only [oInK] at p
    cases eo : h.get l with
    | none => rw [eo] at p; exact p.elim
    | some o =>
      rw [eo] at p
      cases o with
      | dic kvs =>
        simp only at p
        cases ek : keyOf a with
        | none => rw [ek] at p; exact p.elim
        | some key =>
          rw [ek] at p
          obtain ⟨ws, rfl, q, r⟩ := dic_ok F eo rb
          have ev := key_rep ek ra
          subst ev
          obtain rfl : w = Value.ref (ρ l) := rw
          have hv := r.val key
          refine d_in (by have := ar.room.units; omega) I (DGet.k q) ru fun s' I' => ⟨.bl (valV ws key).isSome, H, I', rfl, ?_⟩
          rw [r.isSome key]
          exact PostE.here p F rfl
      | _ => exact p.elim
  | _ => exact p.elim
theorem c_ninK {k : Nat} (ar : Arnd k X.A) : CmpOk T X cls W .NotIn (oInK true) := by
  intro pins s ρ h H σ L a b va vb u w Q I F ra rb ru rw p
  cases b with
  | ref l =>
    simp only [oInK] at p
    cases eo : h.get l with
    | none => rw [eo] at p; exact p.elim
    | some o =>
      rw [eo] at p
      cases o with
      | dic kvs =>
        simp only at p
        cases ek : keyOf a with
        | none => rw [ek] at p; exact p.elim
        | some key =>
          rw [ek] at p
          obtain ⟨ws, rfl, q, r⟩ := dic_ok F eo rb
          have ev := key_rep ek ra
          subst ev
          obtain rfl : w = Value.ref (ρ l) := rw
          have hv := r.val key
          refine d_notIn (by have := ar.room.units; omega) I (DGet.k q) ru fun s' I' => ⟨.bl (!(valV ws key).isSome), H, I', rfl, ?_⟩
          rw [r.isSome key]
          exact PostE.here p F rfl
      | _ => exact p.elim
  | _ => exact p.elim
/-- a class of the text with its own __contains__ -/
def oInO (Φ : Dn) (tbl : Nat → Option Nat) (neg : Bool) : O2 := fun a b h => match b with
  | .ref l => match h.get l with
    | some (.ins c _) => match tbl c with
      | some j => (Φ (.fn j) [.ref l, a] [] h).bind fun r h1 => match r with
        | .bl t => .ok (.bl (if neg then !t else t)) h1
        | _ => .bad
      | none => .bad
    | _ => .bad
  | _ => .bad
def OwnOk (T : Tb) (K : PySem.W.Frag) (nm : Str) (tbl : Nat → Option Nat) : Prop := ∀ c j, tbl c = some j → PySem.W.findIn K (.ref (T.cA c)) nm = some (some (.ref (T.fA j))) ∧ PySem.W.isFn K (.ref (T.fA j)) = true
theorem c_inO {k : Nat} {Φ : Dn} {neg : Bool} {op : CmpOp} (hop : op = if neg then .NotIn else .In) (C : Cal T X W k Φ) {tbl : Nat → Option Nat} (ho : OwnOk T X.K "__contains__" tbl) : CmpOk T X cls W op (oInO Φ tbl neg) := by
  intro pins s ρ h H σ L a b va vb u w Q I F ra rb ru rw p
  cases b with
  | ref l =>
    simp only [oInO] at p
    have rb0 := rb
    simp only [RepV] at rb
    obtain ⟨rfl, hl⟩ := rb
    obtain rfl : w = Value.ref (ρ l) := rw
    cases eo : h.get l with
    | none => rw [eo] at p; exact p.elim
    | some o =>
      rw [eo] at p
      cases o with
      | ins c fs =>
        simp only at p
        obtain ⟨dx, ws, ei, rf⟩ := F.rep eo rfl
        cases ej : tbl c with
        | none => rw [ej] at p; exact p.elim
        | some j =>
          rw [ej] at p
          obtain ⟨h1, h2⟩ := ho c j ej
          obtain ⟨mA, O, _, _, _, _⟩ := ins_get I.hok ei
          obtain ⟨od, J, _⟩ := O.look
          obtain ⟨m, fr⟩ := I.fr
          have p3 : PostE T X cls W ρ h H σ L (fun v H' => ∃ t, v = .bl t ∧ Q (.bl (if neg then !t else t)) H') (Φ (.fn j) [.ref l, a] [] h) :=
            PostE.bindE p fun r h1 ρ1 H1 v st F1 rv p1 => by
              cases r with
              | bl t => cases rv; exact ⟨t, rfl, p1.here F1 rfl⟩
              | _ => exact p1.elim
          have rc := run_call (mg := X.mg) (fa := .fn j) (f := T.fA j) (us := [.ref (ρ l), u]) (vs := [.ref (ρ l), va]) (as := [.ref l, a]) (ku := []) (kv := []) (ka := []) C.lib C.ar C.tk C.nd I F rfl (.cons rfl (.cons ru .nil)) ⟨_, _, rfl, rb0, ⟨_, _, rfl, ra, rfl⟩⟩ .nil .nil p3
          cases neg with
          | false =>
            subst hop
            refine PySem.W.in_K fr I.ok.mod.kin J h1 h2 (thn rc fun z s1 ⟨v, H1, I1, r1, t, e, q⟩ => ?_)
            subst e
            cases r1
            exact wpAny_truthy_bool ⟨.bl t, H1, I1, rfl, q⟩
          | true =>
            subst hop
            refine PySem.W.notIn_K fr I.ok.mod.kin J h1 h2 (thn rc fun z s1 ⟨v, H1, I1, r1, t, e, q⟩ => ?_)
            subst e
            cases r1
            exact wpAny_truthy_bool ⟨.bl (!t), H1, I1, rfl, q⟩
      | _ => exact p.elim
  | _ => exact p.elim
def oIn (neg : Bool) : O2 := orE (oInK neg) (orE (oInS neg) (orE (oInF neg) (oInD neg)))
theorem units65 {k : Nat} (ar : Arnd k X.A) : X.A.units + 65 < cLine := by have := ar.room.un; omega
theorem c_in {k : Nat} (ar : Arnd k X.A) : CmpOk T X cls W .In (oIn false) := CmpOk.or (c_inK ar) (CmpOk.or (CmpOk.of op_in_sign op2_inS) (CmpOk.or (CmpOk.of op_in_seq op2_inF) (CmpOk.of (op_inD (units65 ar)) op2_inD)))
theorem c_nin {k : Nat} (ar : Arnd k X.A) : CmpOk T X cls W .NotIn (oIn true) := CmpOk.or (c_ninK ar) (CmpOk.or (CmpOk.of op_notIn_sign op2_ninS) (CmpOk.or (CmpOk.of op_notIn_seq op2_inF) (CmpOk.of (op_notInD (units65 ar)) op2_ninD)))
theorem c_inOwn {k : Nat} {Φ : Dn} (C : Cal T X W k Φ) {tbl : Nat → Option Nat} (ho : OwnOk T X.K "__contains__" tbl) : CmpOk T X cls W .In (orE (oInO Φ tbl false) (oIn false)) := CmpOk.or (c_inO rfl C ho) (c_in C.ar)
theorem c_ninOwn {k : Nat} {Φ : Dn} (C : Cal T X W k Φ) {tbl : Nat → Option Nat} (ho : OwnOk T X.K "__contains__" tbl) : CmpOk T X cls W .NotIn (orE (oInO Φ tbl true) (oIn true)) := CmpOk.or (c_inO rfl C ho) (c_nin C.ar)

/-! ### and, or, not, if as values -/
def eOr (a b : ME) : ME := fun L h => (a L h).bind fun x h1 => match truth h1 x with
  | some true => .ok x h1
  | some false => b L h1
  | none => .bad
def eAnd (a b : ME) : ME := fun L h => (a L h).bind fun x h1 => match truth h1 x with
  | some true => b L h1
  | some false => .ok x h1
  | none => .bad
def eNot (a : ME) : ME := fun L h => (a L h).bind fun x h1 => match truth h1 x with
  | some t => .ok (.bl (!t)) h1
  | none => .bad
def eIf (t : MT) (a b : ME) : ME := fun L h => (t L h).bind fun c h1 => if c = true then a L h1 else b L h1
theorem s_one {op : BoolOp} {a : Expr} {m : ME} {pos : Pos} (ha : SE T X cls W a m) : SE T X cls W (.BoolOp op [a] pos) m := pe_one ha
theorem s_or {a b : Expr} {rest : List Expr} {ma mb : ME} {pos : Pos} (ha : SE T X cls W a ma) (hb : SE T X cls W (.BoolOp .Or (b :: rest) pos) mb) : SE T X cls W (.BoolOp .Or (a :: b :: rest) pos) (eOr ma mb) := by
  refine PE.weak (pe_orT ha hb) fun σ H Q ⟨ρ, h, L, F, p⟩ => ⟨ρ, h, L, F, p.bindE fun x h1 ρ1 H1 v s1 F1 r1 p1 => ?_⟩
  cases e : truth h1 x with
  | none => rw [e] at p1; exact p1.elim
  | some t =>
    rw [e] at p1
    refine ⟨t, truth_ok F1 r1 e, ?_⟩
    cases t with
    | true => exact p1.here F1 r1
    | false => exact ⟨ρ1, h1, L, F1, p1⟩
theorem s_and {a b : Expr} {rest : List Expr} {ma mb : ME} {pos : Pos} (ha : SE T X cls W a ma) (hb : SE T X cls W (.BoolOp .And (b :: rest) pos) mb) : SE T X cls W (.BoolOp .And (a :: b :: rest) pos) (eAnd ma mb) := by
  refine PE.weak (pe_andT ha hb) fun σ H Q ⟨ρ, h, L, F, p⟩ => ⟨ρ, h, L, F, p.bindE fun x h1 ρ1 H1 v s1 F1 r1 p1 => ?_⟩
  cases e : truth h1 x with
  | none => rw [e] at p1; exact p1.elim
  | some t =>
    rw [e] at p1
    refine ⟨t, truth_ok F1 r1 e, ?_⟩
    cases t with
    | true => exact ⟨ρ1, h1, L, F1, p1⟩
    | false => exact p1.here F1 r1
theorem s_not {a : Expr} {ma : ME} {pos : Pos} (ha : SE T X cls W a ma) : SE T X cls W (.UnaryOp .Not a pos) (eNot ma) := by
  refine PE.weak (pe_notT ha) fun σ H Q ⟨ρ, h, L, F, p⟩ => ⟨ρ, h, L, F, p.bindE fun x h1 ρ1 H1 v s1 F1 r1 p1 => ?_⟩
  cases e : truth h1 x with
  | none => rw [e] at p1; exact p1.elim
  | some t =>
    rw [e] at p1
    exact ⟨t, truth_ok F1 r1 e, p1.here F1 rfl⟩
theorem s_ifx {c a b : Expr} {t : MT} {ma mb : ME} {pos : Pos} (hc : ST T X cls W c t) (ha : SE T X cls W a ma) (hb : SE T X cls W b mb) : SE T X cls W (.IfExp c a b pos) (eIf t ma mb) := by
  refine PE.weak (pe_ifExp hc ha hb) fun σ H Q ⟨ρ, h, L, F, p⟩ => ⟨ρ, h, L, F, PostE.bindT p fun d h1 ρ1 H1 s1 F1 p1 => ?_⟩
  cases d with
  | true => exact ⟨ρ1, h1, L, F1, p1⟩
  | false => exact ⟨ρ1, h1, L, F1, p1⟩
def eNeg (m : ME) : ME := fun L h => (m L h).bind fun x h1 => match x with
  | .int i => .ok (.int (-i)) h1
  | _ => .bad
theorem s_neg {a : Expr} {ma : ME} {pos : Pos} (ha : SE T X cls W a ma) : SE T X cls W (.UnaryOp .USub a pos) (eNeg ma) := by
  refine PE.weak (pe_un un_neg ha) fun σ H Q ⟨ρ, h, L, F, p⟩ => ⟨ρ, h, L, F, p.bindE fun x h1 ρ1 H1 v s1 F1 r1 p1 => ?_⟩
  cases x with
  | int i => cases r1; exact ⟨i, rfl, p1.here F1 rfl⟩
  | _ => exact p1.elim
end
end Zk
end
section
set_option Elab.async false
set_option linter.all false
set_option maxRecDepth 100000
/-! Zk11: subscripts, slices; stores. -/
namespace Zk
open PySem PySem.Spec PyProof.Rows L2 NdefX LamX

def rDG : R2 := fun x y H Q => ∃ a v, x = .ref a ∧ DGet H a y (some v) ∧ Q v H
theorem ix_dict {X : Cx} (hu : X.A.units + 1 < cLine) : IxR X rDG := by
  intro value slice pins s σ H x y v u Q I rx ry h hs
  obtain ⟨a, z, rfl, g, q⟩ := h
  obtain rfl : v = Value.ref a := rx
  exact tail_any (dict_typeIs I g) PySem.F.slot_dict_getitem.lookup (d_getItem hu I g ry fun w' s3 I3 rw' => ⟨z, H, I3, rw', q⟩) hs
def oIxS : O2 := fun a b h => match seqOf h a, b with
  | some xs, .int i => match atI xs i with
    | some x => .ok x h
    | none => .bad
  | _, _ => .bad
def oIxT : O2 := fun a b h => match a, b with
  | .str z, .int i => if z.length ≤ SZ then match atI z.cps.toList i with
    | some c => .ok (.str ⟨#[c]⟩) h
    | none => .bad else .bad
  | _, _ => .bad
def oIxD : O2 := fun a b h => match a with
  | .ref l => match h.get l with
    | some (.dic kvs) => match keyOf b with
      | some k => match valA kvs k with
        | some x => .ok x h
        | none => .bad
      | none => .bad
    | _ => .bad
  | _ => .bad
def oIx : O2 := orE oIxS (orE oIxT oIxD)
section
variable {T : Tb} {X : Cx} {cls ex : List (Option Nat)} {W : WX}
theorem RepVs.atI {K : PySem.W.Frag} {ρ : Nat → Addr} {n : Nat} {H : Hp} {xs : List A} {vs : List V} {i : Int} {a : A} (r : RepVs T K ρ n H xs vs) (e : L2.atI xs i = some a) : ∃ v, L2.atI vs i = some v ∧ RepV T K ρ n H a v := by
  unfold L2.atI at e ⊢
  rw [RepVs.length r]
  cases e1 : ixN xs.length i with
  | none => rw [e1] at e; cases e
  | some j =>
    rw [e1] at e
    exact r.get e
theorem op2_ixS : Op2 T X cls W (fun x y H Q => rIxL X.K x y H Q ∨ rIxT X.K x y H Q) oIxS := by
  intro ρ h H σ L a b va vb Q F ra rb p
  unfold oIxS at p
  split at p
  · split at p
    · rename_i xs i e1 _ x e2
      obtain ⟨q, vs, rfl, hq, rv⟩ := seq_ok F e1 ra
      obtain ⟨v, e3, r3⟩ := rv.atI e2
      cases rb
      rcases hq with hq | hq
      · exact .inr ⟨q, vs, _, v, rfl, rfl, hq, e3, p.here F r3⟩
      · exact .inl ⟨q, vs, _, v, rfl, rfl, hq, e3, p.here F r3⟩
    · exact p.elim
  · exact p.elim
theorem op2_ixT : Op2 T X cls W rIxS oIxT := by
  intro ρ h H σ L a b va vb Q F ra rb p
  unfold oIxT at p
  split at p
  · split at p
    · rename_i z i hz
      split at p
      · rename_i c e
        cases ra; cases rb
        exact ⟨z, i, c, rfl, rfl, by rw [← sz_eq]; exact hz, e, p.here F rfl⟩
      · exact p.elim
    · exact p.elim
  · exact p.elim
theorem op2_ixD : Op2 T X cls W rDG oIxD := by
  intro ρ h H σ L a b va vb Q F ra rb p
  cases a with
  | ref l =>
    simp only [oIxD] at p
    cases eo : h.get l with
    | none => rw [eo] at p; exact p.elim
    | some o =>
      rw [eo] at p
      cases o with
      | dic kvs =>
        simp only at p
        cases ek : keyOf b with
        | none => rw [ek] at p; exact p.elim
        | some key =>
          rw [ek] at p
          simp only at p
          obtain ⟨ws, rfl, q, r⟩ := dic_ok F eo ra
          have ev := key_rep ek rb
          subst ev
          have hv := r.val key
          cases e1 : valA kvs key with
          | none => rw [e1] at p; exact p.elim
          | some x =>
            rw [e1] at hv p
            obtain ⟨v, hv, rx⟩ := hv
            exact ⟨ρ l, v, rfl, by have z := DGet.k (k := key) q; rw [hv] at z; exact z, p.here F rx⟩
      | _ => exact p.elim
  | _ => exact p.elim
theorem s_idx {k : Nat} {a b : Expr} {ma mb : ME} {pos : Pos} (ar : Arnd k X.A) (ha : SE T X cls W a ma) (hb : SE T X cls W b mb) (hs : PlainIx b := by intro _ _; rfl) : SE T X cls W (.Subscript a b pos) (e2 oIx ma mb) :=
  PE.weak (pe_ix ((ix_list.or ix_tup).or (ix_str.or (ix_dict (by have := ar.room.units; omega)))) ha hb hs) fun σ H Q p => e2_tOp (Op2.or op2_ixS (Op2.or op2_ixT op2_ixD)) p

/-! ### slices -/
abbrev MO := Lc → Hq → Res (Option Int)
def oNo : MO := fun _ h => .ok none h
def oSome (m : ME) : MO := fun L h => (m L h).bind fun a h1 => match a with
  | .int i => .ok (some i) h1
  | _ => .bad
def PostO (T : Tb) (X : Cx) (cls : List (Option Nat)) (W : WX) (ρ : Nat → Addr) (h : Hq) (H : Hp) (σ : L2.St) (loc : Lc) (Q : Option Int → Hp → Prop) : Res (Option Int) → Prop
  | .ok b h' => ∀ (ρ' : Nat → Addr) (H' : Hp), Step [] ρ h H ρ' h' H' → Fm T X cls ρ' h' loc σ H' → Q b H'
  | .err c fs h' => ErrW T X cls W ρ h H σ loc c fs h'
  | .bad => False
def rdO (T : Tb) (X : Cx) (cls : List (Option Nat)) (W : WX) (m : MO) : TO := fun σ H Q => ∃ ρ h loc, Fm T X cls ρ h loc σ H ∧ PostO T X cls W ρ h H σ loc Q (m loc h)
abbrev SO (T : Tb) (X : Cx) (cls : List (Option Nat)) (W : WX) (e : Option Expr) (m : MO) : Prop := PO X e (rdO T X cls W m)
theorem PO.weak {X : Cx} {e : Option Expr} {t t' : TO} (h : PO X e t) (w : ∀ σ H Q, t' σ H Q → t σ H Q) : PO X e t' := ⟨fun pins s σ H Q I q => h.run pins s σ H Q I (w σ H Q q)⟩
theorem o_none : SO T X cls W none oNo := PO.weak po_none fun σ H Q ⟨ρ, h, L, F, p⟩ => p ρ H F.refl F
theorem o_some {e : Expr} {m : ME} (he : SE T X cls W e m) : SO T X cls W (some e) (oSome m) := by
  refine PO.weak (po_some he) fun σ H Q ⟨ρ, h, L, F, p⟩ => ⟨ρ, h, L, F, ?_⟩
  unfold oSome at p
  cases e1 : m L h with
  | err c fs h1 => rw [e1] at p; exact p
  | bad => rw [e1] at p; exact p
  | ok a h1 =>
    rw [e1] at p
    intro ρ1 H1 v st F1 rv
    cases a with
    | int i => cases rv; exact ⟨i, rfl, p ρ1 H1 st F1⟩
    | _ => exact False.elim p
theorem PostE.bindO {ρ : Nat → Addr} {h : Hq} {H : Hp} {σ : L2.St} {loc : Lc} {r : Res (Option Int)} {f : Option Int → Hq → Res A} {Q : VK} {Q1 : Option Int → Hp → Prop} (p : PostE T X cls W ρ h H σ loc Q (r.bind f))
    (k : ∀ (a : Option Int) (h1 : Hq) (ρ1 : Nat → Addr) (H1 : Hp), Step [] ρ h H ρ1 h1 H1 → Fm T X cls ρ1 h1 loc σ H1 → PostE T X cls W ρ1 h1 H1 σ loc Q (f a h1) → Q1 a H1) :
    PostO T X cls W ρ h H σ loc Q1 r := by
  cases r with
  | ok a h1 => exact fun ρ1 H1 s F => k a h1 ρ1 H1 s F (PostE.of s p)
  | err c fs h' => exact p
  | bad => exact p
theorem lref_ok {ρ : Nat → Addr} {h : Hq} {H : Hp} {σ : L2.St} {L : Lc} (F : Fm T X cls ρ h L σ H) {l : Nat} {v : V} {xs : List A} (e : seqOf h (.ref l) = some xs) (r : RepV T X.K ρ h.n H (.ref l) v) : ∃ vs, v = .ref (ρ l) ∧ SqL X.K H (ρ l) vs ∧ RepVs T X.K ρ h.n H xs vs := by
  simp only [RepV] at r
  obtain ⟨rfl, hl⟩ := r
  simp only [seqOf] at e
  cases eo : h.get l with
  | none => rw [eo] at e; cases e
  | some o =>
    rw [eo] at e
    cases o with
    | lst ys =>
      cases e
      obtain ⟨vs, q, r⟩ := F.rep eo rfl
      exact ⟨vs, rfl, SqL.of q, r⟩
    | rol ys =>
      cases e
      by_cases hc : some l ∈ cls
      · obtain ⟨i, hi⟩ := List.mem_iff_getElem?.mp hc
        obtain ⟨_, ov, _, _, _, _, z, _⟩ := F.cel i l hi
        rw [eo] at z; cases z
      · obtain ⟨vs, q, r⟩ := (F.obj l _ eo).2 hc
        exact ⟨vs, rfl, q.sq, r⟩
    | _ => cases e
def cutA (xs : List A) (lo hi : Option Int) : List A := (xs.drop (HT.sIx xs.length 0 lo)).take (HT.sIx xs.length xs.length hi - HT.sIx xs.length 0 lo)
theorem RepVs.cut {K : PySem.W.Frag} {ρ : Nat → Addr} {n : Nat} {H : Hp} {lo hi : Option Int} {xs : List A} {vs : List V} (r : RepVs T K ρ n H xs vs) : RepVs T K ρ n H (cutA xs lo hi) (cutV vs lo hi) := by
  have dr : ∀ (k : Nat) {xs : List A} {vs : List V}, RepVs T K ρ n H xs vs → RepVs T K ρ n H (xs.drop k) (vs.drop k) := by
    intro k
    induction k with
    | zero => exact fun r => r
    | succ k ih =>
      intro xs vs r
      cases xs with
      | nil => simp only [RepVs] at r; subst r; rfl
      | cons x xs => simp only [RepVs] at r; obtain ⟨y, ys, rfl, r1, r2⟩ := r; exact ih r2
  have tk : ∀ (k : Nat) {xs : List A} {vs : List V}, RepVs T K ρ n H xs vs → RepVs T K ρ n H (xs.take k) (vs.take k) := by
    intro k
    induction k with
    | zero => intro xs vs r; rw [List.take_zero, List.take_zero]; rfl
    | succ k ih =>
      intro xs vs r
      cases xs with
      | nil => simp only [RepVs] at r; subst r; rfl
      | cons x xs =>
        simp only [RepVs] at r
        obtain ⟨y, ys, rfl, r1, r2⟩ := r
        exact ⟨y, _, rfl, r1, ih r2⟩
  unfold cutA cutV
  rw [RepVs.length r]
  exact tk _ (dr _ r)
def oCut (a : A) (lo hi : Option Int) (h : Hq) : Res A := match a with
  | .tup xs => .ok (.tup (cutA xs lo hi)) h
  | .str z => if z.length ≤ SZ then .ok (.str (cutS z lo hi)) h else .bad
  | .ref l => match seqOf h (.ref l) with
    | some xs => .ok (.ref h.n) (h.new (.lst (cutA xs lo hi)))
    | none => .bad
  | _ => .bad
def eSl (m : ME) (l u : MO) : ME := fun L h => (m L h).bind fun a h1 => (l L h1).bind fun lo h2 => (u L h2).bind fun hi h3 => oCut a lo hi h3
theorem s_slice {e : Expr} {lo hi : Option Expr} {m : ME} {l u : MO} {p2 pos : Pos} (he : SE T X cls W e m) (hl : SO T X cls W lo l) (hu : SO T X cls W hi u) : SE T X cls W (.Subscript e (.Slice lo hi none p2) pos) (eSl m l u) := by
  refine PE.weak (pe_slice (sl_list.or (sl_tupA.or sl_str)) he hl hu) fun σ H Q ⟨ρ, h, L, F, p⟩ => ⟨ρ, h, L, F, p.bindE fun a h1 ρ1 H1 v s1 F1 r1 p1 => ⟨ρ1, h1, L, F1, PostE.bindO p1 fun x h2 ρ2 H2 s2 F2 p2 => ⟨ρ2, h2, L, F2, PostE.bindO p2 fun y h3 ρ3 H3 s3 F3 p3 => ?_⟩⟩⟩
  have r3 := RepV.step (s2.trans s3).wk _ _ r1
  unfold oCut at p3
  split at p3
  · rename_i xs
    have r30 := r3
    simp only [RepV] at r3
    obtain ⟨q, vs, rfl, hq, r⟩ := r3
    refine .inr (.inl ⟨q, vs, rfl, hq, fun hw => ?_, fun _ pp hp => new_tup F3 r.cut p3 hp⟩)
    have e1 : cutA xs x y = xs := by
      unfold cutA
      rw [RepVs.length r] at hw
      rw [hw.1, hw.2, Nat.sub_zero, List.drop_zero, List.take_length]
    rw [e1] at p3
    exact p3.here F3 r30
  · split at p3
    · rename_i z hz
      cases r3
      exact .inr (.inr ⟨z, rfl, by rw [← sz_eq]; exact hz, p3.here F3 rfl⟩)
    · exact p3.elim
  · split at p3
    · rename_i l _ xs e
      obtain ⟨vs, rfl, hq, rv⟩ := lref_ok F3 e r3
      exact .inl ⟨_, vs, rfl, hq, fun pp hp => new_lst F3 rv.cut p3 hp⟩
    · exact p3.elim
  · exact p3.elim
end
end Zk
end
section
set_option Elab.async false
set_option linter.all false
set_option maxRecDepth 100000
/-! Zk12: stores: attributes, items, op= . -/
namespace Zk
open PySem PySem.Spec PyProof.Rows L2 NdefX LamX

section
variable {T : Tb} {X : Cx} {cls ex : List (Option Nat)} {W : WX}
/-- a mutable object written -/
theorem Fm.write {ρ : Nat → Addr} {h : Hq} {L : Lc} {σ : L2.St} {H : Hp} (F : Fm T X cls ρ h L σ H) {l : Nat} {u u0 : HO} {o o0 : Ob} (e0 : h.get l = some o0) (hm0 : isMut o0 = true) (hm : isMut o = true) (eu : H (ρ l) = some u0) (nf : ¬ Fix u0) (nt : ∀ ps, u0 ≠ .tbl ps)
    (hr : Wk ρ h.n H ρ h.n (L2.upd H (ρ l) u) → RepO T X.K ρ h.n (L2.upd H (ρ l) u) X.base (ρ l) o) : Fm T X cls ρ (h.upd l o) L σ (L2.upd H (ρ l) u) ∧ Step [] ρ h H ρ (h.upd l o) (L2.upd H (ρ l) u) := by
  have st := step_upd (ρ := ρ) (u := u) (fun _ _ => F.lt) eu nf e0 hm0 hm
  exact ⟨F.upd e0 hm0 hm (fun ps z => nt ps (Option.some.inj (eu.symm.trans z))) (hr st.wk), st⟩
def AtOk (T : Tb) (K : PySem.W.Frag) (i : Nat) (okc : Nat → Bool) : Prop := ∀ c, okc c = true → Cls K (T.cA c) ∧ NoAttr K (T.cA c) (T.nm i)
def putAt (okc : Nat → Bool) (i : Nat) (a o : A) (L : Lc) (h : Hq) : RS := match o with
  | .ref l => match h.get l with
    | some (.ins c fs) => if okc c && decide (fs.length < 1000) then .ok .nx L (h.upd l (.ins c (putN i a fs))) else .bad
    | _ => .bad
  | _ => .bad
def sSetA (okc : Nat → Bool) (i : Nat) (mo mv : ME) : MS := fun L h => RS.ofE L (mv L h) fun a h1 => RS.ofE L (mo L h1) fun o h2 => putAt okc i a o L h2
theorem RepFs.length {K : PySem.W.Frag} {ρ : Nat → Addr} {n : Nat} {H : Hp} {fs : List (Nat × A)} {ws : List (Str × V)} (r : RepFs T K ρ n H fs ws) : fs.length = ws.length := Paired.length r
theorem put_ok {okc : Nat → Bool} {i : Nat} (ha : AtOk T X.K i okc) {pins : List (Addr × Obj)} {s : Shared} {σ : L2.St} {H : Hp} {ρ : Nat → Addr} {h : Hq} {L : Lc} {a o : A} {y v : V} {u w : Value} (I : L2.Inv X pins σ H s) (F : Fm T X cls ρ h L σ H) (rv : RepV T X.K ρ h.n H o v) (ra : RepV T X.K ρ h.n H a y) (ru : RelV v u) (rw' : RelV y w)
    (ew : EW T X cls ex W ρ h H (putAt okc i a o L h)) : wpAny (model X.prog X.w) X.A (setAttr u (T.nm i) w) (fun _ s' => SQ T X cls ex pins ρ h H (putAt okc i a o L h) .next s') X.xe s := by
  cases o with
  | ref l =>
    simp only [RepV] at rv
    obtain ⟨rfl, hl⟩ := rv
    obtain rfl : u = Value.ref (ρ l) := ru
    simp only [putAt] at ew ⊢
    cases eo : h.get l with
    | none => rw [eo] at ew; exact ew.elim
    | some ob =>
      rw [eo] at ew
      cases ob with
      | ins c fs =>
        simp only at ew ⊢
        split at ew
        · rename_i hz
          simp only [Bool.and_eq_true, decide_eq_true_eq] at hz
          rw [if_pos (by simp only [Bool.and_eq_true, decide_eq_true_eq]; exact hz)]
          obtain ⟨dx, ws, ei, rf⟩ := F.rep eo rfl
          obtain ⟨h1, h2⟩ := ha c hz.1
          refine setattr_ok I ei h1 h2 (by rw [← rf.length]; exact hz.2) rw' fun s3 I3 => ?_
          obtain ⟨F3, st⟩ := F.write (u := .ins (T.cA c) dx (putF (T.nm i) y ws)) (o := .ins c (putN i a fs)) eo rfl rfl ei (fun z => z) (fun _ z => nomatch z) fun wk => ⟨dx, _, upd_same, (RepFs.step wk rf).put (RepV.step wk _ _ ra)⟩
          exact ⟨ρ, σ, _, I3, st.wide, F3, trivial⟩
        · exact ew.elim
      | _ => exact ew.elim
  | _ => exact ew.elim
theorem s_setA {okc : Nat → Bool} {i : Nat} {o e : Expr} {mo mv : ME} {f : Str} {pos' pos : Pos} (ha : AtOk T X.K i okc) (ho : SE T X cls W o mo) (hv : SE T X cls W e mv) (hn : T.nm i = f) (hs : swapsWith e (some (.Attribute o f pos')) pos.line X.env = pure false := by rfl) :
    SS T X cls ex W (.Assign [.Attribute o f pos'] e pos) (sSetA okc i mo mv) := by
  subst hn
  intro pins s σ H ρ h L I F ew
  refine plainObj_wpAny_Assign_Attribute (run_e hv I F ew fun a h1 ρ1 H1 v u s1 e1 I1 st1 F1 rv ru ew1 => ?_) hs
  refine run_e ho I1 F1 ew1 fun ob h2 ρ2 H2 v2 u2 s2 e2 I2 st2 F2 rv2 ru2 ew2 => ?_
  have eq : sSetA okc i mo mv L h = putAt okc i a ob L h2 := by unfold sSetA; rw [e1]; show RS.ofE L (mo L h1) _ = _; rw [e2]; rfl
  rw [eq]
  exact wpAny_mono (put_ok ha I2 F2 rv2 (RepV.step st2.wk _ _ rv) ru2 ru ew2) (fun _ s' q => SQ.of (st1.trans st2) q) fun _ _ z => z
/-- self.f += e, ints -/
def sAugA (f : O2) (okc : Nat → Bool) (i : Nat) (mo mv : ME) : MS := fun L h => RS.ofE L (mo L h) fun o h1 => RS.ofE L (getA (fun _ _ _ _ => .bad) (fun c => if okc c then .fld else .no) i o h1) fun b h2 => RS.ofE L (mv L h2) fun a h3 => RS.ofE L (f b a h3) fun z h4 => putAt okc i z o L h4
def IpOk (T : Tb) (X : Cx) (cls : List (Option Nat)) (W : WX) (op : Operator) (f : O2) : Prop := ∀ {pins : List (Addr × Obj)} {s : Shared} {ρ : Nat → Addr} {h : Hq} {H : Hp} {σ : L2.St} {L : Lc} {a b : A} {va vb : V} {u w : Value} {Q : VK},
  L2.Inv X pins σ H s → Fm T X cls ρ h L σ H → RepV T X.K ρ h.n H a va → RepV T X.K ρ h.n H b vb → RelV va u → RelV vb w → PostE T X cls W ρ h H σ L Q (f a b h) → wpAny (model X.prog X.w) X.A (inplaceOp op u w) (EP X pins σ Q) X.xe s
theorem ip_of {op : Operator} {r : R2} {f : O2} (ho : OpR X (inplaceOp op) r) (hf : Op2 T X cls W r f) : IpOk T X cls W op f := by
  intro pins s ρ h H σ L a b va vb u w Q I F ra rb ru rw p
  exact ho pins s σ H va vb u w Q I ru rw (hf F ra rb p)
theorem ip_addI : IpOk T X cls W .Add oAddI := ip_of iop_add op2_addI
theorem ip_subI : IpOk T X cls W .Sub oSub := ip_of iop_sub op2_sub
theorem ip_addIS : IpOk T X cls W .Add (orE oAddI oAddS) := ip_of (iop_add.or iop_add_str) (Op2.or op2_addI op2_addS)
/-- a value's road within a statement: its Post from a statement's wish -/
theorem EW.post {ρ : Nat → Addr} {h : Hq} {H : Hp} {σ : L2.St} {L : Lc} {r : Res A} {f : A → Hq → RS} (ew : EW T X cls ex W ρ h H (RS.ofE L r f)) : PostE T X cls W ρ h H σ L (fun v H1 => ∃ (a : A) (h1 : Hq) (ρ1 : Nat → Addr), r = .ok a h1 ∧ Step [] ρ h H ρ1 h1 H1 ∧ Fm T X cls ρ1 h1 L σ H1 ∧ RepV T X.K ρ1 h1.n H1 a v ∧ EW T X cls ex W ρ1 h1 H1 (f a h1)) r := by
  cases r with
  | ok a h1 => exact fun ρ' H' v s F' rv => ⟨a, h1, ρ', rfl, s, F', rv, EW.of s.wide ew⟩
  | err c fs h1 => exact fun ρ' H' d ws s F' e' r => ew ρ' σ H' d ws s.wide F' e' r
  | bad => exact ew
theorem s_augA {op : Operator} {g : O2} {okc : Nat → Bool} {i : Nat} {o e : Expr} {mo mv : ME} {f : Str} {tpos pos : Pos} (hop : IpOk T X cls W op g) (ha : AtOk T X.K i okc) (ho : SE T X cls W o mo) (hv : SE T X cls W e mv) (hn : T.nm i = f) :
    SS T X cls ex W (.AugAssign (.Attribute o f tpos) op e pos) (sAugA g okc i mo mv) := by
  subst hn
  intro pins s σ H ρ h L I F ew
  refine wpAny_AugAssign_AttributeAny (run_e ho I F ew fun ob h1 ρ1 H1 v1 u1 s1 e1 I1 st1 F1 rv1 ru1 ew1 => ?_)
  have eq1 : sAugA g okc i mo mv L h = RS.ofE L (getA (fun _ _ _ _ => .bad) (fun c => if okc c then .fld else .no) i ob h1) fun b h2 => RS.ofE L (mv L h2) fun a h3 => RS.ofE L (g b a h3) fun z h4 => putAt okc i z ob L h4 := by unfold sAugA; rw [e1]; rfl
  rw [eq1]
  clear eq1
  cases ob with
  | ref l =>
    have rv0 := rv1
    simp only [RepV] at rv1
    obtain ⟨rfl, hl⟩ := rv1
    have ru0 := ru1
    obtain rfl : u1 = Value.ref (ρ1 l) := ru1
    simp only [getA] at ew1 ⊢
    cases eo : h1.get l with
    | none => rw [eo] at ew1; exact ew1.elim
    | some obj =>
      rw [eo] at ew1
      cases obj with
      | ins c fs =>
        simp only at ew1 ⊢
        obtain ⟨dx, ws, ei, rf⟩ := F1.rep eo rfl
        cases ok : okc c with
        | false => rw [ok] at ew1; exact ew1.elim
        | true =>
          rw [ok] at ew1
          simp only [if_true] at ew1 ⊢
          cases el : fs.lookup i with
          | none => rw [el] at ew1; exact ew1.elim
          | some b =>
            rw [el] at ew1
            simp only at ew1 ⊢
            obtain ⟨h1', h2'⟩ := ha c ok
            obtain ⟨vb, hv', rb⟩ := rf.some el
            refine getattr_ok I1 ei h1' h2' hv' fun u2 s2 I2 ru2 => ?_
            have ew1 : EW T X cls ex W ρ1 h1 H1 (RS.ofE L (mv L h1) fun a h3 => RS.ofE L (g b a h3) fun z h4 => putAt okc i z (.ref l) L h4) := ew1
            refine run_e hv I2 F1 ew1 fun a h3 ρ3 H3 v3 u3 s3 e3 I3 st3 F3 rv3 ru3 ew3 => ?_
            have eq3 : (RS.ofE L (Res.ok b h1) fun b h2 => RS.ofE L (mv L h2) fun a h3 => RS.ofE L (g b a h3) fun z h4 => putAt okc i z (.ref l) L h4) = RS.ofE L (g b a h3) fun z h4 => putAt okc i z (.ref l) L h4 := by
              show RS.ofE L (mv L h1) _ = _
              rw [e3]; rfl
            rw [eq3]
            refine thn (hop I3 F3 (RepV.step st3.wk _ _ rb) rv3 ru2 ru3 ew3.post) fun u4 s4 ⟨v4, H4, I4, ru4, z, h4, ρ4, e4, st4, F4, rv4, ew4⟩ => ?_
            rw [e4]
            have hl4 : RepV T X.K ρ4 h4.n H4 (.ref l) (.ref (ρ1 l)) := RepV.step (st3.wk) _ _ rv0 |> RepV.step st4.wk _ _
            exact wpAny_mono (put_ok ha I4 F4 hl4 rv4 rfl ru4 ew4) (fun _ s' q => SQ.of ((st1.trans st3).trans st4.wide) q) fun _ _ z => z
      | exc c fs =>
        simp only at ew1
        cases ok : okc c <;> rw [ok] at ew1 <;> exact ew1.elim
      | _ => exact ew1.elim
  | _ => exact ew1.elim

/-! ### items -/
def setAt (a o i : A) (L : Lc) (h : Hq) : RS := match o with
  | .ref l => match h.get l with
    | some (.lst xs) => match i with
      | .int k => match ixN xs.length k with
        | some j => .ok .nx L (h.upd l (.lst (xs.set j a)))
        | none => .bad
      | _ => .bad
    | some (.dic kvs) => match keyOf i with
      | some k => if kvs.length < SZ then .ok .nx L (h.upd l (.dic (putA kvs k a))) else .bad
      | none => .bad
    | _ => .bad
  | _ => .bad
theorem RepVs.set {K : PySem.W.Frag} {ρ : Nat → Addr} {n : Nat} {H : Hp} {a : A} {v : V} (ra : RepV T K ρ n H a v) : ∀ {xs : List A} {vs : List V} (j : Nat), RepVs T K ρ n H xs vs → RepVs T K ρ n H (xs.set j a) (vs.set j v)
  | [], _, _, r => by simp only [RepVs] at r; subst r; rfl
  | x :: xs, _, 0, r => by simp only [RepVs] at r; obtain ⟨y, ys, rfl, r1, r2⟩ := r; exact ⟨v, ys, rfl, ra, r2⟩
  | x :: xs, _, j + 1, r => by simp only [RepVs] at r; obtain ⟨y, ys, rfl, r1, r2⟩ := r; exact ⟨y, _, rfl, r1, RepVs.set ra j r2⟩
theorem setI_ok {k : Nat} (ar : Arnd k X.A) {pins : List (Addr × Obj)} {s : Shared} {σ : L2.St} {H : Hp} {ρ : Nat → Addr} {h : Hq} {L : Lc} {a o i : A} {ya yo yi : V} {ua uo ui : Value} (I : L2.Inv X pins σ H s) (F : Fm T X cls ρ h L σ H) (ro : RepV T X.K ρ h.n H o yo) (ri : RepV T X.K ρ h.n H i yi) (ra : RepV T X.K ρ h.n H a ya) (ro' : RelV yo uo) (ri' : RelV yi ui) (ra' : RelV ya ua)
    (ew : EW T X cls ex W ρ h H (setAt a o i L h)) : wpAny (model X.prog X.w) X.A (setItem uo ui ua) (fun _ s' => SQ T X cls ex pins ρ h H (setAt a o i L h) .next s') X.xe s := by
  cases o with
  | ref l =>
    have ro0 := ro
    simp only [RepV] at ro
    obtain ⟨rfl, hl⟩ := ro
    simp only [setAt] at ew ⊢
    cases eo : h.get l with
    | none => rw [eo] at ew; exact ew.elim
    | some ob =>
      rw [eo] at ew
      cases ob with
      | lst xs =>
        simp only at ew ⊢
        obtain ⟨vs, q, r⟩ := F.rep eo rfl
        cases i with
        | int k =>
          simp only at ew ⊢
          cases ri
          cases ej : ixN xs.length k with
          | none => rw [ej] at ew; exact ew.elim
          | some j =>
            refine thn (set_list pins s σ H _ _ ya uo ui ua (fun H' => H' = L2.upd H (ρ l) (.lst (vs.set j ya))) I ro' ri' ra' ⟨_, vs, k, j, rfl, rfl, q, by rw [RepVs.length r]; exact ej, rfl⟩) fun _ s1 ⟨H1, I1, e1⟩ => ?_
            subst e1
            obtain ⟨F3, st⟩ := F.write (u := .lst (vs.set j ya)) (o := .lst (xs.set j a)) eo rfl rfl q (fun z => z) (fun _ z => nomatch z) fun wk => ⟨_, upd_same, (RepVs.step wk _ _ r).set (RepV.step wk _ _ ra) j⟩
            exact ⟨ρ, σ, _, I1, st.wide, F3, trivial⟩
        | _ => exact ew.elim
      | dic kvs =>
        simp only at ew ⊢
        obtain ⟨ws, ev, q, r⟩ := dic_ok F eo ro0
        cases ek : keyOf i with
        | none => rw [ek] at ew; exact ew.elim
        | some key =>
          rw [ek] at ew
          simp only at ew ⊢
          split at ew
          · rename_i hz
            rw [if_pos hz]
            have ei := key_rep ek ri
            subst ei
            obtain rfl : uo = Value.ref (ρ l) := ro'
            refine d_setItem (by have := ar.room.units; omega) I (.inl ⟨ws, key, q, rfl, by rw [← r.len, ← sz_eq]; exact hz, rfl⟩) ri' ra' fun s1 I1 => ?_
            obtain ⟨F3, st⟩ := F.write (u := .dK (putK ws key ya)) (o := .dic (putA kvs key a)) eo rfl rfl q (fun z => z) (fun _ z => nomatch z) fun wk => ⟨_, upd_same, (RepKs.step wk r).put (RepV.step wk _ _ ra)⟩
            exact ⟨ρ, σ, _, I1, st.wide, F3, trivial⟩
          · exact ew.elim
      | _ => exact ew.elim
  | _ => exact ew.elim
def sSetI (mo mi mv : ME) : MS := fun L h => RS.ofE L (mv L h) fun a h1 => RS.ofE L (mo L h1) fun o h2 => RS.ofE L (mi L h2) fun i h3 => setAt a o i L h3
theorem s_setI {k : Nat} {o i e : Expr} {mo mi mv : ME} {pos' pos : Pos} (ar : Arnd k X.A) (ho : SE T X cls W o mo) (hi : SE T X cls W i mi) (hv : SE T X cls W e mv) (hs : swapsWith e (some (.Subscript o i pos')) pos.line X.env = pure false := by rfl) :
    SS T X cls ex W (.Assign [.Subscript o i pos'] e pos) (sSetI mo mi mv) := by
  intro pins s σ H ρ h L I F ew
  refine wpAny_Assign_Subscript (run_e hv I F ew fun a h1 ρ1 H1 v1 u1 s1 e1 I1 st1 F1 rv1 ru1 ew1 => ?_) hs
  refine run_e ho I1 F1 ew1 fun ob h2 ρ2 H2 v2 u2 s2 e2 I2 st2 F2 rv2 ru2 ew2 => ?_
  refine run_e hi I2 F2 ew2 fun ix h3 ρ3 H3 v3 u3 s3 e3 I3 st3 F3 rv3 ru3 ew3 => ?_
  have eq : sSetI mo mi mv L h = setAt a ob ix L h3 := by unfold sSetI; rw [e1]; show RS.ofE L (mo L h1) _ = _; rw [e2]; show RS.ofE L (mi L h2) _ = _; rw [e3]; rfl
  rw [eq]
  exact wpAny_mono (setI_ok ar I3 F3 (RepV.step st3.wk _ _ rv2) rv3 (RepV.step (st2.trans st3).wk _ _ rv1) ru2 ru3 ru1 ew3) (fun _ s' q => SQ.of ((st1.trans st2).trans st3) q) fun _ _ z => z
end
end Zk
end
section
set_option Elab.async false
set_option linter.all false
set_option maxRecDepth 100000
/-! Zk13: op= on items; calls of builtins. -/
namespace Zk
open PySem PySem.Spec PyProof.Rows L2 NdefX LamX

def oIxL : O2 := fun a b h => match lstOf h a, b with
  | some xs, .int i => match atI xs i with
    | some x => .ok x h
    | none => .bad
  | _, _ => .bad
def oIxM : O2 := orE oIxL oIxD
section
variable {T : Tb} {X : Cx} {cls ex : List (Option Nat)} {W : WX}
theorem getL_ok {pins : List (Addr × Obj)} {s : Shared} {σ : L2.St} {H : Hp} {p : Addr} {xs : List V} {i : Int} {t : Tok} {z : V} {Q : VK} (I : L2.Inv X pins σ H s) (hq : SqL X.K H p xs) (he : atI xs i = some z) (q : Q z H) : wpAny (model X.prog X.w) X.A (getItem (.ref p) (.int i t)) (EP X pins σ Q) X.xe s := by
  obtain ⟨its, r, pl, hz⟩ := I.list hq
  obtain ⟨j, h1, h2, h3, h4, h5⟩ := atI_get he
  obtain ⟨w, ew, rw'⟩ := r.get h2
  have hl := r.length
  have hn := line63
  have fin : EP X pins σ Q w s := ⟨z, H, I, rw', q⟩
  by_cases h0 : 0 ≤ i
  · have hj : i.toNat = j := by
      rw [seqIndex_of h0 h5] at h1
      exact Option.some.inj h1
    exact wpAny_getItem_list pl.isList h0 (by omega) (by rw [hj]; simpa using ew) fin
  · have hj : (i + (its.toArray.size : Int)).toNat = j := by
      rw [seqIndex_neg (by omega) h4] at h1
      rw [List.size_toArray, ← hl]
      exact Option.some.inj h1
    exact wpAny_getItem_list_neg pl.isList (by omega) (by rw [List.size_toArray]; omega) (by omega) (by rw [hj]; simpa using ew) fin
theorem getM_ok {k : Nat} (ar : Arnd k X.A) {pins : List (Addr × Obj)} {s : Shared} {ρ : Nat → Addr} {h : Hq} {H : Hp} {σ : L2.St} {L : Lc} {a b : A} {va vb : V} {u w : Value} {Q : VK} (I : L2.Inv X pins σ H s) (F : Fm T X cls ρ h L σ H) (ra : RepV T X.K ρ h.n H a va) (rb : RepV T X.K ρ h.n H b vb) (ru : RelV va u) (rw : RelV vb w)
    (p : PostE T X cls W ρ h H σ L Q (oIxM a b h)) : wpAny (model X.prog X.w) X.A (getItem u w) (EP X pins σ Q) X.xe s := by
  unfold oIxM orE at p
  by_cases e : oIxL a b h = .bad
  · rw [e] at p
    obtain ⟨d, v, rfl, g, q⟩ := op2_ixD F ra rb p
    obtain rfl : u = Value.ref d := ru
    exact d_getItem (by have := ar.room.units; omega) I g rw fun w' s3 I3 rw' => ⟨v, H, I3, rw', q⟩
  · have p2 : PostE T X cls W ρ h H σ L Q (oIxL a b h) := by
      cases e2 : oIxL a b h with
      | bad => exact absurd e2 e
      | ok c h' => rw [e2] at p; exact p
      | err c fs h' => rw [e2] at p; exact p
    clear p e
    unfold oIxL at p2
    split at p2
    · split at p2
      · rename_i xs i e1 _ x e2
        obtain ⟨l, vs, rfl, rfl, eo, q, r⟩ := lst_ok F e1 ra
        obtain ⟨v, e3, r3⟩ := r.atI e2
        cases rb
        obtain rfl : u = Value.ref (ρ l) := ru
        obtain ⟨t, rfl⟩ := rw
        exact getL_ok I (SqL.of q) e3 (p2.here F r3)
      · exact p2.elim
    · exact p2.elim
def sAugI (g : O2) (mo mi mv : ME) : MS := fun L h => RS.ofE L (mo L h) fun o h1 => RS.ofE L (mi L h1) fun i h2 => RS.ofE L (oIxM o i h2) fun b h3 => RS.ofE L (mv L h3) fun a h4 => RS.ofE L (g b a h4) fun z h5 => setAt z o i L h5
theorem s_augI {k : Nat} {op : Operator} {g : O2} {o i e : Expr} {mo mi mv : ME} {tpos pos : Pos} (ar : Arnd k X.A) (hop : IpOk T X cls W op g) (ho : SE T X cls W o mo) (hi : SE T X cls W i mi) (hv : SE T X cls W e mv)
    (ha : ∀ ov iv new, augStore i ov iv new = (do holding [new, ov, iv] (setItem ov iv new); release [new, ov, iv] []; pure .next) := by intros; rfl) : SS T X cls ex W (.AugAssign (.Subscript o i tpos) op e pos) (sAugI g mo mi mv) := by
  intro pins s σ H ρ h L I F ew
  refine wpAny_AugAssign_SubscriptAny (run_e ho I F ew fun ob h1 ρ1 H1 v1 u1 s1 e1 I1 st1 F1 rv1 ru1 ew1 => ?_) ha
  refine run_e hi I1 F1 ew1 fun ix h2 ρ2 H2 v2 u2 s2 e2 I2 st2 F2 rv2 ru2 ew2 => ?_
  refine thn (getM_ok ar I2 F2 (RepV.step st2.wk _ _ rv1) rv2 ru1 ru2 ew2.post) fun u3 s3 ⟨v3, H3, I3, ru3, b, h3, ρ3, e3, st3, F3, rv3, ew3⟩ => ?_
  refine run_e hv I3 F3 ew3 fun a h4 ρ4 H4 v4 u4 s4 e4 I4 st4 F4 rv4 ru4 ew4 => ?_
  refine thn (hop I4 F4 (RepV.step st4.wk _ _ rv3) rv4 ru3 ru4 ew4.post) fun u5 s5 ⟨v5, H5, I5, ru5, z, h5, ρ5, e5, st5, F5, rv5, ew5⟩ => ?_
  have eq : sAugI g mo mi mv L h = setAt z ob ix L h5 := by
    unfold sAugI; rw [e1]; show RS.ofE L (mi L h1) _ = _; rw [e2]; show RS.ofE L (oIxM ob ix h2) _ = _; rw [e3]; show RS.ofE L (mv L h3) _ = _; rw [e4]; show RS.ofE L (g b a h4) _ = _; rw [e5]; rfl
  rw [eq]
  have w1 := RepV.step st5.wk _ _ (RepV.step st4.wk _ _ (RepV.step st3.wk _ _ (RepV.step st2.wk _ _ rv1)))
  have w2 := RepV.step st5.wk _ _ (RepV.step st4.wk _ _ (RepV.step st3.wk _ _ rv2))
  exact wpAny_mono (setI_ok ar I5 F5 w1 w2 rv5 ru1 ru2 ru5 ew5) (fun _ s' q => SQ.of ((((st1.trans st2).trans st3.wide).trans st4).trans st5.wide) q) fun _ _ z => z

/-! ### builtins -/
structure CbOk (T : Tb) (X : Cx) (cls : List (Option Nat)) (W : WX) (fv : Value) (g : List A → Hq → Res A) : Prop where
  run : ∀ {pins : List (Addr × Obj)} {s : Shared} {ρ : Nat → Addr} {h : Hq} {H : Hp} {σ : L2.St} {L : Lc} {as : List A} {vs : List V} {us : List Value} {Q : VK},
  L2.Inv X pins σ H s → Fm T X cls ρ h L σ H → RepVs T X.K ρ h.n H as vs → Vals vs us → PostE T X cls W ρ h H σ L Q (g as h) → wpAny (model X.prog X.w) X.A (call fv us) (EP X pins σ Q) X.xe s
def orG (f g : List A → Hq → Res A) : List A → Hq → Res A := fun as h => match f as h with
  | .bad => g as h
  | r => r
theorem CbOk.or {fv : Value} {f g : List A → Hq → Res A} (h1 : CbOk T X cls W fv f) (h2 : CbOk T X cls W fv g) : CbOk T X cls W fv (orG f g) := by
  refine ⟨fun {pins s ρ h H σ L as vs us Q} I F ra rv p => ?_⟩
  unfold orG at p
  cases e : f as h with
  | bad => rw [e] at p; exact h2.run I F ra rv p
  | ok c h' => rw [e] at p; exact h1.run I F ra rv (by rw [e]; exact p)
  | err c fs h' => rw [e] at p; exact h1.run I F ra rv (by rw [e]; exact p)
def eCB (g : List A → Hq → Res A) (m : MA) : ME := fun L h => (m L h).bind fun as h1 => g as h1
theorem SA.then {es : List Expr} {m : MA} (he : SA T X cls W es m) {pos : Pos} {pins : List (Addr × Obj)} {s : Shared} {σ : L2.St} {H : Hp} {ρ : Nat → Addr} {h : Hq} {L : Lc} {R : VK} {Q : List Value → Shared → Prop} {f : List A → Hq → Res A} (I : L2.Inv X pins σ H s) (F : Fm T X cls ρ h L σ H)
    (p : PostE T X cls W ρ h H σ L R ((m L h).bind f))
    (k : ∀ (as : List A) (h1 : Hq) (ρ1 : Nat → Addr) (H1 : Hp) (s1 : Shared) (vs : List V) (us : List Value), L2.Inv X pins σ H1 s1 → Step [] ρ h H ρ1 h1 H1 → Fm T X cls ρ1 h1 L σ H1 → Vals vs us → RepVs T X.K ρ1 h1.n H1 as vs → PostE T X cls W ρ1 h1 H1 σ L R (f as h1) → Q us s1) :
    wpAny (model X.prog X.w) X.A (spliced (backTo pos (starEach es X.env))) Q X.xe s := by
  refine SA.runs he I F ?_
  cases e1 : m L h with
  | err c fs h1 => rw [e1] at p; exact p
  | bad => rw [e1] at p; exact p
  | ok as h1 => rw [e1] at p; exact fun ρ1 H1 s1 us vs I1 st F1 ru rv => k as h1 ρ1 H1 s1 vs us I1 st F1 ru rv (PostE.of st p)
theorem s_callB {id : String} {g : List A → Hq → Res A} {x : Str} {e : Expr} {es : List Expr} {m : MA} {p pos : Pos} (hc : CbOk T X cls W (.builtin id) g) (ha : SA T X cls W (e :: es) m) (hg : Gl X x) (hm : X.mg x = none) (hv : bootBuiltins x = some (.builtin id)) (hn : x ≠ "__name__" := by decide) (hdb : (x == ("__debug__" : Str)) = false := by decide)
    (he : starEach (e :: es) X.env = (false, eval e X.env) :: starEach es X.env := by rfl) (hpl : (backTo pos (starEach es X.env)).any (·.1) = false := by rfl) : SE T X cls W (.Call (.Name x p) (e :: es) [] pos) (eCB g m) := by
  refine ⟨fun pins s σ H Q I ⟨ρ, h, L, F, q⟩ => ?_⟩
  refine wpAny_Call_Name_kw (ld_blt I hg hm hv ?_ hn hdb)
  exact PyProof.Rows.callWith_builtin1 (SA.then ha (pos := pos) (I.tok _) F q fun as h1 ρ1 H1 s1 vs us I1 st F1 ru rv p1 => hc.run I1 F1 rv ru p1) he hpl
theorem s_callTy {id : String} {g : List A → Hq → Res A} {x : Str} {e : Expr} {es : List Expr} {m : MA} {p pos : Pos} (hc : CbOk T X cls W (.type id) g) (ha : SA T X cls W (e :: es) m) (hg : Gl X x) (hm : X.mg x = none) (hv : bootBuiltins x = some (.type id)) (hn : x ≠ "__name__" := by decide) (hdb : (x == ("__debug__" : Str)) = false := by decide)
    (he : starEach (e :: es) X.env = (false, eval e X.env) :: starEach es X.env := by rfl) (hpl : (backTo pos (starEach es X.env)).any (·.1) = false := by rfl) : SE T X cls W (.Call (.Name x p) (e :: es) [] pos) (eCB g m) := by
  refine ⟨fun pins s σ H Q I ⟨ρ, h, L, F, q⟩ => ?_⟩
  refine wpAny_Call_Name_kw (ld_blt I hg hm hv ?_ hn hdb)
  exact PyProof.Rows.callWith_type1 (SA.then ha (pos := pos) (I.tok _) F q fun as h1 ρ1 H1 s1 vs us I1 st F1 ru rv p1 => hc.run I1 F1 rv ru p1) he hpl
/-- one argument -/
def g1 (f : A → Hq → Res A) : List A → Hq → Res A := fun as h => match as with
  | [a] => f a h
  | _ => .bad
def g2 (f : A → A → Hq → Res A) : List A → Hq → Res A := fun as h => match as with
  | [a, b] => f a b h
  | _ => .bad
theorem RepVs.one {K : PySem.W.Frag} {ρ : Nat → Addr} {n : Nat} {H : Hp} {a : A} {vs : List V} (r : RepVs T K ρ n H [a] vs) : ∃ v, vs = [v] ∧ RepV T K ρ n H a v := by
  simp only [RepVs] at r
  obtain ⟨y, ys, e, r1, rfl⟩ := r
  exact ⟨y, e, r1⟩
theorem RepVs.two {K : PySem.W.Frag} {ρ : Nat → Addr} {n : Nat} {H : Hp} {a b : A} {vs : List V} (r : RepVs T K ρ n H [a, b] vs) : ∃ v w, vs = [v, w] ∧ RepV T K ρ n H a v ∧ RepV T K ρ n H b w := by
  simp only [RepVs] at r
  obtain ⟨y, ys, e, r1, z, zs, e2, r2, rfl⟩ := r
  subst e2
  exact ⟨y, z, e, r1, r2⟩
theorem cb1 {fv : Value} {r : List V → Hp → VK → Prop} {f : A → Hq → Res A} (hc : CallR X fv r) (hf : ∀ (ρ : Nat → Addr) (h : Hq) (H : Hp) (σ : L2.St) (L : Lc) (a : A) (v : V) (Q : VK), Fm T X cls ρ h L σ H → RepV T X.K ρ h.n H a v → PostE T X cls W ρ h H σ L Q (f a h) → r [v] H Q) : CbOk T X cls W fv (g1 f) := by
  refine ⟨fun {pins s ρ h H σ L as vs us Q} I F ra rv p => ?_⟩
  unfold g1 at p
  split at p
  · obtain ⟨v, rfl, r1⟩ := ra.one
    exact hc pins s σ H _ us Q I rv (hf ρ h H σ L _ v Q F r1 p)
  · exact p.elim
theorem cb2 {fv : Value} {r : List V → Hp → VK → Prop} {f : A → A → Hq → Res A} (hc : CallR X fv r) (hf : ∀ (ρ : Nat → Addr) (h : Hq) (H : Hp) (σ : L2.St) (L : Lc) (a b : A) (v w : V) (Q : VK), Fm T X cls ρ h L σ H → RepV T X.K ρ h.n H a v → RepV T X.K ρ h.n H b w → PostE T X cls W ρ h H σ L Q (f a b h) → r [v, w] H Q) : CbOk T X cls W fv (g2 f) := by
  refine ⟨fun {pins s ρ h H σ L as vs us Q} I F ra rv p => ?_⟩
  unfold g2 at p
  split at p
  · obtain ⟨v, w, rfl, r1, r2⟩ := ra.two
    exact hc pins s σ H _ us Q I rv (hf ρ h H σ L _ _ v w Q F r1 r2 p)
  · exact p.elim
/-! len -/
def lenA (a : A) (h : Hq) : Res A := match a with
  | .str s => if s.length ≤ SZ then .ok (.int s.length) h else .bad
  | a => match seqOf h a with
    | some xs => .ok (.int xs.length) h
    | none => .bad
theorem cb_len : CbOk T X cls W (.builtin "len") (g1 lenA) := by
  refine cb1 call_len fun ρ h H σ L a v Q F ra p => ?_
  unfold lenA at p
  split at p
  · split at p
    · rename_i hz
      cases ra
      exact ⟨_, _, rfl, ⟨by rw [← sz_eq]; exact hz, rfl⟩, p.here F rfl⟩
    · exact p.elim
  · split at p
    · rename_i xs e
      obtain ⟨q, vs, rfl, hq, rv⟩ := seq_ok F e ra
      refine ⟨_, xs.length, rfl, ?_, p.here F rfl⟩
      rcases hq with hq | hq
      · exact .inr ⟨vs, hq, (RepVs.length rv).symm⟩
      · exact .inl ⟨vs, hq, (RepVs.length rv).symm⟩
    · exact p.elim
def lenD (a : A) (h : Hq) : Res A := match a with
  | .ref l => match h.get l with
    | some (.dic kvs) => .ok (.int kvs.length) h
    | _ => .bad
  | _ => .bad
theorem cb_lenD : CbOk T X cls W (.builtin "len") (g1 lenD) := by
  refine cb1 call_lenD fun ρ h H σ L a v Q F ra p => ?_
  cases a with
  | ref l =>
    simp only [lenD] at p
    cases eo : h.get l with
    | none => rw [eo] at p; exact p.elim
    | some o =>
      rw [eo] at p
      cases o with
      | dic kvs =>
        obtain ⟨ws, rfl, q, r⟩ := dic_ok F eo ra
        exact ⟨_, ws, rfl, q, by rw [← r.len]; exact PostE.here p F rfl⟩
      | _ => exact p.elim
  | _ => exact p.elim
def lenO (Φ : Dn) (tbl : Nat → Option Nat) (a : A) (h : Hq) : Res A := match a with
  | .ref l => match h.get l with
    | some (.ins c _) => match tbl c with
      | some j => (Φ (.fn j) [.ref l] [] h).bind fun r h1 => match r with
        | .int n => if 0 ≤ n ∧ n < 9223372036854775808 then .ok (.int n) h1 else .bad
        | _ => .bad
      | none => .bad
    | _ => .bad
  | _ => .bad
theorem cb_lenO {k : Nat} {Φ : Dn} (C : Cal T X W (k + 1) Φ) (L0 : Lib T X.prog X.w X.K X.mg k Φ) {tbl : Nat → Option Nat} (ho : OwnOk T X.K "__len__" tbl) : CbOk T X cls W (.builtin "len") (g1 (lenO Φ tbl)) := by
  refine ⟨fun {pins s ρ h H σ L as vs us Q} I F ra rv p => ?_⟩
  unfold g1 at p
  split at p
  · rename_i a
    obtain ⟨v, rfl, rb⟩ := ra.one
    cases a with
    | ref l =>
      simp only [lenO] at p
      have rb0 := rb
      simp only [RepV] at rb
      obtain ⟨rfl, hl⟩ := rb
      rw [Vals.ref1 rv]
      cases eo : h.get l with
      | none => rw [eo] at p; exact p.elim
      | some o =>
        rw [eo] at p
        cases o with
        | ins c fs =>
          simp only at p
          obtain ⟨dx, ws, ei, rf⟩ := F.rep eo rfl
          cases ej : tbl c with
          | none => rw [ej] at p; exact p.elim
          | some j =>
            rw [ej] at p
            obtain ⟨h1, h2⟩ := ho c j ej
            obtain ⟨mA, O, _, _, _, _⟩ := ins_get I.hok ei
            obtain ⟨od, J, _⟩ := O.look
            obtain ⟨m, fr⟩ := I.fr
            have p3 : PostE T X cls W ρ h H σ L (fun v H' => ∃ n : Int, v = .int n ∧ (0 ≤ n ∧ n < 2 ^ 63) ∧ Q (.int n) H') (Φ (.fn j) [.ref l] [] h) :=
              PostE.bindE p fun r h1 ρ1 H1 v st F1 rv p1 => by
                cases r with
                | int t =>
                  cases rv
                  have p1 : PostE T X cls W ρ1 h1 H1 σ L Q (if 0 ≤ t ∧ t < 9223372036854775808 then .ok (.int t) h1 else .bad) := p1
                  split at p1
                  · rename_i hz
                    exact ⟨t, rfl, ⟨hz.1, by omega⟩, p1.here F1 rfl⟩
                  · exact p1.elim
                | _ => exact p1.elim
            have rc := run_code (mg := X.mg) (B := X.A.in1) (fa := .fn j) (f := T.fA j) (us := [.ref (ρ l)]) (vs := [.ref (ρ l)]) (as := [.ref l]) (ku := []) (kv := []) (ka := []) L0 C.ar.in1 rfl C.tk C.nd I F rfl (.cons rfl .nil) ⟨_, _, rfl, rb0, rfl⟩ .nil .nil p3
            refine PySem.W.len_K fr I.ok.mod.kin J h1 h2 (wpAny_call (codeAny_mono rc fun rr s1 hq => ?_))
            cases rr with
            | error e => exact hq
            | ok fl => cases fl with
              | ret u =>
                obtain ⟨v, H1, I1, r1, n, e, hn, q⟩ := hq
                subst e
                obtain ⟨t, rfl⟩ := r1
                exact ⟨hn, ⟨.int n, H1, I1.tok _, ⟨_, rfl⟩, q⟩⟩
              | next => exact hq.elim
              | brk => exact hq.elim
              | cont => exact hq.elim
        | _ => exact p.elim
    | _ => exact p.elim
  · exact p.elim
end
end Zk
end
section
set_option Elab.async false
set_option linter.all false
set_option maxRecDepth 100000
/-! Zk14: isinstance, repr and other builtins; methods of builtins. -/
namespace Zk
open PySem PySem.Spec PyProof.Rows L2 NdefX LamX

/-- a value's kind -/
inductive Tg where
  | non | bl | int | str | tup | lst | dic | ins (c : Nat) | exc (c : Nat)
def tagOf (h : Hq) : A → Option Tg
  | .non => some .non
  | .bl _ => some .bl
  | .int _ => some .int
  | .str _ => some .str
  | .tup _ => some .tup
  | .ref l => match h.get l with
    | some (.lst _) => some .lst
    | some (.rol _) => some .lst
    | some (.dic _) => some .dic
    | some (.dit _) => some .dic
    | some (.ins c _) => some (.ins c)
    | some (.exc c _) => some (.exc c)
    | _ => none
  | _ => none
def tgV (T : Tb) : Tg → Value
  | .non => .type "NoneType"
  | .bl => .type "bool"
  | .int => .type "int"
  | .str => .type "str"
  | .tup => .type "tuple"
  | .lst => .type "list"
  | .dic => .type "dict"
  | .ins c => .ref (T.cA c)
  | .exc c => .ref (T.cA c)
/-- what of the text a class must have for isinstance -/
structure InsTy (K : PySem.W.Frag) (C : Addr) : Prop where
  cls : Cls K C
  ha : PySem.W.findIn K (.ref C) "__class__" = some (some (.builtin "object.__class__"))
  hn : PySem.W.specialIn K (.builtin "object.__class__") "__get__" = some (some (.builtin "getset_descriptor.__get__"))
  ht : PySem.W.takesIn K (.builtin "object.__class__") = some true
  hm : PySem.W.mroIn K C (.type "object") = some true
structure ExcTy (K : PySem.W.Frag) (C : Addr) : Prop where
  hc : (PySem.W.clsIn K C).isSome = true
  xf : XfC K C
  ha : PySem.W.findIn K (.ref C) "__class__" = some (some (.builtin "object.__class__"))
  hn : PySem.W.specialIn K (.builtin "object.__class__") "__get__" = some (some (.builtin "getset_descriptor.__get__"))
  ht : PySem.W.takesIn K (.builtin "object.__class__") = some true
  hm : PySem.W.mroIn K C (.type "object") = some true
def TgOk (T : Tb) (K : PySem.W.Frag) : Tg → Prop
  | .ins c => InsTy K (T.cA c)
  | .exc c => ExcTy K (T.cA c)
  | _ => True
/-- a table of answers, and what it leans on -/
def IsOk (T : Tb) (K : PySem.W.Frag) (us : List Value) (tbl : Tg → Option Bool) : Prop := ∀ tg b, tbl tg = some b → PySem.W.kitAny K (tgV T tg) us = some b ∧ TgOk T K tg
def isiA (tbl : Tg → Option Bool) (a : A) (h : Hq) : Res A := match tagOf h a with
  | some tg => match tbl tg with
    | some b => .ok (.bl b) h
    | none => .bad
  | none => .bad
def eIsi (tbl : Tg → Option Bool) (m : ME) : ME := fun L h => (m L h).bind fun a h1 => isiA tbl a h1
section
variable {T : Tb} {X : Cx} {cls ex : List (Option Nat)} {W : WX}
theorem Fm.notCls {ρ : Nat → Addr} {h : Hq} {L : Lc} {σ : L2.St} {H : Hp} (F : Fm T X cls ρ h L σ H) {l : Nat} {o : Ob} (e : h.get l = some o) (n : ∀ v, o ≠ .cel v) : RepO T X.K ρ h.n H X.base (ρ l) o :=
  (F.obj l o e).2 fun hc => by
    obtain ⟨i, hi⟩ := List.mem_iff_getElem?.mp hc
    obtain ⟨_, ov, _, _, _, _, z, _⟩ := F.cel i l hi
    rw [e] at z; exact n _ (Option.some.inj z)
theorem tag_kit {ρ : Nat → Addr} {h : Hq} {L : Lc} {σ : L2.St} {H : Hp} {pins : List (Addr × Obj)} {s : Shared} {a : A} {v : V} {u : Value} {tg : Tg} (I : L2.Inv X pins σ H s) (F : Fm T X cls ρ h L σ H) (r : RepV T X.K ρ h.n H a v) (ru : RelV v u) (e : tagOf h a = some tg)
    (hx : TgOk T X.K tg) : ∃ P : Heap → Prop, PySem.W.KitX X.K u (tgV T tg) P ∧ P s.heap ∧ u ≠ .builtin "__main__.__loader__#opaque" := by
  have base : ∀ {t : Value}, TyX X.K H v t → ∃ P : Heap → Prop, PySem.W.KitX X.K u t P ∧ P s.heap ∧ u ≠ .builtin "__main__.__loader__#opaque" := fun ty => kit_of I ru ty
  cases a with
  | non => cases e; cases r; exact base (.base .non)
  | bl b => cases e; cases r; exact base (.base (.bl b))
  | int i => cases e; cases r; exact base (.base (.int i))
  | str z => cases e; cases r; exact base (.base (.str z))
  | tup xs =>
    cases e
    simp only [RepV] at r
    obtain ⟨p, vs, rfl, q, r⟩ := r
    rcases q with (q | ⟨o, q⟩) | ⟨o, its, n, q, hc, _⟩
    · exact base (.base (.tup q))
    · exact base (.fTuple q)
    · exact base (.kTuple q hc)
  | ref l =>
    simp only [RepV] at r
    obtain ⟨rfl, hl⟩ := r
    obtain rfl : u = Value.ref (ρ l) := ru
    simp only [tagOf] at e
    cases eo : h.get l with
    | none => rw [eo] at e; cases e
    | some o =>
      rw [eo] at e
      cases o with
      | lst xs => cases e; obtain ⟨vs, q, _⟩ := F.notCls eo (fun v z => nomatch z); exact base (.base (.lst q))
      | rol xs =>
        cases e
        obtain ⟨vs, q, _⟩ := F.notCls eo (fun v z => nomatch z)
        rcases q with ⟨o, q⟩ | ⟨o, its, n, q, hc, _⟩
        · exact base (.base (.frz q))
        · exact base (.kList q hc)
      | dic kvs => cases e; obtain ⟨ws, q, _⟩ := F.notCls eo (fun v z => nomatch z); exact base (.base (.dK q))
      | lok kvs => cases e
      | dit kvs => cases e; obtain ⟨ws, q, _⟩ := F.notCls eo (fun v z => nomatch z); exact base (.base (.dT q))
      | ins c fs =>
        cases e
        have hx : InsTy X.K (T.cA c) := hx
        obtain ⟨dx, ws, q, _⟩ := F.notCls eo (fun v z => nomatch z)
        exact base (.base (.ins q hx.cls hx.ha hx.hn hx.ht hx.hm))
      | exc c fs =>
        cases e
        have hx : ExcTy X.K (T.cA c) := hx
        obtain ⟨dd, ws, e1, e2, _⟩ := F.notCls eo (fun v z => nomatch z)
        obtain ⟨⟨o, vs, ho, hc, hd, hdt⟩, _, _⟩ := I.hok _ _ e1
        obtain ⟨mA, hns, hr⟩ := (show ObjOk X.prog X.w H s.heap dd (.xd ws) from I.hok dd _ e2)
        obtain ⟨od, ho2, hl2⟩ := lookIn_ns hns
        exact ⟨_, PySem.W.kitx_exc (ox := o) (od := some od) hx.hc hx.xf.ga hx.xf.gg hx.xf.exC hx.ha hx.hn hx.ht hx.hm, ⟨ho, hc, by unfold PySem.W.notCls; rw [hdt] <;> rfl, by rw [hd]; exact ho2⟩, fun z => nomatch z⟩
      | cel v => cases e
  | _ => cases e
theorem kit_one {K : PySem.W.Frag} {t u : Value} {b : Bool} (h : PySem.W.kitAny K t [u] = some b) : PySem.W.kitOne K t u = some b := by
  unfold PySem.W.kitAny at h
  cases e : PySem.W.kitOne K t u with
  | none => rw [e] at h; cases h
  | some x =>
    rw [e] at h
    cases x with
    | true => exact h
    | false => exact h
/-- isinstance(e, c) -/
theorem s_isi {tbl : Tg → Option Bool} {e c : Expr} {m : ME} {cv : V} {cu : Value} {p pos : Pos} (ok : IsOk T X.K [cu] tbl) (he : SE T X cls W e m) (hc : PE X c (tC cv)) (kc : ClsV cv cu) (hg : Gl X "isinstance") (hm : X.mg "isinstance" = none) (hv : bootBuiltins "isinstance" = some (.builtin "isinstance") := by rfl)
    (hs : starEach [e, c] X.env = [(false, eval e X.env), (false, eval c X.env)] := by rfl) (hs1 : starEach [c] X.env = [(false, eval c X.env)] := by rfl) : SE T X cls W (.Call (.Name "isinstance" p) [e, c] [] pos) (eIsi tbl m) := by
  refine ⟨fun pins s σ H Q I ⟨ρ, h, L, F, q⟩ => ?_⟩
  refine wpAny_Call_Name_kw (ld_blt I hg hm hv ?_ (by decide) (by decide))
  refine PyProof.Rows.callWith_builtin1 ?_ (by rw [hs, hs1]) (by rw [hs1]; rfl)
  rw [hs]
  refine Calls.spliced_cons (he.then (I.tok _) F q fun a h1 ρ1 H1 s1 v u I1 st1 F1 ru rv p1 => ?_)
  refine Calls.spliced_cons (thn (hc.run pins s1 σ H1 (fun x H2 => x = cv ∧ H2 = H1) I1 ⟨rfl, rfl⟩) fun u2 s2 ⟨x2, H2, I2, r2, e2, e3⟩ => ?_)
  subst e2 e3
  refine Calls.spliced_nil ?_
  rw [kc.eq r2]
  unfold isiA at p1
  cases et : tagOf h1 a with
  | none => rw [et] at p1; exact p1.elim
  | some tg =>
    rw [et] at p1
    simp only at p1
    cases eb : tbl tg with
    | none => rw [eb] at p1; exact p1.elim
    | some b =>
      rw [eb] at p1
      obtain ⟨k1, k2⟩ := ok tg b eb
      obtain ⟨P, Z, pp, hx⟩ := tag_kit I2 F1 rv ru et k2
      exact PySem.W.kia_one Z I2.kIn pp (kit_one k1) hx fun tk => ⟨.bl b, _, I2.tok tk, rfl, p1.here F1 rfl⟩
/-- isinstance(e, (c, d, ..)) -/
theorem s_isiT {tbl : Tg → Option Bool} {e : Expr} {cs : List Expr} {m : ME} {cvs : List V} {cus : List Value} {p pos tp : Pos} {kx} (ok : IsOk T X.K cus tbl) (he : SE T X cls W e m) (hc : PA X cs (fun σ H Q => Q cvs H)) (hz : cvs.length ≤ 1000) (kc : Paired ClsV cvs cus) (hg : Gl X "isinstance") (hm : X.mg "isinstance" = none) (hv : bootBuiltins "isinstance" = some (.builtin "isinstance") := by rfl)
    (hs : starEach [e, .Tuple cs kx tp] X.env = [(false, eval e X.env), (false, eval (.Tuple cs kx tp) X.env)] := by rfl) (hs1 : starEach [.Tuple cs kx tp] X.env = [(false, eval (.Tuple cs kx tp) X.env)] := by rfl) : SE T X cls W (.Call (.Name "isinstance" p) [e, .Tuple cs kx tp] [] pos) (eIsi tbl m) := by
  refine ⟨fun pins s σ H Q I ⟨ρ, h, L, F, q⟩ => ?_⟩
  refine wpAny_Call_Name_kw (ld_blt I hg hm hv ?_ (by decide) (by decide))
  refine PyProof.Rows.callWith_builtin1 ?_ (by rw [hs, hs1]) (by rw [hs1]; rfl)
  rw [hs]
  refine Calls.spliced_cons (he.then (I.tok _) F q fun a h1 ρ1 H1 s1 v u I1 st1 F1 ru rv p1 => ?_)
  refine Calls.spliced_cons (thn ((pe_tup (x1 := kx) (pos := tp) hc).run pins s1 σ H1 (fun x H2 => ∃ q, H1 q = none ∧ x = .ref q ∧ H2 = upd H1 q (.tup cvs)) I1 ⟨by rw [sizeLine_eq]; omega, fun q hq => ⟨q, hq, rfl, rfl⟩⟩) fun u2 s2 ⟨x2, H2, I2, r2, qq, hq, e2, e3⟩ => ?_)
  subst e2 e3
  obtain rfl : u2 = Value.ref qq := r2
  refine Calls.spliced_nil ?_
  have F2 := F1.aux (u := .tup cvs) hq
  have st2 := step_tup (ρ := ρ1) (h := h1) (u := HO.tup cvs) (fun _ _ => F1.lt) hq
  have rv2 := RepV.step st2.wk _ _ rv
  have p2 := PostE.of st2 p1
  unfold isiA at p2
  cases et : tagOf h1 a with
  | none => rw [et] at p2; exact p2.elim
  | some tg =>
    rw [et] at p2
    simp only at p2
    cases eb : tbl tg with
    | none => rw [eb] at p2; exact p2.elim
    | some b =>
      rw [eb] at p2
      obtain ⟨k1, k2⟩ := ok tg b eb
      obtain ⟨P, Z, pp, hx⟩ := tag_kit I2 F2 rv2 ru et k2
      obtain ⟨_, its, rr, o, g1, g2, n, g3⟩ := (show ObjOk X.prog X.w _ s2.heap qq (.tup cvs) from I2.hok qq _ upd_same)
      have e3 := ClsV.all kc rr
      subst e3
      obtain ⟨oc, od, dt, sl⟩ := o
      simp only at g2 g3
      subst g2 g3
      exact PySem.W.kia_tup Z I2.kIn pp g1 k1 hx fun tk => ⟨.bl b, _, I2.tok tk, rfl, p2.here F2 rfl⟩

/-! ### repr -/
def reprA (a : A) (h : Hq) : Res A := match A.dat h FU a with
  | some d => if SeqAt.shaped d && (d.showable && decide (d.shown.length ≤ SZ)) then .ok (.str d.shown) h else .bad
  | none => .bad
theorem cb_repr {k : Nat} (ar : Arnd k X.A) : CbOk T X cls W (.builtin "repr") (g1 reprA) := by
  refine ⟨fun {pins s ρ h H σ L as vs us Q} I F ra rv p => ?_⟩
  unfold g1 at p
  split at p
  · rename_i a
    obtain ⟨v, rfl, r1⟩ := ra.one
    obtain ⟨u, rfl, ru⟩ := rv.one
    unfold reprA at p
    split at p
    · split at p
      · rename_i d e1 hz
        simp only [Bool.and_eq_true, decide_eq_true_eq] at hz
        obtain ⟨hs, hsh, hl⟩ := hz
        have hd := dat_ok F _ _ _ _ e1 r1
        obtain ⟨as, rd⟩ := Dp.reads I d v u hd ru
        have hl' : d.shown.length ≤ sizeLine := by rw [← sz_eq]; exact hl
        have fin : ∀ (tk : Tok) (h' : Heap) (t' : Nat), (∀ b o, s.heap.get? b = some o → h'.get? b = some o) → EP X pins σ Q (.str d.shown tk) { s with heap := h', toks := t' } := fun tk h' t' kp => ⟨.str d.shown, H, I.kept kp, ⟨tk, rfl⟩, p.here F rfl⟩
        cases d with
        | none => cases hd; cases ru; exact PySem.P.repr_of_none (fin _ s.heap _ fun _ _ z => z)
        | bool b => cases hd; cases ru; exact PySem.P.repr_of_bool (by simpa only [PyData.shown] using fin s.toks s.heap (s.toks + 1) fun _ _ z => z)
        | int i =>
          cases hd
          obtain ⟨t, rfl⟩ := ru
          exact PySem.P.repr_of_int (by simpa only [PyData.showable, decide_eq_true_eq] using hsh) (by simpa only [PyData.shown] using fin s.toks s.heap (s.toks + 1) fun _ _ z => z)
        | str x =>
          cases hd
          obtain ⟨t, rfl⟩ := ru
          exact PySem.P.repr_of_str (by simpa only [PyData.shown] using fin s.toks s.heap (s.toks + 1) fun _ _ z => z) (by simpa only [PyData.shown] using hl')
        | list ds =>
          have hdp := SeqAt.depth_of_shaped hs
          cases hd with
          | lst _ _ =>
            cases ru
            exact repr_of_reads' rd hsh (PyData.noDict_hsm (PyData.hasDict_of_canLay _ (SeqAt.canLay_of_shaped hs))) ar.grd (by have := ar.room.un; omega) (fun _ _ z => z) (fun h' u tk kp => fin u h' tk kp) hl'
        | tuple ds =>
          have hdp := SeqAt.depth_of_shaped hs
          cases hd with
          | tup _ _ =>
            cases ru
            exact repr_of_reads' rd hsh (PyData.noDict_hsm (PyData.hasDict_of_canLay _ (SeqAt.canLay_of_shaped hs))) ar.grd (by have := ar.room.un; omega) (fun _ _ z => z) (fun h' u tk kp => fin u h' tk kp) hl'
        | dict kvs => cases hd
      · exact p.elim
    · exact p.elim
  · exact p.elim
end
end Zk
end
section
set_option Elab.async false
set_option linter.all false
set_option maxRecDepth 100000
/-! Zk15: more builtins; methods of builtins. -/
namespace Zk
open PySem PySem.Spec PyProof.Rows L2 NdefX LamX

section
variable {T : Tb} {X : Cx} {cls ex : List (Option Nat)} {W : WX}
/-! ### makers -/
def tupA (a : A) (h : Hq) : Res A := match seqOf h a with
  | some xs => .ok (.tup xs) h
  | none => .bad
theorem cb_tuple : CbOk T X cls W (.type "tuple") (g1 tupA) := by
  refine cb1 call_tuple_of fun ρ h H σ L a v Q F ra p => ?_
  unfold tupA at p
  split at p
  · rename_i xs e
    cases a with
    | tup ys =>
      cases e
      have ra0 := ra
      simp only [RepV] at ra
      obtain ⟨q, vs, rfl, hq, r⟩ := ra
      exact ⟨q, vs, rfl, .inr ⟨hq, p.here F ra0⟩⟩
    | ref l =>
      obtain ⟨vs, rfl, hq, r⟩ := lref_ok F e ra
      exact ⟨_, vs, rfl, .inl ⟨hq, fun pp hp => new_tup F r p hp⟩⟩
    | _ => cases e
  · exact p.elim
def lstA (a : A) (h : Hq) : Res A := match seqOf h a with
  | some xs => .ok (.ref h.n) (h.new (.lst xs))
  | none => .bad
theorem cb_list : CbOk T X cls W (.type "list") (g1 lstA) := by
  refine cb1 call_list_of fun ρ h H σ L a v Q F ra p => ?_
  unfold lstA at p
  split at p
  · rename_i xs e
    obtain ⟨q, vs, rfl, hq, r⟩ := seq_ok F e ra
    exact ⟨q, vs, rfl, hq.symm, fun pp hp => new_lst F r p hp⟩
  · exact p.elim
def keyA : Key → A
  | .inl i => .int i
  | .inr s => .str s
theorem keys_map {K : PySem.W.Frag} {ρ : Nat → Addr} {n : Nat} {H : Hp} : ∀ {kvs : List (Key × A)} {ws : List (Key × V)}, RepKs T K ρ n H kvs ws → RepVs T K ρ n H (kvs.map fun kv => keyA kv.1) (ws.map fun kv => kV kv.1)
  | _, _, .nil => rfl
  | (k1, a) :: kvs, (k2, v) :: ws, .cons q t => by
    obtain ⟨e, r⟩ := q
    simp only at e
    subst e
    exact ⟨kV k1, _, rfl, by cases k1 <;> rfl, keys_map t⟩
theorem vals_map {κ : Type} {K : PySem.W.Frag} {ρ : Nat → Addr} {n : Nat} {H : Hp} : ∀ {kvs : List (κ × A)} {ws : List (κ × V)}, RepKs T K ρ n H kvs ws → RepVs T K ρ n H (kvs.map (·.2)) (ws.map (·.2))
  | _, _, .nil => rfl
  | (k1, a) :: kvs, (k2, v) :: ws, .cons q t => ⟨v, _, rfl, q.2, vals_map t⟩
def lstD (a : A) (h : Hq) : Res A := match a with
  | .ref l => match h.get l with
    | some (.dic kvs) => .ok (.ref h.n) (h.new (.lst (kvs.map fun kv => keyA kv.1)))
    | _ => .bad
  | _ => .bad
theorem cb_listD (hc : X.calm = true) : CbOk T X cls W (.type "list") (g1 lstD) := by
  refine cb1 (call_listD hc) fun ρ h H σ L a v Q F ra p => ?_
  cases a with
  | ref l =>
    simp only [lstD] at p
    cases eo : h.get l with
    | none => rw [eo] at p; exact p.elim
    | some o =>
      rw [eo] at p
      cases o with
      | dic kvs =>
        obtain ⟨ws, rfl, q, r⟩ := dic_ok F eo ra
        exact ⟨_, ws, rfl, .inl q, fun pp hp => new_lst F (keys_map r) p hp⟩
      | _ => exact p.elim
  | _ => exact p.elim
def dicA (a : A) (h : Hq) : Res A := match a with
  | .ref l => match h.get l with
    | some (.dic kvs) => .ok (.ref h.n) (h.new (.dic kvs))
    | _ => .bad
  | _ => .bad
theorem new_dic {ρ : Nat → Addr} {h : Hq} {H : Hp} {σ : L2.St} {L : Lc} {Q : VK} {kvs : List (Key × A)} {ws : List (Key × V)} {p : Addr} (F : Fm T X cls ρ h L σ H) (r : RepKs T X.K ρ h.n H kvs ws) (q : PostE T X cls W ρ h H σ L Q (.ok (.ref h.n) (h.new (.dic kvs)))) (hp : H p = none) : Q (.ref p) (upd H p (.dK ws)) := by
  have st := step_new (ρ := ρ) (h := h) (H := H) (u := .dK ws) (o := .dic kvs) (fun _ _ => F.lt) hp rfl
  refine q (put1 ρ h.n p) _ (.ref p) st (F.new hp rfl ⟨ws, upd_same, RepKs.step st.wk r⟩) ?_
  simp only [RepV]
  exact ⟨by rw [put1_same], Nat.lt_succ_self _⟩
theorem cb_dict : CbOk T X cls W (.type "dict") (g1 dicA) := by
  refine cb1 call_dictD fun ρ h H σ L a v Q F ra p => ?_
  cases a with
  | ref l =>
    simp only [dicA] at p
    cases eo : h.get l with
    | none => rw [eo] at p; exact p.elim
    | some o =>
      rw [eo] at p
      cases o with
      | dic kvs =>
        obtain ⟨ws, rfl, q, r⟩ := dic_ok F eo ra
        exact ⟨_, ws, rfl, .inl q, fun pp hp => new_dic F r p hp⟩
      | _ => exact p.elim
  | _ => exact p.elim
def intA (a : A) (h : Hq) : Res A := match a with
  | .int i => .ok (.int i) h
  | .bl b => .ok (.int (if b then 1 else 0)) h
  | _ => .bad
theorem cb_int : CbOk T X cls W (.type "int") (g1 intA) := by
  refine cb1 call_int1 fun ρ h H σ L a v Q F ra p => ?_
  unfold intA at p
  split at p
  · cases ra; exact .inl ⟨_, rfl, p.here F rfl⟩
  · cases ra; exact .inr ⟨_, rfl, p.here F rfl⟩
  · exact p.elim
def boolA (a : A) (h : Hq) : Res A := match a with
  | .int i => .ok (.bl (i != 0)) h
  | .bl b => .ok (.bl b) h
  | _ => .bad
theorem cb_bool : CbOk T X cls W (.type "bool") (g1 boolA) := by
  refine cb1 call_bool1 fun ρ h H σ L a v Q F ra p => ?_
  unfold boolA at p
  split at p
  · cases ra; exact .inl ⟨_, rfl, p.here F rfl⟩
  · cases ra; exact .inr ⟨_, rfl, p.here F rfl⟩
  · exact p.elim
def strA (a : A) (h : Hq) : Res A := match a with
  | .int i => if i.natAbs.log2 < 1920 then .ok (.str (toString i)) h else .bad
  | .str s => .ok (.str s) h
  | _ => .bad
theorem CallR.orr {f : Value} {r r' : List V → Hp → VK → Prop} (h : CallR X f r) (h' : CallR X f r') : CallR X f (fun xs H Q => r xs H Q ∨ r' xs H Q) := L2.CallR.or h h'
theorem cb_str : CbOk T X cls W (.type "str") (g1 strA) := by
  refine cb1 (CallR.orr call_str_int SkE.call_str_str) fun ρ h H σ L a v Q F ra p => ?_
  unfold strA at p
  split at p
  · split at p
    · rename_i hz
      cases ra; exact .inl ⟨_, rfl, hz, p.here F rfl⟩
    · exact p.elim
  · cases ra; exact .inr ⟨_, rfl, p.here F rfl⟩
  · exact p.elim
/-! ### folds -/
def blsOf : List A → Option (List Bool)
  | [] => some []
  | .bl b :: xs => (blsOf xs).map (b :: ·)
  | _ :: _ => none
def intsOf : List A → Option (List Int)
  | [] => some []
  | .int b :: xs => (intsOf xs).map (b :: ·)
  | _ :: _ => none
def strsOf : List A → Option (List Str)
  | [] => some []
  | .str b :: xs => (strsOf xs).map (b :: ·)
  | _ :: _ => none
theorem bls_rep {K : PySem.W.Frag} {ρ : Nat → Addr} {n : Nat} {H : Hp} : ∀ {xs : List A} {vs : List V} {bs : List Bool}, blsOf xs = some bs → RepVs T K ρ n H xs vs → vs = bs.map V.bl
  | [], _, _, e, r => by cases e; simp only [RepVs] at r; subst r; rfl
  | x :: xs, _, _, e, r => by
    simp only [RepVs] at r
    obtain ⟨y, ys, rfl, r1, r2⟩ := r
    cases x with
    | bl b =>
      simp only [blsOf] at e
      obtain ⟨bs, e1, rfl⟩ := Option.map_eq_some_iff.mp e
      cases r1
      rw [bls_rep e1 r2]; rfl
    | _ => cases e
theorem ints_rep {K : PySem.W.Frag} {ρ : Nat → Addr} {n : Nat} {H : Hp} : ∀ {xs : List A} {vs : List V} {bs : List Int}, intsOf xs = some bs → RepVs T K ρ n H xs vs → vs = bs.map V.int
  | [], _, _, e, r => by cases e; simp only [RepVs] at r; subst r; rfl
  | x :: xs, _, _, e, r => by
    simp only [RepVs] at r
    obtain ⟨y, ys, rfl, r1, r2⟩ := r
    cases x with
    | int b =>
      simp only [intsOf] at e
      obtain ⟨bs, e1, rfl⟩ := Option.map_eq_some_iff.mp e
      cases r1
      rw [ints_rep e1 r2]; rfl
    | _ => cases e
theorem strs_rep {K : PySem.W.Frag} {ρ : Nat → Addr} {n : Nat} {H : Hp} : ∀ {xs : List A} {vs : List V} {bs : List Str}, strsOf xs = some bs → RepVs T K ρ n H xs vs → vs = bs.map V.str
  | [], _, _, e, r => by cases e; simp only [RepVs] at r; subst r; rfl
  | x :: xs, _, _, e, r => by
    simp only [RepVs] at r
    obtain ⟨y, ys, rfl, r1, r2⟩ := r
    cases x with
    | str b =>
      simp only [strsOf] at e
      obtain ⟨bs, e1, rfl⟩ := Option.map_eq_some_iff.mp e
      cases r1
      rw [strs_rep e1 r2]; rfl
    | _ => cases e
def allA (a : A) (h : Hq) : Res A := match a with
  | .ref l => match seqOf h (.ref l) with
    | some xs => match blsOf xs with
      | some bs => .ok (.bl (bs.all id)) h
      | none => .bad
    | none => .bad
  | _ => .bad
theorem cb_all (hc : X.calm = true) : CbOk T X cls W (.builtin "all") (g1 allA) := by
  refine cb1 (cr_all hc) fun ρ h H σ L a v Q F ra p => ?_
  cases a with
  | ref l =>
    simp only [allA] at p
    split at p
    · rename_i xs e
      split at p
      · rename_i bs e2
        obtain ⟨vs, rfl, hq, r⟩ := lref_ok F e ra
        have e3 := bls_rep e2 r
        subst e3
        exact ⟨_, bs, rfl, hq, p.here F rfl⟩
      · exact p.elim
    · exact p.elim
  | _ => exact p.elim
def anyA (a : A) (h : Hq) : Res A := match a with
  | .ref l => match seqOf h (.ref l) with
    | some xs => match blsOf xs with
      | some bs => .ok (.bl (bs.any id)) h
      | none => .bad
    | none => .bad
  | _ => .bad
theorem cb_any (hc : X.calm = true) : CbOk T X cls W (.builtin "any") (g1 anyA) := by
  refine cb1 (cr_any hc) fun ρ h H σ L a v Q F ra p => ?_
  cases a with
  | ref l =>
    simp only [anyA] at p
    split at p
    · rename_i xs e
      split at p
      · rename_i bs e2
        obtain ⟨vs, rfl, hq, r⟩ := lref_ok F e ra
        have e3 := bls_rep e2 r
        subst e3
        exact ⟨_, bs, rfl, hq, p.here F rfl⟩
      · exact p.elim
    · exact p.elim
  | _ => exact p.elim
def sumA (a : A) (h : Hq) : Res A := match a with
  | .ref l => match seqOf h (.ref l) with
    | some xs => match intsOf xs with
      | some bs => .ok (.int bs.sum) h
      | none => .bad
    | none => .bad
  | _ => .bad
theorem cb_sum (hc : X.calm = true) : CbOk T X cls W (.builtin "sum") (g1 sumA) := by
  refine cb1 (cr_sum hc) fun ρ h H σ L a v Q F ra p => ?_
  cases a with
  | ref l =>
    simp only [sumA] at p
    split at p
    · rename_i xs e
      split at p
      · rename_i bs e2
        obtain ⟨vs, rfl, hq, r⟩ := lref_ok F e ra
        have e3 := ints_rep e2 r
        subst e3
        exact ⟨_, bs, rfl, hq, p.here F rfl⟩
      · exact p.elim
    · exact p.elim
  | _ => exact p.elim
def minA (a b : A) (h : Hq) : Res A := match a, b with
  | .int i, .int j => .ok (.int (if j < i then j else i)) h
  | _, _ => .bad
def maxA (a b : A) (h : Hq) : Res A := match a, b with
  | .int i, .int j => .ok (.int (if j > i then j else i)) h
  | _, _ => .bad
theorem cb_min (hc : X.calm = true) : CbOk T X cls W (.builtin "min") (g2 minA) := by
  refine cb2 (call_min2 hc) fun ρ h H σ L a b v w Q F ra rb p => ?_
  unfold minA at p
  split at p
  · cases ra; cases rb; exact ⟨_, _, rfl, p.here F rfl⟩
  · exact p.elim
theorem cb_max (hc : X.calm = true) : CbOk T X cls W (.builtin "max") (g2 maxA) := by
  refine cb2 (call_max2 hc) fun ρ h H σ L a b v w Q F ra rb p => ?_
  unfold maxA at p
  split at p
  · cases ra; cases rb; exact ⟨_, _, rfl, p.here F rfl⟩
  · exact p.elim

/-! ### methods of builtins -/
inductive Ty where
  | lst | dic | str
def Ty.nm : Ty → String
  | .lst => "list"
  | .dic => "dict"
  | .str => "str"
def tyA (t : Ty) (h : Hq) (a : A) : Bool := match t, a with
  | .str, .str _ => true
  | .lst, .ref l => match h.get l with
    | some (.lst _) => true
    | some (.rol _) => true
    | _ => false
  | .dic, .ref l => match h.get l with
    | some (.dic _) => true
    | some (.dit _) => true
    | _ => false
  | _, _ => false
theorem tyA_ok {ρ : Nat → Addr} {h : Hq} {H : Hp} {σ : L2.St} {L : Lc} (F : Fm T X cls ρ h L σ H) {t : Ty} {a : A} {v : V} (e : tyA t h a = true) (r : RepV T X.K ρ h.n H a v) : tyV X.K t.nm v H := by
  cases t with
  | str =>
    cases a with
    | str s => cases r; rfl
    | _ => cases e
  | lst =>
    cases a with
    | ref l =>
      simp only [RepV] at r
      obtain ⟨rfl, _⟩ := r
      simp only [tyA] at e
      cases eo : h.get l with
      | none => rw [eo] at e; cases e
      | some o =>
        rw [eo] at e
        cases o with
        | lst xs => obtain ⟨vs, q, _⟩ := F.notCls eo (fun v z => nomatch z); exact .inl ⟨rfl, vs, SqL.of q⟩
        | rol xs => obtain ⟨vs, q, _⟩ := F.notCls eo (fun v z => nomatch z); exact .inl ⟨rfl, vs, q.sq⟩
        | _ => cases e
    | _ => cases e
  | dic =>
    cases a with
    | ref l =>
      simp only [RepV] at r
      obtain ⟨rfl, _⟩ := r
      simp only [tyA] at e
      cases eo : h.get l with
      | none => rw [eo] at e; cases e
      | some o =>
        rw [eo] at e
        cases o with
        | dic xs => obtain ⟨vs, q, _⟩ := F.notCls eo (fun v z => nomatch z); exact .inr (.inr (.inl ⟨rfl, .inl ⟨vs, q⟩⟩))
        | dit xs => obtain ⟨vs, q, _⟩ := F.notCls eo (fun v z => nomatch z); exact .inr (.inr (.inl ⟨rfl, .inr ⟨vs, q⟩⟩))
        | _ => cases e
    | _ => cases e
structure MbOk (T : Tb) (X : Cx) (cls : List (Option Nat)) (W : WX) (id : String) (g : A → List A → Hq → Res A) : Prop where
  run : ∀ {pins : List (Addr × Obj)} {s : Shared} {ρ : Nat → Addr} {h : Hq} {H : Hp} {σ : L2.St} {L : Lc} {a : A} {as : List A} {v : V} {vs : List V} {u : Value} {us : List Value} {Q : VK},
    L2.Inv X pins σ H s → Fm T X cls ρ h L σ H → RepV T X.K ρ h.n H a v → RepVs T X.K ρ h.n H as vs → RelV v u → Vals vs us → PostE T X cls W ρ h H σ L Q (g a as h) → wpAny (model X.prog X.w) X.A (call (.builtin id) (u :: us)) (EP X pins σ Q) X.xe s
theorem mb_of {id : String} {r : V → List V → Hp → VK → Prop} {g : A → List A → Hq → Res A} (hc : MtM X id r) (hf : ∀ (ρ : Nat → Addr) (h : Hq) (H : Hp) (σ : L2.St) (L : Lc) (a : A) (as : List A) (v : V) (vs : List V) (Q : VK), Fm T X cls ρ h L σ H → RepV T X.K ρ h.n H a v → RepVs T X.K ρ h.n H as vs → PostE T X cls W ρ h H σ L Q (g a as h) → r v vs H Q) : MbOk T X cls W id g :=
  ⟨fun {pins s ρ h H σ L a as v vs u us Q} I F ra rv ru rus p => hc pins s σ H v vs u us Q I ru rus (hf ρ h H σ L a as v vs Q F ra rv p)⟩
def eBM (t : Ty) (g : A → List A → Hq → Res A) (mo : ME) (m : MA) : ME := fun L h => (mo L h).bind fun a h1 => if tyA t h1 a = true then (m L h1).bind fun as h2 => g a as h2 else .bad
theorem s_bm {id : String} {t : Ty} {g : A → List A → Hq → Res A} {o e : Expr} {es : List Expr} {mo : ME} {m : MA} {name : Str} {apos cpos : Pos} (pa : PlainAttrs t.nm) (slot : Slot t.nm name id) (hty : typeOf (.builtin id) = pure (.type "method_descriptor")) (hm : MbOk T X cls W id g) (ho : SE T X cls W o mo) (ha : SA T X cls W (e :: es) m)
    (hbase : attributeBase o name X.env (eval o X.env) = eval o X.env := by rfl)
    (hfew : ((backTo cpos (starEach (e :: es) X.env)).all (fun x => !x.1) && (backToKw cpos (keywordEach [] X.env)).all (fun x => x.1.isSome)
      && decide ((e :: es).length + ([] : List Keyword).length + (if ([] : List Keyword).isEmpty then 0 else 1) < 30)) = true := by rfl)
    (hline : (apos.endLine == cpos.line) = true := by rfl) (hs : starEach (e :: es) X.env = (false, eval e X.env) :: starEach es X.env := by rfl) (hplain : (backTo cpos (starEach es X.env)).any (·.1) = false := by rfl) :
    SE T X cls W (.Call (.Attribute o name apos) (e :: es) [] cpos) (eBM t g mo m) := by
  refine ⟨fun pins s σ H Q I ⟨ρ, h, L, F, q⟩ => ?_⟩
  refine wpAny_Call_method_late hbase hfew hline rfl (ho.then I F q fun a h1 ρ1 H1 s1 v u I1 st1 F1 ru rv p1 => ?_)
  split at p1
  · rename_i ht
    obtain ⟨t1, t2⟩ := tyV_is I1 ru (tyA_ok F1 ht rv)
    refine ⟨t.nm, id, pa, slot, hty, t1, t2, ?_⟩
    have hA := SA.then ha (pos := cpos) (Q := fun us s2 => wpAny (model X.prog X.w) X.A (call (.builtin id) (u :: us)) (EP X pins σ Q) X.xe s2) I1 F1 p1 fun as h2 ρ2 H2 s2 vs us I2 st2 F2 rus rvs p2 => hm.run I2 F2 (RepV.step st2.wk _ _ rv) rvs ru rus p2
    rw [hs] at hA ⊢
    exact Calls.callWith_builtin (by show (false || (backTo cpos (starEach es X.env)).any (·.1)) = false; rw [hplain] <;> rfl) (Calls.evalArgs_plain hA)
  · exact p1.elim
theorem s_bm0 {id : String} {t : Ty} {g : A → List A → Hq → Res A} {o : Expr} {mo : ME} {name : Str} {apos cpos : Pos} (pa : PlainAttrs t.nm) (slot : Slot t.nm name id) (hty : typeOf (.builtin id) = pure (.type "method_descriptor")) (hm : MbOk T X cls W id g) (ho : SE T X cls W o mo)
    (hbase : attributeBase o name X.env (eval o X.env) = eval o X.env := by rfl) (hline : (apos.endLine == cpos.line) = true := by rfl) :
    SE T X cls W (.Call (.Attribute o name apos) [] [] cpos) (eBM t g mo aNil) := by
  refine ⟨fun pins s σ H Q I ⟨ρ, h, L, F, q⟩ => ?_⟩
  refine wpAny_Call_method0_late hbase hline (ho.then I F q fun a h1 ρ1 H1 s1 v u I1 st1 F1 ru rv p1 => ?_)
  split at p1
  · rename_i ht
    obtain ⟨t1, t2⟩ := tyV_is I1 ru (tyA_ok F1 ht rv)
    exact ⟨t.nm, id, pa, slot, hty, t1, t2, Calls.callWith_builtin rfl (PySem.evalArgs_none (hm.run I1 F1 rv (as := []) (vs := []) rfl ru .nil p1))⟩
  · exact p1.elim
/-! lists -/
def gAppend (a : A) (as : List A) (h : Hq) : Res A := match a, as with
  | .ref l, [x] => match h.get l with
    | some (.lst xs) => if xs.length < SZ then .ok .non (h.upd l (.lst (xs ++ [x]))) else .bad
    | _ => .bad
  | _, _ => .bad
theorem upd_lst {ρ : Nat → Addr} {h : Hq} {H : Hp} {σ : L2.St} {L : Lc} {Q : VK} {l : Nat} {a : A} {v : V} {xs ys : List A} {vs ws : List V} (F : Fm T X cls ρ h L σ H) (eo : h.get l = some (.lst xs)) (q : H (ρ l) = some (.lst vs)) (r : RepVs T X.K ρ h.n H ys ws) (ra : RepV T X.K ρ h.n H a v)
    (p : PostE T X cls W ρ h H σ L Q (.ok a (h.upd l (.lst ys)))) : Q v (upd H (ρ l) (.lst ws)) := by
  obtain ⟨F3, st⟩ := F.write (u := .lst ws) (o := .lst ys) eo rfl rfl q (fun z => z) (fun _ z => nomatch z) fun wk => ⟨_, upd_same, RepVs.step wk _ _ r⟩
  exact p ρ _ v st F3 (RepV.step st.wk _ _ ra)
theorem mb_append : MbOk T X cls W "list.append" gAppend := mb_of mt_append fun ρ h H σ L a as v vs Q F ra rv p => by
  unfold gAppend at p
  split at p
  · rename_i l x
    split at p
    · rename_i xs eo
      split at p
      · rename_i hz
        obtain ⟨ws, q, r⟩ := F.rep eo rfl
        simp only [RepV] at ra
        obtain ⟨rfl, _⟩ := ra
        obtain ⟨y, rfl, ry⟩ := rv.one
        exact ⟨_, ws, y, rfl, rfl, q, by rw [RepVs.length r, ← sz_eq]; exact hz, upd_lst F eo q (r.append (show RepVs T X.K ρ h.n H [x] [y] from ⟨y, [], rfl, ry, rfl⟩)) (a := .non) (v := .non) rfl p⟩
      · exact p.elim
    · exact p.elim
  · exact p.elim
def gClear (a : A) (as : List A) (h : Hq) : Res A := match a, as with
  | .ref l, [] => match h.get l with
    | some (.lst _) => .ok .non (h.upd l (.lst []))
    | _ => .bad
  | _, _ => .bad
theorem mt_clear : MtM X "list.clear" (fun x vs H Q => ∃ l xs, x = .ref l ∧ vs = [] ∧ H l = some (.lst xs) ∧ Q .non (upd H l (.lst []))) := by
  intro pins s σ H x vs v us Q I rx rv h
  obtain ⟨l, xs, rfl, rfl, hH, q⟩ := h
  cases rx
  cases rv
  obtain ⟨z, its, n, r, hl, e⟩ := I.lstM hH
  refine call_meets PySem.F.slot_list_clear ⟨_, e, rfl⟩ PySem.F.entry_list_clear (PySem.F.args_list_clear_1 _) (PySem.AutoSeq1.list_clear_list_0 l its.toArray n (by simp; omega)) ⟨e, ?_⟩
  exact ⟨.non, _, I.lset (its' := []) hH e (by simp) .nil (Nat.zero_le _), rfl, q⟩
theorem mb_clear : MbOk T X cls W "list.clear" gClear := mb_of mt_clear fun ρ h H σ L a as v vs Q F ra rv p => by
  unfold gClear at p
  split at p
  · rename_i l
    split at p
    · rename_i xs eo
      obtain ⟨ws, q, r⟩ := F.rep eo rfl
      simp only [RepV] at ra
      obtain ⟨rfl, _⟩ := ra
      simp only [RepVs] at rv
      subst rv
      exact ⟨_, ws, rfl, rfl, q, upd_lst F eo q (ys := []) (ws := []) rfl (a := .non) (v := .non) rfl p⟩
    · exact p.elim
  · exact p.elim
def gPopL (a : A) (as : List A) (h : Hq) : Res A := match a, as with
  | .ref l, [] => match h.get l with
    | some (.lst xs) => match xs[xs.length - 1]? with
      | some x => .ok x (h.upd l (.lst xs.dropLast))
      | none => .bad
    | _ => .bad
  | _, _ => .bad
theorem RepVs.dropLast {K : PySem.W.Frag} {ρ : Nat → Addr} {n : Nat} {H : Hp} : ∀ {xs : List A} {vs : List V}, RepVs T K ρ n H xs vs → RepVs T K ρ n H xs.dropLast vs.dropLast
  | [], _, r => by simp only [RepVs] at r; subst r; rfl
  | [x], _, r => by simp only [RepVs] at r; obtain ⟨y, ys, rfl, r1, rfl⟩ := r; rfl
  | x :: z :: xs, _, r => by
    simp only [RepVs] at r
    obtain ⟨y, ys, rfl, r1, w, ws, rfl, r2, r3⟩ := r
    exact ⟨y, _, rfl, r1, RepVs.dropLast (xs := z :: xs) (vs := w :: ws) ⟨w, ws, rfl, r2, r3⟩⟩
theorem mb_popL : MbOk T X cls W "list.pop" gPopL := mb_of mt_pop fun ρ h H σ L a as v vs Q F ra rv p => by
  unfold gPopL at p
  split at p
  · rename_i l
    split at p
    · rename_i xs eo
      split at p
      · rename_i x ex
        obtain ⟨ws, q, r⟩ := F.rep eo rfl
        simp only [RepV] at ra
        obtain ⟨rfl, _⟩ := ra
        simp only [RepVs] at rv
        subst rv
        obtain ⟨y, ey, ry⟩ := r.get ex
        exact ⟨_, ws, y, rfl, rfl, q, by rw [RepVs.length r]; exact ey, upd_lst F eo q r.dropLast ry p⟩
      · exact p.elim
    · exact p.elim
  · exact p.elim
/-! dicts -/
theorem upd_dic {ρ : Nat → Addr} {h : Hq} {H : Hp} {σ : L2.St} {L : Lc} {Q : VK} {l : Nat} {a : A} {v : V} {xs ys : List (Key × A)} {vs ws : List (Key × V)} (F : Fm T X cls ρ h L σ H) (eo : h.get l = some (.dic xs)) (q : H (ρ l) = some (.dK vs)) (r : RepKs T X.K ρ h.n H ys ws) (ra : RepV T X.K ρ h.n H a v)
    (p : PostE T X cls W ρ h H σ L Q (.ok a (h.upd l (.dic ys)))) : Q v (upd H (ρ l) (.dK ws)) := by
  obtain ⟨F3, st⟩ := F.write (u := .dK ws) (o := .dic ys) eo rfl rfl q (fun z => z) (fun _ z => nomatch z) fun wk => ⟨_, upd_same, RepKs.step wk r⟩
  exact p ρ _ v st F3 (RepV.step st.wk _ _ ra)
def gGet (a : A) (as : List A) (h : Hq) : Res A := match a with
  | .ref l => match h.get l with
    | some (.dic kvs) => match as with
      | [k] => match keyOf k with
        | some key => .ok ((valA kvs key).getD .non) h
        | none => .bad
      | [k, d] => match keyOf k with
        | some key => .ok ((valA kvs key).getD d) h
        | none => .bad
      | _ => .bad
    | _ => .bad
  | _ => .bad
theorem val_getD {K : PySem.W.Frag} {ρ : Nat → Addr} {n : Nat} {H : Hp} {kvs : List (Key × A)} {ws : List (Key × V)} {d : A} {w : V} (r : RepKs T K ρ n H kvs ws) (rd : RepV T K ρ n H d w) (k : Key) : RepV T K ρ n H ((valA kvs k).getD d) ((valV ws k).getD w) := by
  have hv := r.val k
  cases e : valA kvs k with
  | none => rw [e] at hv; rw [show valV ws k = none from hv]; exact rd
  | some x => rw [e] at hv; obtain ⟨v, hv, rx⟩ := hv; rw [hv]; exact rx
theorem mb_get {k : Nat} (ar : Arnd k X.A) : MbOk T X cls W "dict.get" gGet := by
  refine ⟨fun {pins s ρ h H σ L a as v vs u us Q} I F ra rv ru rus p => ?_⟩
  unfold gGet at p
  split at p
  · rename_i l
    split at p
    · rename_i kvs eo
      obtain ⟨ws, rfl, q, r⟩ := dic_ok F eo ra
      obtain rfl : u = Value.ref (ρ l) := ru
      split at p
      · split at p
        · rename_i key ek
          obtain ⟨y, rfl, ry⟩ := rv.one
          obtain ⟨u1, rfl, ru1⟩ := rus.one
          have e := key_rep ek ry
          subst e
          exact d_get1 (by have := ar.room.units; omega) I (DGet.k q) ru1 fun w' s' I' rw' => ⟨_, H, I', rw', p.here F (val_getD r (d := .non) (w := .non) rfl key)⟩
        · exact p.elim
      · split at p
        · rename_i key ek
          obtain ⟨y, z, rfl, ry, rz⟩ := rv.two
          obtain ⟨u1, u2, rfl, ru1, ru2⟩ := rus.two
          have e := key_rep ek ry
          subst e
          exact d_get2 (by have := ar.room.units; omega) I (DGet.k q) ru1 ru2 fun w' s' I' rw' => ⟨_, H, I', rw', p.here F (val_getD r rz key)⟩
        · exact p.elim
      · exact p.elim
    · exact p.elim
  · exact p.elim
def gPopD (a : A) (as : List A) (h : Hq) : Res A := match a with
  | .ref l => match h.get l with
    | some (.dic kvs) => match as with
      | [k, d] => match keyOf k with
        | some key => match valA kvs key with
          | some x => .ok x (h.upd l (.dic (dropA kvs key)))
          | none => .ok d h
        | none => .bad
      | [k] => match keyOf k with
        | some key => match valA kvs key with
          | some x => .ok x (h.upd l (.dic (dropA kvs key)))
          | none => .bad
        | none => .bad
      | _ => .bad
    | _ => .bad
  | _ => .bad
theorem mb_popD : MbOk T X cls W "dict.pop" gPopD := by
  refine ⟨fun {pins s ρ h H σ L a as v vs u us Q} I F ra rv ru rus p => ?_⟩
  unfold gPopD at p
  split at p
  · rename_i l
    split at p
    · rename_i kvs eo
      obtain ⟨ws, rfl, q, r⟩ := dic_ok F eo ra
      obtain rfl : u = Value.ref (ρ l) := ru
      split at p
      · split at p
        · rename_i key ek
          obtain ⟨y, z, rfl, ry, rz⟩ := rv.two
          obtain ⟨u1, u2, rfl, ru1, ru2⟩ := rus.two
          have e := key_rep ek ry
          subst e
          have hv := r.val key
          split at p
          · rename_i x ex
            rw [ex] at hv
            obtain ⟨w, hv, rx⟩ := hv
            exact d_pop I q ru1 hv (.inr ⟨_, rfl⟩) fun w' s' I' rw' => ⟨w, _, I', rw', upd_dic F eo q r.drop rx p⟩
          · rename_i ex
            rw [ex] at hv
            exact d_popD I q ru1 hv fun s' I' => ⟨z, H, I', ru2, p.here F rz⟩
        · exact p.elim
      · split at p
        · rename_i key ek
          obtain ⟨y, rfl, ry⟩ := rv.one
          obtain ⟨u1, rfl, ru1⟩ := rus.one
          have e := key_rep ek ry
          subst e
          have hv := r.val key
          split at p
          · rename_i x ex
            rw [ex] at hv
            obtain ⟨w, hv, rx⟩ := hv
            exact d_pop I q ru1 hv (.inl rfl) fun w' s' I' rw' => ⟨w, _, I', rw', upd_dic F eo q r.drop rx p⟩
          · exact p.elim
        · exact p.elim
      · exact p.elim
    · exact p.elim
  · exact p.elim
def gSetd (a : A) (as : List A) (h : Hq) : Res A := match a with
  | .ref l => match h.get l with
    | some (.dic kvs) => match as with
      | [k, d] => match keyOf k with
        | some key => if kvs.length < SZ then match valA kvs key with
          | some x => .ok x h
          | none => .ok d (h.upd l (.dic (putA kvs key d))) else .bad
        | none => .bad
      | _ => .bad
    | _ => .bad
  | _ => .bad
theorem mt_setd : MtM X "dict.setdefault" (fun x vs H Q => ∃ (a : Addr) (kvs : List (Key × V)) (k : Key) (v : V), x = .ref a ∧ vs = [kV k, v] ∧ H a = some (.dK kvs) ∧ kvs.length < sizeLine ∧ (∀ u, valV kvs k = some u → Q u H) ∧ (valV kvs k = none → Q v (upd H a (.dK (putK kvs k v))))) := by
  intro pins s σ H x vs v us Q I rx rv h
  obtain ⟨a, kvs, k, w, rfl, rfl, ea, hl, w1, w2⟩ := h
  cases rx
  obtain ⟨u1, u2, rfl, ry, rd⟩ := rv.two
  obtain ⟨z, hd, vs0, rel, dd⟩ := dk_of I.hok ea
  have hz : vs0.length ≤ sizeLine := by rw [← rel.length]; exact z
  refine call_meetsIn PySem.F.slot_dict_setdefault dd.typeIs PySem.F.entry_dict_setdefault (PySem.F.args_dict_setdefault_3 _ _ _) (kt_meets_setdefault (mixKind X.prog X.w) _ (kV_is ry) hd _) ⟨vs0, dd, hz, fun u hu => ?_, fun hn h' dd' hs => ?_⟩
  · have rr := rel.val k
    rw [hu] at rr
    cases hv : valV kvs k with
    | none => rw [hv] at rr; exact False.elim rr
    | some x =>
      rw [hv] at rr
      exact (⟨x, H, I.tok _, rr, w1 x hv⟩ : EP X pins σ Q u _)
  · have rr := rel.val k
    rw [hn] at rr
    cases hv : valV kvs k with
    | some x => rw [hv] at rr; exact False.elim rr
    | none =>
      have hl2 : (putK kvs k w).length ≤ sizeLine := by have := length_putK kvs k w; omega
      exact (⟨w, _, d_write (t' := s.toks + 1) I (by rw [ea]; exact True.intro) hs (let ⟨q, _, _, hq, _⟩ := dd'; ⟨q, hq⟩) (dk_new hl2 hd (rel.put k rd) dd'), rd, w2 hv⟩ : EP X pins σ Q _ _)
theorem mb_setd : MbOk T X cls W "dict.setdefault" gSetd := by
  refine ⟨fun {pins s ρ h H σ L a as v vs u us Q} I F ra rv ru rus p => ?_⟩
  unfold gSetd at p
  split at p
  · rename_i l
    split at p
    · rename_i kvs eo
      obtain ⟨ws, rfl, q, r⟩ := dic_ok F eo ra
      split at p
      · split at p
        · rename_i key ek
          obtain ⟨y, z, rfl, ry, rz⟩ := rv.two
          have e := key_rep ek ry
          subst e
          have hv := r.val key
          split at p
          · rename_i hz
            refine mt_setd pins s σ H _ _ u us Q I ru rus ⟨ρ l, ws, key, z, rfl, rfl, q, by rw [← r.len, ← sz_eq]; exact hz, fun u hu => ?_, fun hu => ?_⟩
            · cases ex : valA kvs key with
              | some x =>
                rw [ex] at hv p
                obtain ⟨w, hv, rx⟩ := hv
                rw [hv] at hu
                cases hu
                exact p.here F rx
              | none => rw [ex] at hv; rw [show valV ws key = none from hv] at hu; cases hu
            · cases ex : valA kvs key with
              | some x =>
                rw [ex] at hv
                obtain ⟨w, hv, rx⟩ := hv
                rw [hv] at hu
                cases hu
              | none =>
                rw [ex] at p
                exact upd_dic F eo q (r.put rz) rz p
          · exact p.elim
        · exact p.elim
      · exact p.elim
    · exact p.elim
  · exact p.elim
end
end Zk
end
section
set_option Elab.async false
set_option linter.all false
set_option maxRecDepth 100000
/-! Zk16: targets of tuples, for. -/
namespace Zk
open PySem PySem.Spec PyProof.Rows L2 NdefX LamX

/-- what a loop walks, by turn: none: not told; some none: the end -/
abbrev PItr := Nat → Hq → Option (Option A)
def ItSt (T : Tb) (K : PySem.W.Frag) (J : It) (X : Cx) (cls : List (Option Nat)) (i : Nat) (ρ : Nat → Addr) (h : Hq) (L : Lc) (σ : L2.St) (H : Hp) : Option (Option A) → Prop
  | none => True
  | some none => J.stop i H
  | some (some a) => J.go i H ∧ ∀ v H', J.yld i H v H' → Step [] ρ h H ρ h H' ∧ Fm T X cls ρ h L σ H' ∧ RepV T K ρ h.n H' a v
def ItOk (T : Tb) (K : PySem.W.Frag) (J : It) (p : PItr) (ρ0 : Nat → Addr) (n0 : Nat) (H0 : Hp) : Prop :=
  ∀ (X : Cx) (cls : List (Option Nat)) (i : Nat) (ρ : Nat → Addr) (h : Hq) (L : Lc) (σ : L2.St) (H : Hp), X.K = K → Fm T X cls ρ h L σ H → Wk ρ0 n0 H0 ρ h.n H → (∀ b o, H0 b = some o → Fix o → H b = some o) → ItSt T K J X cls i ρ h L σ H (p i h)
abbrev MI := Lc → Hq → Res PItr
def PostI (T : Tb) (X : Cx) (cls : List (Option Nat)) (W : WX) (ρ : Nat → Addr) (h : Hq) (H : Hp) (σ : L2.St) (loc : Lc) (R : It → Hp → Prop) : Res PItr → Prop
  | .ok p h' => ∀ (ρ' : Nat → Addr) (H' : Hp) (J : It), Step [] ρ h H ρ' h' H' → Fm T X cls ρ' h' loc σ H' → ItOk T X.K J p ρ' h'.n H' → R J H'
  | .err c fs h' => ErrW T X cls W ρ h H σ loc c fs h'
  | .bad => False
def rdI (T : Tb) (X : Cx) (cls : List (Option Nat)) (W : WX) (m : MI) : TI := fun σ H R => ∃ ρ h loc, Fm T X cls ρ h loc σ H ∧ PostI T X cls W ρ h H σ loc R (m loc h)
abbrev SI (T : Tb) (X : Cx) (cls : List (Option Nat)) (W : WX) (tg e : Expr) (m : MI) : Prop := PI X tg e (rdI T X cls W m)
theorem PI.weak {X : Cx} {tg e : Expr} {t t' : TI} (h : PI X tg e t) (w : ∀ σ H Q, t' σ H Q → t σ H Q) : PI X tg e t' := ⟨fun pins s σ H Q I q => h.run pins s σ H Q I (w σ H Q q)⟩
theorem PI.orr {X : Cx} {tg e : Expr} {t t' : TI} (h : PI X tg e t) (h' : PI X tg e t') : PI X tg e (fun σ H R => t σ H R ∨ t' σ H R) := ⟨fun pins s σ H R I q => q.elim (fun z => h.run pins s σ H R I z) fun z => h'.run pins s σ H R I z⟩

/-! ### plain for -/
def forL (p : PItr) (g : MG) (body : MS) : Nat → Nat → MS
  | 0, _, _, _ => .bad
  | f + 1, i, L, h => match p i h with
    | none => .bad
    | some none => .ok .nx L h
    | some (some a) => match g a L h with
      | .ok _ L1 h1 => match body L1 h1 with
        | .ok .nx L2 h2 => forL p g body f (i + 1) L2 h2
        | .ok .ct L2 h2 => forL p g body f (i + 1) L2 h2
        | .ok .bk L2 h2 => .ok .nx L2 h2
        | r => r
      | r => r
def sFor (m : MI) (g : MG) (body : MS) (fuel : Nat) : MS := fun L h => match m L h with
  | .ok p h1 => forL p g body fuel 0 L h1
  | .err c fs h1 => .err c fs L h1
  | .bad => .bad
section
variable {T : Tb} {X : Cx} {cls ex : List (Option Nat)} {W : WX}
theorem PostI.of {ρ ρ1 : Nat → Addr} {h h1 : Hq} {H H1 : Hp} {σ : L2.St} {loc : Lc} (st : Step [] ρ h H ρ1 h1 H1) {Q : It → Hp → Prop} {r : Res PItr} (p : PostI T X cls W ρ h H σ loc Q r) : PostI T X cls W ρ1 h1 H1 σ loc Q r := by
  cases r with
  | ok a h' => exact fun ρ' H' J s F => p ρ' H' J (st.trans s) F
  | err c fs h' => exact ErrW.of st p
  | bad => exact p
theorem PostI.bindE {ρ : Nat → Addr} {h : Hq} {H : Hp} {σ : L2.St} {loc : Lc} {r : Res A} {f : A → Hq → Res PItr} {Q : It → Hp → Prop} {Q1 : VK} (p : PostI T X cls W ρ h H σ loc Q (r.bind f))
    (k : ∀ (a : A) (h1 : Hq) (ρ1 : Nat → Addr) (H1 : Hp) (v : V), r = .ok a h1 → Step [] ρ h H ρ1 h1 H1 → Fm T X cls ρ1 h1 loc σ H1 → RepV T X.K ρ1 h1.n H1 a v → PostI T X cls W ρ1 h1 H1 σ loc Q (f a h1) → Q1 v H1) :
    PostE T X cls W ρ h H σ loc Q1 r := by
  cases r with
  | ok a h1 => exact fun ρ1 H1 v s F e => k a h1 ρ1 H1 v rfl s F e (PostI.of s p)
  | err c fs h' => exact p
  | bad => exact p
theorem PostI.bindA {ρ : Nat → Addr} {h : Hq} {H : Hp} {σ : L2.St} {loc : Lc} {r : Res (List A)} {f : List A → Hq → Res PItr} {Q : It → Hp → Prop} {Q1 : List V → Hp → Prop} (p : PostI T X cls W ρ h H σ loc Q (r.bind f))
    (k : ∀ (a : List A) (h1 : Hq) (ρ1 : Nat → Addr) (H1 : Hp) (v : List V), r = .ok a h1 → Step [] ρ h H ρ1 h1 H1 → Fm T X cls ρ1 h1 loc σ H1 → RepVs T X.K ρ1 h1.n H1 a v → PostI T X cls W ρ1 h1 H1 σ loc Q (f a h1) → Q1 v H1) :
    PostA T X cls W ρ h H σ loc Q1 r := by
  cases r with
  | ok a h1 => exact fun ρ1 H1 v s F e => k a h1 ρ1 H1 v rfl s F e (PostI.of s p)
  | err c fs h' => exact p
  | bad => exact p
theorem s_for {tg iter : Expr} {body : List Stmt} {m : MI} {g : MG} {mb : MS} {fuel : Nat} {pos : Pos} (hp : PassesOwn (model X.prog X.w) X.A X.env X.xe) (hc : X.calm = true) (hi : SI T X cls W tg iter m) (hg : SG T X cls ex W tg g) (hgn : ∀ a L h f L' h', g a L h = .ok f L' h' → f = .nx) (hb : SB T X cls ex W body mb)
    (hs : ∀ x, foldedSetIterable iter X.env x = pure x := by intro _; rfl) : SS T X cls ex W (.For tg iter body [] pos) (sFor m g mb fuel) := by
  intro pins s σ H ρ h L I F ew
  refine wpAny_For (thn (hi.run pins s σ H (fun J H1 => ∃ (p : PItr) (h1 : Hq) (ρ1 : Nat → Addr), m L h = .ok p h1 ∧ Step [] ρ h H ρ1 h1 H1 ∧ Fm T X cls ρ1 h1 L σ H1 ∧ ItOk T X.K J p ρ1 h1.n H1 ∧ EW T X cls ex W ρ1 h1 H1 (forL p g mb fuel 0 L h1)) I ⟨ρ, h, L, F, ?_⟩) fun v s1 h1 => thn h1 fun itv s2 h2 => ?_) hs
  · unfold sFor at ew
    cases e : m L h with
    | ok p h1 => rw [e] at ew; exact fun ρ' H' J s F' k => ⟨p, h1, ρ', rfl, s, F', k, EW.of s.wide ew⟩
    | err c fs h1 => rw [e] at ew; exact fun ρ' H' d ws s F' e' r => ew ρ' σ H' d ws s.wide F' e' r
    | bad => rw [e] at ew; exact ew
  obtain ⟨it, fp, tn, J, H2, e, I2, T2, st2, f2, p, h2, ρ2, em, stp, F2, ok, ew2⟩ := h2
  subst e
  have eG : sFor m g mb fuel L h = forL p g mb fuel 0 L h2 := by unfold sFor; rw [em]
  rw [eG]
  clear eG ew
  have stat : ∀ {H' : Hp}, (∀ b ∈ fp, H' b = none) → ∀ b ∈ fp, FpOk X pins H' b := fun hn b hb => ⟨hn b hb, (f2 b hb).2⟩
  have stw : Step ex ρ h H ρ2 h2 H2 := stp.wide
  have wrap : ∀ {fl : Flow} {s' : Shared}, SQ T X cls ex pins ρ2 h2 H2 (forL p g mb fuel 0 L h2) fl s' → SQ T X cls ex pins ρ h H (forL p g mb fuel 0 L h2) fl s' := fun q => SQ.of stw q
  refine codeAny_mono (R := fun r s' => match r with | .ok f => SQ T X cls ex pins ρ2 h2 H2 (forL p g mb fuel 0 L h2) f s' | .error e => cameBackBy (model X.prog X.w) X.A X.env X.xe e s') ?_ fun r s' q => by
    cases r with
    | ok f => exact wrap q
    | error e => exact q
  clear wrap
  generalize hG : forL p g mb fuel 0 L h2 = G at ew2 ⊢
  refine codeAny_forLoop_any (fun n s' => ∃ i σ' H' ρ' h' L', L2.Inv X pins σ' H' s' ∧ tn i s'.heap ∧ (∀ b ∈ fp, H' b = none) ∧ Step ex ρ2 h2 H2 ρ' h' H' ∧ Fm T X cls ρ' h' L' σ' H' ∧ forL p g mb n i L' h' = G ∧ EW T X cls ex W ρ' h' H' G) ?_ fuel ⟨0, σ, H2, ρ2, h2, L, I2, st2, fun b hb => (f2 b hb).1, F2.refl', F2, hG, ew2⟩
  rintro n s3 ⟨i, σ3, H3, ρ3, h3, L3, I3, st3, fr3, sp3, F3, e3, ew3⟩
  cases n with
  | zero => unfold forL at e3; rw [← e3] at ew3; exact ew3.elim
  | succ n =>
    have okI := ok X cls i ρ3 h3 L3 σ3 H3 rfl F3 sp3.wk sp3.keep
    cases ep : p i h3 with
    | none => unfold forL at e3; rw [ep] at e3; rw [← e3] at ew3; exact ew3.elim
    | some oa =>
      cases oa with
      | none =>
        rw [ep] at okI
        unfold forL at e3
        rw [ep] at e3
        refine wpAny_passesOwn hp (thn (T2.done X rfl rfl rfl hc i pins s3 σ3 H3 X.xe I3 (stat fr3) st3 okI) fun r s4 ⟨hr, I4⟩ => ?_)
        subst hr
        subst e3
        exact wpAny_execs_nil ⟨ρ3, σ3, H3, I4, sp3, F3, trivial⟩
      | some a =>
        rw [ep] at okI
        obtain ⟨go, yl⟩ := okI
        refine wpAny_passesOwn hp (thn (T2.item X rfl rfl rfl hc i pins s3 σ3 H3 X.xe I3 (stat fr3) st3 go) fun r s4 ⟨u, hr, h4⟩ => ?_)
        subst hr
        refine wpAny_passesOwn hp (thn h4 fun _ s5 ⟨x, H5, I5, r5, y5, st5, fr5⟩ => ?_)
        obtain ⟨sp5, F5, rv5⟩ := yl x H5 y5
        have I5' := I5.pinned (stat fr5) (T2.obj _ _ st5)
        have e3' := e3
        unfold forL at e3'
        rw [ep] at e3'
        simp only at e3'
        have ew5 : EW T X cls ex W ρ3 h3 H5 (g a L3 h3) := by
          cases eg : g a L3 h3 with
          | ok f L1 h1 => trivial
          | err c fs L1 h1 => rw [eg] at e3'; rw [← e3'] at ew3; exact EW.of sp5.wide ew3
          | bad => rw [eg] at e3'; rw [← e3'] at ew3; exact ew3
        refine wpAny_passesOwn hp (thn (hg _ s5 σ3 H5 ρ3 h3 L3 a x u I5' F5 rv5 r5 ew5) fun _ s6 q6 => ?_)
        cases eg : g a L3 h3 with
        | err c fs L1 h1 => rw [eg] at q6; exact q6.elim
        | bad => rw [eg] at q6; exact q6.elim
        | ok f L6 h6 =>
          have ef := hgn _ _ _ _ _ _ eg
          subst ef
          rw [eg] at q6 e3'
          obtain ⟨ρ6, σ6, H6, I6, sp6, F6, _⟩ := q6
          have e3' : (match mb L6 h6 with
            | .ok .nx L2 h2 => forL p g mb n (i + 1) L2 h2
            | .ok .ct L2 h2 => forL p g mb n (i + 1) L2 h2
            | .ok .bk L2 h2 => .ok .nx L2 h2
            | r => r) = G := e3'
          have ew6 : EW T X cls ex W ρ6 h6 H6 (mb L6 h6) := by
            cases eb : mb L6 h6 with
            | ok f L1 h1 => trivial
            | err c fs L1 h1 => rw [eb] at e3'; rw [← e3'] at ew3; exact EW.of sp6 (EW.of sp5.wide ew3)
            | bad => rw [eb] at e3'; rw [← e3'] at ew3; exact ew3
          refine wpAny_passesOwn hp (thn (hb _ s6 σ6 H6 ρ6 h6 L6 I6 F6 ew6) fun fl s7 q7 => ?_)
          cases eb : mb L6 h6 with
          | err c fs L1 h1 => rw [eb] at q7; exact q7.elim
          | bad => rw [eb] at q7; exact q7.elim
          | ok f7 L7 h7 =>
            rw [eb] at q7 e3'
            obtain ⟨ρ7, σ7, H7, I7, sp7, F7, fi⟩ := q7
            have sp : Step ex ρ2 h2 H2 ρ7 h7 H7 := ((sp3.trans sp5.wide).trans sp6).trans sp7
            have again : forL p g mb n (i + 1) L7 h7 = G → ∃ m, m < n + 1 ∧ ∃ i σ' H' ρ' h' L', L2.Inv X pins σ' H' s7 ∧ tn i s7.heap ∧ (∀ b ∈ fp, H' b = none) ∧ Step ex ρ2 h2 H2 ρ' h' H' ∧ Fm T X cls ρ' h' L' σ' H' ∧ forL p g mb m i L' h' = G ∧ EW T X cls ex W ρ' h' H' G := fun e => by
              refine ⟨n, Nat.lt_succ_self n, i + 1, σ7, H7, ρ7, h7, L7, I7.unpinned, T2.keep _ _ _ st5 fun b hb o e => (I7.pin (b, o) (List.mem_append_right _ (List.mem_append_right _ (mem_pinsAt hb e)))).1, fun b hb => ?_, sp, F7, e, EW.of ((sp5.wide.trans sp6).trans sp7) ew3⟩
              obtain ⟨o, e, d⟩ := T2.obj _ _ st5 b hb
              exact (I7.pin (b, o) (List.mem_append_right _ (List.mem_append_right _ (mem_pinsAt hb e)))).2.1
            cases f7 with
            | nx => cases fl with
              | next => exact again e3'
              | brk => exact fi.elim
              | cont => exact fi.elim
              | ret u => exact fi.elim
            | ct => cases fl with
              | cont => exact again e3'
              | brk => exact fi.elim
              | next => exact fi.elim
              | ret u => exact fi.elim
            | bk => cases fl with
              | brk => subst e3'; exact ⟨ρ7, σ7, H7, I7.unpinned, sp, F7, trivial⟩
              | next => exact fi.elim
              | cont => exact fi.elim
              | ret u => exact fi.elim
            | rt a => cases fl with
              | ret u => subst e3'; exact ⟨ρ7, σ7, H7, I7.unpinned, sp, F7, fi⟩
              | next => exact fi.elim
              | cont => exact fi.elim
              | brk => exact fi.elim

/-! ### what is walked -/
def iSeq (m : ME) : MI := fun L h => (m L h).bind fun a h1 => match a with
  | .tup xs => .ok (fun i _ => some xs[i]?) h1
  | .ref l => match seqOf h1 (.ref l) with
    | some _ => .ok (fun i h => (seqOf h (.ref l)).map fun xs => xs[i]?) h1
    | none => .bad
  | _ => .bad
theorem get_none {K : PySem.W.Frag} {ρ : Nat → Addr} {n : Nat} {H : Hp} {xs : List A} {vs : List V} {i : Nat} (r : RepVs T K ρ n H xs vs) (e : xs[i]? = none) : vs.length ≤ i := by
  rw [RepVs.length r]; exact List.getElem?_eq_none_iff.mp e
theorem itok_tup {K : PySem.W.Frag} {xs : List A} {q : Addr} {vs : List V} {ρ0 : Nat → Addr} {n0 : Nat} {H0 : Hp} (hq : SqT K H0 q vs) (r : RepVs T K ρ0 n0 H0 xs vs) : ItOk T K (Itt K q) (fun i _ => some xs[i]?) ρ0 n0 H0 := by
  intro X cls i ρ h L σ H hK F wk fk
  have hq' := SqT.step wk hq
  have r' := RepVs.step wk _ _ r
  show ItSt T K _ X cls i ρ h L σ H (some xs[i]?)
  cases e : xs[i]? with
  | none => exact ⟨vs, hq', get_none r' e⟩
  | some a =>
    obtain ⟨v, ev, rv⟩ := r'.get e
    refine ⟨⟨vs, v, hq', ev⟩, fun w H' ⟨e2, y⟩ => ?_⟩
    subst e2
    have := y vs hq'
    rw [ev] at this; cases this
    exact ⟨F.refl, F, rv⟩
theorem itok_lst {K : PySem.W.Frag} {l : Nat} {ρ0 : Nat → Addr} {n0 : Nat} {H0 : Hp} (hl : l < n0) : ItOk T K (Itl K (ρ0 l)) (fun i h => (seqOf h (.ref l)).map fun xs => xs[i]?) ρ0 n0 H0 := by
  intro X cls i ρ h L σ H hK F wk fk
  subst hK
  show ItSt T X.K _ X cls i ρ h L σ H ((seqOf h (.ref l)).map fun xs => xs[i]?)
  cases es : seqOf h (.ref l) with
  | none => trivial
  | some xs =>
    obtain ⟨vs, ev, hq, r⟩ := lref_ok (v := .ref (ρ l)) F es (by simp only [RepV]; exact ⟨trivial, Nat.lt_of_lt_of_le hl wk.le⟩)
    rw [← wk.ext l hl]
    simp only [Option.map_some]
    cases e : xs[i]? with
    | none => exact ⟨vs, hq, get_none r e⟩
    | some a =>
      obtain ⟨v, ev, rv⟩ := r.get e
      refine ⟨⟨vs, v, hq, ev⟩, fun w H' ⟨e2, y⟩ => ?_⟩
      subst e2
      have := y vs hq
      rw [ev] at this; cases this
      exact ⟨F.refl, F, rv⟩
theorem i_seq {tg e : Expr} {m : ME} (he : SE T X cls W e m) : SI T X cls W tg e (iSeq m) := by
  refine PI.weak (PI.orr (pi_list he) (pi_tup he)) fun σ H R ⟨ρ, h, L, F, p⟩ => ?_
  unfold iSeq at p
  by_cases hd : ∃ xs h1, m L h = .ok (.tup xs) h1
  · obtain ⟨xs, h1, em⟩ := hd
    refine .inr ⟨ρ, h, L, F, PostI.bindE p fun a h1' ρ1 H1 v e1 st F1 rv p1 => ?_⟩
    rw [em] at e1
    cases e1
    simp only [RepV] at rv
    obtain ⟨q, vs, rfl, hq, r⟩ := rv
    exact ⟨q, rfl, ⟨vs, hq⟩, p1 ρ1 H1 _ F1.refl F1 (itok_tup hq r)⟩
  · refine .inl ⟨ρ, h, L, F, PostI.bindE p fun a h1 ρ1 H1 v e1 st F1 rv p1 => ?_⟩
    cases a with
    | tup xs => exact absurd ⟨xs, h1, e1⟩ hd
    | ref l =>
      have p1 : PostI T X cls W ρ1 h1 H1 σ L R (match seqOf h1 (.ref l) with | some _ => .ok (fun i h => (seqOf h (.ref l)).map fun xs => xs[i]?) h1 | none => .bad) := p1
      cases es : seqOf h1 (.ref l) with
      | none => rw [es] at p1; exact p1.elim
      | some xs =>
        rw [es] at p1
        obtain ⟨vs, rfl, hq, r⟩ := lref_ok F1 es rv
        simp only [RepV] at rv
        exact ⟨_, rfl, ⟨vs, hq⟩, p1 ρ1 H1 _ F1.refl F1 (itok_lst rv.2)⟩
    | _ => exact p1.elim
def B62 : Int := 4611686018427387904
def rgP (lo : Int) (n : Nat) : PItr := fun i _ => some (if i < n then some (.int (lo + (i : Nat))) else none)
def rg1A (a : A) (h : Hq) : Res PItr := match a with
  | .int j => if decide (-B62 ≤ j) && decide (j < B62) then .ok (rgP 0 j.toNat) h else .bad
  | _ => .bad
def rg2A (a b : A) (h : Hq) : Res PItr := match a, b with
  | .int i0, .int j => if (decide (-B62 ≤ i0) && decide (i0 < B62)) && (decide (-B62 ≤ j) && decide (j < B62)) then .ok (rgP i0 (j - i0).toNat) h else .bad
  | _, _ => .bad
def iRg1 (m : ME) : MI := fun L h => (m L h).bind fun a h1 => rg1A a h1
def iRg2 (m m2 : ME) : MI := fun L h => (m L h).bind fun a h1 => (m2 L h1).bind fun b h2 => rg2A a b h2
theorem itok_rng {K : PySem.W.Frag} {lo : Int} {n : Nat} {ρ0 : Nat → Addr} {n0 : Nat} {H0 : Hp} : ItOk T K (Itr lo n) (rgP lo n) ρ0 n0 H0 := by
  intro X cls i ρ h L σ H hK F wk fk
  show ItSt T K _ X cls i ρ h L σ H (some (if i < n then some (A.int (lo + (i : Nat))) else none))
  by_cases hi : i < n
  · rw [if_pos hi]
    refine ⟨hi, fun v H' ⟨e1, e2⟩ => ?_⟩
    subst e1 e2
    exact ⟨F.refl, F, rfl⟩
  · rw [if_neg hi]
    exact Nat.le_of_not_lt hi
theorem i_rg1 {tg a : Expr} {m : ME} {p pos : Pos} (hg : Gl X "range") (hm : X.mg "range" = none) (ha : SE T X cls W a m) (hs : starEach [a] X.env = [(false, eval a X.env)] := by rfl) : SI T X cls W tg (.Call (.Name "range" p) [a] [] pos) (iRg1 m) := by
  refine PI.weak (pi_range1 hg hm (pa_cons ha pa_nil (by rw [hs]; rfl)) hs) fun σ H R ⟨ρ, h, L, F, p⟩ => ⟨ρ, h, L, F, PostI.bindE p fun x h1 ρ1 H1 v _ st F1 r1 p1 => ?_⟩
  unfold rg1A at p1
  split at p1
  · split at p1
    · rename_i j _ hz
      simp only [Bool.and_eq_true, decide_eq_true_eq] at hz
      have eb : B62 = 2 ^ 62 := by decide
      rw [eb] at hz
      cases r1
      exact ⟨j, rfl, hz.1, hz.2, p1 ρ1 H1 _ F1.refl F1 itok_rng⟩
    · exact p1.elim
  · exact p1.elim
theorem i_rg2 {tg a b : Expr} {m m2 : ME} {p pos : Pos} (hg : Gl X "range") (hm : X.mg "range" = none) (ha : SE T X cls W a m) (hb : SE T X cls W b m2) (hs : starEach [a, b] X.env = [(false, eval a X.env), (false, eval b X.env)] := by rfl) (hs2 : starEach [b] X.env = [(false, eval b X.env)] := by rfl) : SI T X cls W tg (.Call (.Name "range" p) [a, b] [] pos) (iRg2 m m2) := by
  refine PI.weak (pi_range2 hg hm (pa_cons ha (pa_cons hb pa_nil (by rw [hs2]; rfl)) (by rw [hs, hs2])) hs hs2) fun σ H R ⟨ρ, h, L, F, p⟩ => ⟨ρ, h, L, F, PostI.bindE p fun x h1 ρ1 H1 v _ st F1 r1 p1 => ⟨ρ1, h1, L, F1, PostI.bindE p1 fun y h2 ρ2 H2 w _ st2 F2 r2 p2 => ?_⟩⟩
  unfold rg2A at p2
  split at p2
  · split at p2
    · rename_i i0 j _ _ hz
      simp only [Bool.and_eq_true, decide_eq_true_eq] at hz
      have eb : B62 = 2 ^ 62 := by decide
      rw [eb] at hz
      cases r1; cases r2
      exact ⟨i0, j, rfl, ⟨hz.1.1, hz.1.2, hz.2.1, hz.2.2⟩, p2 ρ2 H2 _ F2.refl F2 itok_rng⟩
    · exact p2.elim
  · exact p2.elim
end
end Zk
end
section
set_option Elab.async false
set_option linter.all false
set_option maxRecDepth 100000
/-! Zk17: targets of tuples. -/
namespace Zk
open PySem PySem.Spec PyProof.Rows L2 NdefX LamX

abbrev MGs := List A → MS
def gsNil : MGs := fun as L h => match as with
  | [] => .ok .nx L h
  | _ => .bad
def gsCons (g : MG) (r : MGs) : MGs := fun as L h => match as with
  | a :: as' => match g a L h with
    | .ok _ L1 h1 => r as' L1 h1
    | x => x
  | [] => .bad
def gTupA (n : Nat) (gs : MGs) : MG := fun a L h => match a with
  | .tup xs => if xs.length = n then gs xs L h else .bad
  | _ => .bad
def GNx (g : MG) : Prop := ∀ a L h f L' h', g a L h = .ok f L' h' → f = .nx
def GsNx (g : MGs) : Prop := ∀ a L h f L' h', g a L h = .ok f L' h' → f = .nx
theorem nx_nm {i : Nat} : GNx (gNm i) := fun a L h f L' h' e => by unfold gNm at e; cases e; rfl
theorem nx_nmC {i l : Nat} : GNx (gNmC i l) := fun a L h f L' h' e => by unfold gNmC at e; cases e; rfl
theorem nx_nil : GsNx gsNil := fun a L h f L' h' e => by
  unfold gsNil at e
  cases a with
  | nil => cases e; rfl
  | cons _ _ => cases e
theorem nx_cons {g : MG} {r : MGs} (h1 : GNx g) (h2 : GsNx r) : GsNx (gsCons g r) := fun a L h f L' h' e => by
  unfold gsCons at e
  cases a with
  | nil => cases e
  | cons x xs =>
    simp only at e
    cases e1 : g x L h with
    | ok f1 L1 h1 => rw [e1] at e; exact h2 _ _ _ _ _ _ e
    | err c fs L1 h1 => rw [e1] at e; cases e
    | bad => rw [e1] at e; cases e
theorem nx_tup {n : Nat} {gs : MGs} (hgs : GsNx gs) : GNx (gTupA n gs) := fun a L h f L' h' e => by
  unfold gTupA at e
  split at e
  · split at e
    · exact hgs _ _ _ _ _ _ e
    · cases e
  · cases e
def SGs (T : Tb) (X : Cx) (cls ex : List (Option Nat)) (W : WX) (tgs : List Expr) (g : MGs) : Prop :=
  ∀ (pins : List (Addr × Obj)) (s : Shared) (σ : L2.St) (H : Hp) (ρ : Nat → Addr) (h : Hq) (L : Lc) (as : List A) (vs : List V) (us : List Value), L2.Inv X pins σ H s → Fm T X cls ρ h L σ H → RepVs T X.K ρ h.n H as vs → Vals vs us → EW T X cls ex W ρ h H (g as L h) →
    wpAny (model X.prog X.w) X.A (assignInOrder ((assignEach tgs X.env).map (·.2)) us) (fun _ s' => SQ T X cls ex pins ρ h H (g as L h) .next s') X.xe s
section
variable {T : Tb} {X : Cx} {cls ex : List (Option Nat)} {W : WX}
theorem gs_nil : SGs T X cls ex W [] gsNil := by
  intro pins s σ H ρ h L as vs us I F rv ru ew
  unfold gsNil at ew ⊢
  cases as with
  | nil =>
    simp only [RepVs] at rv
    subst rv
    cases ru
    exact assignInOrder_nil ⟨ρ, σ, H, I, F.refl', F, trivial⟩
  | cons a as => exact ew.elim
theorem gs_cons {e : Expr} {es : List Expr} {g : MG} {r : MGs} (h1 : SG T X cls ex W e g) (n1 : GNx g) (h2 : SGs T X cls ex W es r)
    (hs : (assignEach (e :: es) X.env).map (·.2) = assign e X.env :: (assignEach es X.env).map (·.2) := by rfl) : SGs T X cls ex W (e :: es) (gsCons g r) := by
  intro pins s σ H ρ h L as vs us I F rv ru ew
  unfold gsCons at ew ⊢
  cases as with
  | nil => exact ew.elim
  | cons a as =>
    simp only [RepVs] at rv
    obtain ⟨y, ys, rfl, r1, r2⟩ := rv
    cases ru with
    | cons ru1 ru2 =>
      rw [hs]
      simp only at ew ⊢
      have ew1 : EW T X cls ex W ρ h H (g a L h) := by
        cases e1 : g a L h with
        | ok f L1 h1 => trivial
        | err c fs L1 h1 => rw [e1] at ew; exact ew
        | bad => rw [e1] at ew; exact ew
      refine assignInOrder_cons (thn (h1 pins s σ H ρ h L a y _ I F r1 ru1 ew1) fun _ s1 q => ?_)
      cases e1 : g a L h with
      | err c fs L1 h1 => rw [e1] at q; exact q.elim
      | bad => rw [e1] at q; exact q.elim
      | ok f L1 h1 =>
        have ef := n1 _ _ _ _ _ _ e1
        subst ef
        rw [e1] at q ew
        obtain ⟨ρ1, σ1, H1, I1, st1, F1, _⟩ := q
        exact wpAny_mono (h2 pins s1 σ1 H1 ρ1 h1 L1 as ys _ I1 F1 (RepVs.step ⟨st1.ext, st1.le, fun b o e f _ => st1.keep b o e f.fix⟩ _ _ r2) ru2 (EW.of st1 ew)) (fun _ _ q => SQ.of st1 q) fun _ _ z => z
theorem g_tup {es : List Expr} {k n : Nat} {gs : MGs} {pos : Pos} (hc : X.calm = true) (h : SGs T X cls ex W es gs) (hn : (assignEach es X.env).length = n := by rfl) (hst : (assignEach es X.env).findIdx? (·.1) = none := by rfl) : SG T X cls ex W (.Tuple es k pos) (gTupA n gs) := by
  intro pins s σ H ρ h0 L a v u I F rv ru ew
  unfold gTupA at ew ⊢
  cases a with
  | tup xs =>
    simp only at ew ⊢
    split at ew
    · rename_i hl
      rw [if_pos hl]
      simp only [RepV] at rv
      obtain ⟨q, vs, rfl, hq, r⟩ := rv
      obtain rfl : u = Value.ref q := ru
      obtain ⟨its, rvs, ht, hz⟩ := I.tuple hq
      refine assign_Tuple_tuple (I.ok.hd hc) ht (by simp [hn, ← hl, ← RepVs.length r, rvs.length]) hst fun h' hx => ?_
      have I1 : Inv X pins σ H { s with heap := h' } := I.kept (t' := s.toks) fun b o e => hx b o (Nat.ne_of_lt (Heap.lt_size e)) e
      have z := h pins _ σ H ρ h0 L xs vs its I1 F r (by simpa using rvs) ew
      simpa using z
    · exact ew.elim
  | _ => exact ew.elim
def RS.ofA (L : Lc) (r : Res (List A)) (f : List A → Hq → RS) : RS := match r with
  | .ok a h => f a h
  | .err c fs h => .err c fs L h
  | .bad => .bad
def setAll : List Nat → List A → Lc → Option Lc
  | [], [], L => some L
  | i :: is, a :: as, L => setAll is as (L.set i (some a))
  | _, _, _ => none
def sPar (is : List Nat) (ma : MA) : MS := fun L h => RS.ofA L (ma L h) fun as h1 => match setAll is as L with
  | some L1 => .ok .nx L1 h1
  | none => .bad
/-- a, b = x, y -/
theorem s_par2 {i j : Nat} {x y : Str} {a b : Expr} {ma : MA} {px py pt pos : Pos} {kt k2 pt2} (hc : X.calm = true) (hN : X.N.Nodup) (hi : X.N[i]? = some x) (hj : X.N[j]? = some y) (hij : i ≠ j)
    (hx : X.env.scope.names.lookup x = some .local) (hy : X.env.scope.names.lookup y = some .local) (ha : SA T X cls W [a, b] ma)
    (hw : swappedStores [.Tuple [.Name x px, .Name y py] kt pt] (.Tuple [a, b] k2 pt2) X.env = pure (some [x, y]))
    (hs : swapsWithSole [.Tuple [.Name x px, .Name y py] kt pt] (.Tuple [a, b] k2 pt2) pos.line X.env = pure false := by rfl) :
    SS T X cls ex W (.Assign [.Tuple [.Name x px, .Name y py] kt pt] (.Tuple [a, b] k2 pt2) pos) (sPar [i, j] ma) := by
  intro pins s σ H ρ h L I F ew
  refine thn ((ps_par hc hN hi hj hij hx hy ha hw hs).run pins s σ H ⟨fun σ' H' => ∃ (ρ' : Nat → Addr) (L' : Lc) (h' : Hq), sPar [i, j] ma L h = .ok .nx L' h' ∧ Step ex ρ h H ρ' h' H' ∧ Fm T X cls ρ' h' L' σ' H', fun _ _ => False, fun _ _ => False, fun _ _ => False⟩ I ⟨ρ, h, L, F, ?_⟩) fun fl s1 q => ?_
  · unfold sPar at ew ⊢
    cases e : ma L h with
    | err c fs h1 => rw [e] at ew; exact fun ρ' H' d ws s F' e' r => ew ρ' σ H' d ws s.wide F' e' r
    | bad => rw [e] at ew; exact ew
    | ok as h1 =>
      rw [e] at ew
      intro ρ1 H1 vs st F1 rv
      have ew : EW T X cls ex W ρ h H (match setAll [i, j] as L with | some L1 => .ok .nx L1 h1 | none => .bad) := ew
      match as, rv with
      | [a1, a2], rv =>
        obtain ⟨v, w, rfl, r1, r2⟩ := RepVs.two rv
        have hlen : σ.length = X.N.length := I.len
        have F2 := F1.setL hlen hi hx r1
        have F3 := F2.setL (by rw [List.length_set]; exact hlen) hj hy r2
        exact ⟨v, w, rfl, ρ1, _, h1, rfl, st.wide, F3⟩
      | [], _ => exact ew.elim
      | [_], _ => exact ew.elim
      | _ :: _ :: _ :: _, _ => exact ew.elim
  · cases fl with
    | next =>
      obtain ⟨σ', H', I', ρ', L', h', e, st, F'⟩ := q
      rw [e]
      exact ⟨ρ', σ', H', I', st, F', trivial⟩
    | brk => obtain ⟨_, _, _, z⟩ := q; exact z.elim
    | cont => obtain ⟨_, _, _, z⟩ := q; exact z.elim
    | ret u => obtain ⟨_, _, _, _, _, z⟩ := q; exact z.elim
theorem s_par3 {i j l : Nat} {x y z : Str} {a b c : Expr} {ma : MA} {px py pz pt pos : Pos} {kt k2 pt2} (hc : X.calm = true) (hN : X.N.Nodup) (hi : X.N[i]? = some x) (hj : X.N[j]? = some y) (hl : X.N[l]? = some z) (hij : i ≠ j) (hil : i ≠ l) (hjl : j ≠ l)
    (hx : X.env.scope.names.lookup x = some .local) (hy : X.env.scope.names.lookup y = some .local) (hz : X.env.scope.names.lookup z = some .local) (ha : SA T X cls W [a, b, c] ma)
    (hw : swappedStores [.Tuple [.Name x px, .Name y py, .Name z pz] kt pt] (.Tuple [a, b, c] k2 pt2) X.env = pure (some [x, y, z]))
    (hs : swapsWithSole [.Tuple [.Name x px, .Name y py, .Name z pz] kt pt] (.Tuple [a, b, c] k2 pt2) pos.line X.env = pure false := by rfl) :
    SS T X cls ex W (.Assign [.Tuple [.Name x px, .Name y py, .Name z pz] kt pt] (.Tuple [a, b, c] k2 pt2) pos) (sPar [i, j, l] ma) := by
  intro pins s σ H ρ h L I F ew
  refine thn ((ps_par3 hc hN hi hj hl hij hil hjl hx hy hz ha hw hs).run pins s σ H ⟨fun σ' H' => ∃ (ρ' : Nat → Addr) (L' : Lc) (h' : Hq), sPar [i, j, l] ma L h = .ok .nx L' h' ∧ Step ex ρ h H ρ' h' H' ∧ Fm T X cls ρ' h' L' σ' H', fun _ _ => False, fun _ _ => False, fun _ _ => False⟩ I ⟨ρ, h, L, F, ?_⟩) fun fl s1 q => ?_
  · unfold sPar at ew ⊢
    cases e : ma L h with
    | err c fs h1 => rw [e] at ew; exact fun ρ' H' d ws s F' e' r => ew ρ' σ H' d ws s.wide F' e' r
    | bad => rw [e] at ew; exact ew
    | ok as h1 =>
      rw [e] at ew
      intro ρ1 H1 vs st F1 rv
      have ew : EW T X cls ex W ρ h H (match setAll [i, j, l] as L with | some L1 => .ok .nx L1 h1 | none => .bad) := ew
      match as, rv with
      | [a1, a2, a3], rv =>
        simp only [RepVs] at rv
        obtain ⟨v1, _, rfl, r1, v2, _, rfl, r2, v3, _, rfl, r3, rfl⟩ := rv
        have hlen : σ.length = X.N.length := I.len
        have F2 := F1.setL hlen hi hx r1
        have F3 := F2.setL (by rw [List.length_set]; exact hlen) hj hy r2
        have F4 := F3.setL (by rw [List.length_set, List.length_set]; exact hlen) hl hz r3
        exact ⟨v1, v2, v3, rfl, ρ1, _, h1, rfl, st.wide, F4⟩
      | [], _ => exact ew.elim
      | [_], _ => exact ew.elim
      | [_, _], _ => exact ew.elim
      | _ :: _ :: _ :: _ :: _, _ => exact ew.elim
  · cases fl with
    | next =>
      obtain ⟨σ', H', I', ρ', L', h', e, st, F'⟩ := q
      rw [e]
      exact ⟨ρ', σ', H', I', st, F', trivial⟩
    | brk => obtain ⟨_, _, _, z⟩ := q; exact z.elim
    | cont => obtain ⟨_, _, _, z⟩ := q; exact z.elim
    | ret u => obtain ⟨_, _, _, _, _, z⟩ := q; exact z.elim
end
end Zk
end
section
set_option Elab.async false
set_option linter.all false
set_option maxRecDepth 100000
/-! Zk18: inner defs and lambdas, made. -/
namespace Zk
open PySem PySem.Spec PyProof.Rows L2 NdefX LamX

theorem fnB_ne {f : Addr} {F : NB} {cl : List (Str × Addr)} {c : Addr} (ps : Array Value) : FnB f F cl c ≠ .tbl ps := fun z => by
  unfold FnB at z
  cases z
section
variable {X : Cx} {pins : List (Addr × Obj)} {σ : L2.St} {H : Hp} {s : Shared}
/-- a function object just made is known from now on -/
theorem inv_fnB {F : NB} {cl : List (Str × Addr)} {c : Addr} {o : Obj} {t' : Nat} {doc pm ctv : Value} (I : L2.Inv X pins σ H s) (ho : o = { cls := .type "function", data := .func (F.fd cl c doc pm ctv) }) :
    L2.Inv X pins σ (upd H s.heap.objs.size (FnB s.heap.objs.size F cl c)) { s with heap := s.heap.push o, toks := t' } := by
  subst ho
  refine I.laid (a := s.heap.objs.size) (fun b u e => Heap.get?_push_of_some _ e) (Nat.le_refl _) ?_
  have e : (s.heap.push ({ cls := .type "function", data := .func (F.fd cl c doc pm ctv) } : Obj)).get? s.heap.objs.size = some ({ cls := .type "function", data := .func (F.fd cl c doc pm ctv) } : Obj) := Heap.get?_push_size _ rfl
  exact ⟨⟨_, _, doc, pm, ctv, e⟩, ⟨_, e⟩, fun h1 h2 ⟨od, sl, d, p, t, z⟩ st => ⟨od, sl, d, p, t, st _ z⟩⟩
/-- the object of an inner def or a lambda is made: its code object is new, or found in the table -/
theorem fnB_make {TT : List NTab} {nm : Nat → Nat → Str} {c P : Addr} {F : NB} {pos : Pos} {E : Value → Shared → Prop} {Q : Value → Shared → Prop} (I : L2.Inv X pins σ H s) (TB : TabB X.base X.mg c P) (hcode : X.env.code = .ref c)
    (hm : (P, nm) ∈ TT) (hn : nm pos.line pos.col = F.qual) (hu : ∀ p ∈ TT, p.1 = P → p.2 = nm) (hT : TabsN TT H) (hfree : ∀ y ∈ F.scope.names, y.2 = .free → ∃ c, X.env.cells.lookup y.1 = some c)
    (h : ∀ (f c' : Addr) (H1 : Hp) (s' : Shared), L2.Inv X pins σ H1 s' → ExtN H H1 → TabsN TT H1 → H1 f = some (FnB f F (cloFrom X.env.cells F.scope.names []) c') → H1 c' = some (CodeO c' F.qual) → Q (.ref f) s') :
    wpAny (model X.prog X.w) X.A (makeFunction F.name F.qual F.params F.body F.scope X.env [] [] [] pos pos.line) Q E s := by
  obtain ⟨ps, hP, ht, ha⟩ := (show TabN H P nm from hT _ hm)
  have bP : s.heap.BuiltinsAt X.mg P := TB.bm.keeps I.bk
  have hP' : s.heap.get? P = some { cls := .none, data := .fields ps } := I.hok P _ hP
  obtain ⟨nm0, qual, params, body, scope⟩ := F
  -- a new code object
  have new : codeAmong pos ps.toList = none → ∀ (c' : Addr) (h' : Heap) (tk : Nat) (doc ctv : Value) (o : Obj), o = { cls := .type "function", data := .func (NB.fd ⟨nm0, qual, params, body, scope⟩ (cloFrom X.env.cells scope.names []) c' doc ((X.mg "__name__").getD .none) ctv) } → Heap.ExtBut P s.heap h' → s.heap.objs.size ≤ c' → c' < h'.objs.size → h'.CodeRec (.ref c') qual →
      h'.get? P = some { cls := .none, data := .fields (ps ++ #[rawInt pos.line, rawInt pos.col, .ref c']) } → Q (.ref h'.objs.size) { s with heap := h'.push o, toks := tk } := by
    intro hc c' h' tk doc ctv o ho hx hge hlt hrec htb
    obtain ⟨c2, oc, vs, t, e2, hoc, hd, hv⟩ := hrec
    cases e2
    have nC : H c' = none := I.hok.fresh hge
    have I1 := inv_table (t' := tk) (more := #[rawInt pos.line, rawInt pos.col, .ref c']) (h' := h') I hP (fun b o hb e => hx b o hb e) htb hge ⟨oc, vs, t, hoc, hd, hv⟩
    have hE : ExtN H (upd (upd H P (.tbl (ps ++ #[rawInt pos.line, rawInt pos.col, .ref c']))) c' (CodeO c' qual)) := fun b o e n => by
      rw [upd_ne (ne_of_none e nC), upd_ne (fun z => n ps (Option.some.inj (e.symm.trans (by rw [z]; exact hP))))]
      exact e
    have eL : (ps ++ #[rawInt pos.line, rawInt pos.col, .ref c']).toList = ps.toList ++ [rawInt pos.line, rawInt pos.col, .ref c'] := by simp
    have T1 : TabsN TT (upd (upd H P (.tbl (ps ++ #[rawInt pos.line, rawInt pos.col, .ref c']))) c' (CodeO c' qual)) := fun p hp => by
      by_cases hb : p.1 = P
      · rw [hu p hp hb, hb]
        refine ⟨_, by rw [upd_ne (ne_of_none hP nC), upd_same], by rw [eL]; exact PySem.TriplesOk_snoc _ _ _ _ ht, fun p' cv hcv => ?_⟩
        rw [eL] at hcv
        rcases among_app2 _ ht hcv with z | ⟨z, z1, z2⟩
        · obtain ⟨c0, e1, e2⟩ := ha p' cv z
          exact ⟨c0, e1, hE _ _ e2 codeO_ne⟩
        · refine ⟨c', z, ?_⟩
          rw [← z1, ← z2, hn]
          exact upd_same
      · obtain ⟨ps', a1, a2, a3⟩ := hT p hp
        refine ⟨ps', by rw [upd_ne (ne_of_none a1 nC), upd_ne hb]; exact a1, a2, fun p' cv hcv => ?_⟩
        obtain ⟨c0, e1, e2⟩ := a3 p' cv hcv
        exact ⟨c0, e1, hE _ _ e2 codeO_ne⟩
    have nF := I1.hok.fresh (Nat.le_refl _)
    have I2 := inv_fnB (F := ⟨nm0, qual, params, body, scope⟩) (cl := cloFrom X.env.cells scope.names []) (c := c') (t' := tk) (doc := doc) (pm := (X.mg "__name__").getD .none) (ctv := ctv) I1 ho
    refine h h'.objs.size c' _ _ I2 (fun b o e n => ?_) (T1.ext fun b o e => ?_) upd_same ?_
    · have e1 := hE b o e n
      exact (upd_ne (ne_of_none e1 nF)).trans e1
    · exact (upd_ne (ne_of_none e nF)).trans e
    · exact (upd_ne (Nat.ne_of_lt hlt)).trans upd_same
  -- one that is there
  have hit : ∀ (cv : Value), codeAmong pos ps.toList = some cv → ∀ (c' : Addr), cv = .ref c' → ∀ (h' : Heap) (tk : Nat) (doc ctv : Value) (o : Obj), o = { cls := .type "function", data := .func (NB.fd ⟨nm0, qual, params, body, scope⟩ (cloFrom X.env.cells scope.names []) c' doc ((X.mg "__name__").getD .none) ctv) } →
      (∀ b o, s.heap.get? b = some o → h'.get? b = some o) → Q (.ref h'.objs.size) { s with heap := h'.push o, toks := tk } := by
    intro cv hc c' ec h' tk doc ctv o ho hx
    obtain ⟨c0, e, hco⟩ := ha pos cv hc
    rw [e] at ec
    cases ec
    rw [hn] at hco
    have I1 : L2.Inv X pins σ H { s with heap := h', toks := tk } := I.kept hx
    have nF : H h'.objs.size = none := I1.hok.fresh (Nat.le_refl _)
    have I2 := inv_fnB (F := ⟨nm0, qual, params, body, scope⟩) (cl := cloFrom X.env.cells scope.names []) (c := c') (t' := tk) (doc := doc) (pm := (X.mg "__name__").getD .none) (ctv := ctv) I1 ho
    refine h h'.objs.size c' _ _ I2 (fun b o e n => ?_) (hT.ext fun b o e => ?_) upd_same ?_
    · exact (upd_ne (ne_of_none e nF)).trans e
    · exact (upd_ne (ne_of_none e nF)).trans e
    · exact (upd_ne (ne_of_none hco nF)).trans hco
  cases body with
  | stmts b =>
    cases hc : codeAmong pos ps.toList with
    | none => exact PySem.W.makeFunction_K (mg := X.mg) (c := c) (P := P) (ps := ps) (closure_ok hfree) I.ok.glob (I.mod.glob.keeps I.bk) hcode (TB.code.keeps I.bk) hP' ht hc TB.gP bP fun c' ctv doc h' tk hx hge hlt hrec htb => new hc c' h' tk doc ctv _ rfl hx hge hlt hrec htb
    | some cv =>
      obtain ⟨c', e, hco⟩ := ha pos cv hc
      subst e
      exact PySem.W.makeFunction_hit (mg := X.mg) (c := c) (P := P) (ps := ps) (closure_ok hfree) I.ok.glob (I.mod.glob.keeps I.bk) hcode (TB.code.keeps I.bk) hP' ht hc bP fun ctv doc h' tk hx hsz => hit _ hc c' rfl h' tk doc ctv _ rfl hx
  | expr b =>
    cases hc : codeAmong pos ps.toList with
    | none => exact PySem.W.kla_makeFunction (mg := X.mg) (c := c) (P := P) (ps := ps) (closure_ok hfree) I.ok.glob (I.mod.glob.keeps I.bk) hcode (TB.code.keeps I.bk) hP' ht hc TB.gP bP fun c' ctv h' tk hx hge hlt hrec htb => new hc c' h' tk .none ctv _ rfl hx hge hlt hrec htb
    | some cv =>
      obtain ⟨c', e, hco⟩ := ha pos cv hc
      subst e
      exact PySem.W.kla_makeFunctionHit (mg := X.mg) (c := c) (P := P) (ps := ps) (closure_ok hfree) I.ok.glob (I.mod.glob.keeps I.bk) hcode (TB.code.keeps I.bk) hP' ht hc bP fun ctv h' tk hx hsz => hit _ hc c' rfl h' tk .none ctv _ rfl hx
end
section
variable {T : Tb} {X : Cx} {cls ex : List (Option Nat)} {W : WX}
/-- behind growth of what is tracked, the tables aside -/
theorem Fm.grow {ρ : Nat → Addr} {h : Hq} {L : Lc} {σ : L2.St} {H H1 : Hp} (F : Fm T X cls ρ h L σ H) (eN : ExtN H H1) (hT : TabsN T.tt H1) : Fm T X cls ρ h L σ H1 ∧ Step [] ρ h H ρ h H1 := by
  have st : Step [] ρ h H ρ h H1 := ⟨fun _ _ => rfl, Nat.le_refl _, fun b o e f => eN b o e fun ps z => by rw [z] at f; exact f, fun _ _ _ _ => Iff.rfl, fun l x hl _ e => absurd (Nat.lt_of_lt_of_le (F.lt e) hl) (Nat.lt_irrefl _)⟩
  refine ⟨⟨fun l o e => ⟨F.lt e, fun hc => ?_⟩, F.inj, F.len, fun i a e => ?_, fun i l e => ?_, hT⟩, st⟩
  · have r := (F.obj l o e).2 hc
    cases m : isMut o with
    | true => exact RepO.move st.wk m (fun u eh nf => eN _ _ eh fun ps z => by
        rw [z] at eh
        cases o with
        | lst xs => obtain ⟨vs, q, _⟩ := r; rw [eh] at q; cases q
        | dic xs => obtain ⟨vs, q, _⟩ := r; rw [eh] at q; cases q
        | dit xs => obtain ⟨vs, q, _⟩ := r; rw [eh] at q; cases q
        | ins c fs => obtain ⟨dx, vs, q, _⟩ := r; rw [eh] at q; cases q
        | lok xs => obtain ⟨od, vs, q, _⟩ := r; rw [eh] at q; cases q
        | _ => cases m) r
    | false => exact RepO.still st.wk m (fun v z f => eN _ _ z fun ps q => by rw [q] at f; exact f) r
  · obtain ⟨v, e1, r⟩ := F.val i a e
    exact ⟨v, e1, RepV.step st.wk _ _ r⟩
  · obtain ⟨x, ov, e1, e2, e3, nf, e4, e5⟩ := F.cel i l e
    exact ⟨x, ov, e1, e2, e3, nf, e4, fun a ea => let ⟨v, z, r⟩ := e5 a ea; ⟨v, z, RepV.step st.wk _ _ r⟩⟩
/-- what a maker must have for its inner def k, whose cells stand at cs -/
structure MkF (T : Tb) (X : Cx) (cls : List (Option Nat)) (k : Nat) (cs : List Nat) (pos : Pos) : Prop where
  tab : ∃ (c P : Addr) (nm : Nat → Nat → Str), (∀ base : Heap, X.K.In base → base.Ns mainGlobals X.mg → TabB base X.mg c P) ∧ X.env.code = .ref c ∧ (P, nm) ∈ T.tt ∧ nm pos.line pos.col = (T.ci k).qual ∧ ∀ p ∈ T.tt, p.1 = P → p.2 = nm
  free : ∀ y ∈ (T.ci k).scope.names, y.2 = .free → X.env.scope.names.lookup y.1 = some .cell ∨ X.env.scope.names.lookup y.1 = some .free
  fr : ∀ y ∈ (T.ci k).scope.names, y.2 = .free → y.1 ∈ T.cf k
  frk : ∀ x ∈ T.cf k, (x, NameKind.free) ∈ (T.ci k).scope.names
  len : cs.length = (T.cf k).length
  at_ : ∀ (i : Nat) (x : Str), (T.cf k)[i]? = some x → ∃ (j l : Nat), X.N[j]? = some x ∧ cls[j]? = some (some l) ∧ cs[i]? = some l
theorem MkF.clo {k : Nat} {cs : List Nat} {pos : Pos} (M : MkF T X cls k cs pos) {ρ : Nat → Addr} {h : Hq} {L : Lc} {σ : L2.St} {H : Hp} (F : Fm T X cls ρ h L σ H) (ok : X.Ok) {f c' : Addr} (h1 : H f = some (FnB f (T.ci k) (cloFrom X.env.cells (T.ci k).scope.names []) c')) (h2 : H c' = some (CodeO c' (T.ci k).qual)) : CloAt T ρ h.n H k cs f := by
  have hfree : ∀ y ∈ (T.ci k).scope.names, y.2 = .free → ∃ c, X.env.cells.lookup y.1 = some c := fun y hy e => (M.free y hy e).elim (fun z => ok.has _ (.inl z)) fun z => ok.has _ (.inr z)
  refine ⟨_, c', h1, h2, fun l hl => ?_, M.len, fun i x l e1 e2 => ?_, fun x c e => ?_, fun x y c ex ey => ok.inj x y c (clo_cm hfree ex) (clo_cm hfree ey)⟩
  · obtain ⟨i, hi⟩ := List.mem_iff_getElem?.mp hl
    have hlt : i < (T.cf k).length := by rw [← M.len]; exact (List.getElem?_eq_some_iff.mp hi).1
    obtain ⟨j, l', e1, e2, e3⟩ := M.at_ i _ (List.getElem?_eq_getElem hlt)
    rw [hi] at e3
    cases e3
    obtain ⟨_, _, _, _, _, _, e4, _⟩ := F.cel j l e2
    exact F.lt e4
  · obtain ⟨j, l', e3, e4, e5⟩ := M.at_ i x e1
    rw [e2] at e5
    cases e5
    obtain ⟨x', ov, f1, f2, _⟩ := F.cel j l e4
    rw [e3] at f1
    cases f1
    exact clo_has hfree (M.frk x (List.mem_of_getElem? e1)) f2
  · have z : (x, c) ∈ cloFrom X.env.cells (T.ci k).scope.names [] := PySem.mem_of_lookup e
    rcases cloFrom_mem z with z | ⟨z, _⟩
    · exact absurd z (by simp)
    · exact M.fr _ z rfl
def eClo (k : Nat) (cs : List Nat) : ME := eCon (.clo k cs)
theorem s_lam {k : Nat} {cs : List Nat} {params : Arguments} {body : Expr} {scope : Scope} {pos : Pos} (M : MkF T X cls k cs pos) (hk : T.ci k = ⟨"<lambda>", X.env.qual ++ "<lambda>", params, .expr body, scope⟩) (hdef : defaultsOf params X.env = ([], [])) : SE T X cls W (.Lambda params body scope pos) (eClo k cs) := by
  refine ⟨fun pins s σ H Q I ⟨ρ, h, L, F, p⟩ => ?_⟩
  obtain ⟨c, P, nm, TBx, hcode, hm, hn, hu⟩ := M.tab
  have TB := TBx X.base I.ok.mod.kin I.ok.mod.glob
  have hfree : ∀ y ∈ (T.ci k).scope.names, y.2 = .free → ∃ c, X.env.cells.lookup y.1 = some c := fun y hy e => (M.free y hy e).elim (fun z => I.ok.has _ (.inl z)) fun z => I.ok.has _ (.inr z)
  have z := fnB_make (E := X.xe) (Q := EP X pins σ Q) (F := T.ci k) (pos := pos) I TB hcode hm hn hu F.tab hfree fun f c' H1 s1 I1 eN T1 h1 h2 => by
    obtain ⟨F1, st⟩ := F.grow eN T1
    refine ⟨.ref f, H1, I1, rfl, p ρ H1 _ st F1 ?_⟩
    simp only [RepV]
    exact ⟨f, rfl, M.clo F1 I.ok h1 h2⟩
  refine PySem.W.kla_eval hdef ?_
  rw [hk] at z
  exact z
def sNdef (i k : Nat) (cs : List Nat) : MS := sSet i (eClo k cs)
def sNdefC (i l k : Nat) (cs : List Nat) : MS := sSetC i l (eClo k cs)
theorem ndef_run {k : Nat} {cs : List Nat} {name : Str} {params : Arguments} {body : List Stmt} {scope : Scope} {pos : Pos} (M : MkF T X cls k cs pos) (hk : T.ci k = ⟨name, X.env.qual ++ name, params, .stmts body, scope⟩) (hd0 : params.defaults = []) (hk0 : params.kw_defaults = []) (ha : annTrees params none X.env = [])
    (hx : X.env.kindOf name = some .local ∨ X.env.kindOf name = some .cell) {pins : List (Addr × Obj)} {s : Shared} {σ : L2.St} {H : Hp} {ρ : Nat → Addr} {h : Hq} {L : Lc} {Q : Flow → Shared → Prop} (I : L2.Inv X pins σ H s) (F : Fm T X cls ρ h L σ H)
    (q : ∀ (f : Addr) (H1 : Hp) (s1 : Shared), L2.Inv X pins σ H1 s1 → Step [] ρ h H ρ h H1 → Fm T X cls ρ h L σ H1 → RepV T X.K ρ h.n H1 (.clo k cs) (.ref f) → wpAny (model X.prog X.w) X.A (storeName X.env name (.ref f)) (fun _ s2 => Q .next s2) X.xe s1) :
    wpAny (model X.prog X.w) X.A (exec (.FunctionDef name params body [] none [] scope none name pos) X.env) Q X.xe s := by
  obtain ⟨c, P, nm, TBx, hcode, hm, hn, hu⟩ := M.tab
  have TB := TBx X.base I.ok.mod.kin I.ok.mod.glob
  have hfree : ∀ y ∈ (T.ci k).scope.names, y.2 = .free → ∃ c, X.env.cells.lookup y.1 = some c := fun y hy e => (M.free y hy e).elim (fun z => I.ok.has _ (.inl z)) fun z => I.ok.has _ (.inr z)
  have hq : qualnameIn X.env name name = X.env.qual ++ name := by
    unfold qualnameIn
    rcases hx with k | k <;> rw [k] <;> first | rfl | exact if_neg (by decide)
  refine PySem.W.nestDef_K hd0 hk0 ha ?_
  rw [hq]
  have z := fnB_make (E := X.xe) (Q := fun v s1 => wpAny (model X.prog X.w) X.A (storeName X.env name v) (fun _ s2 => Q .next s2) X.xe s1) (F := T.ci k) (pos := pos) I TB hcode hm hn hu F.tab hfree fun f c' H1 s1 I1 eN T1 h1 h2 => by
    obtain ⟨F1, st⟩ := F.grow eN T1
    refine q f H1 s1 I1 st F1 ?_
    simp only [RepV]
    exact ⟨f, rfl, M.clo F1 I.ok h1 h2⟩
  rw [hk] at z
  exact z
theorem s_ndef {k i : Nat} {cs : List Nat} {name : Str} {params : Arguments} {body : List Stmt} {scope : Scope} {pos : Pos} (M : MkF T X cls k cs pos) (hk : T.ci k = ⟨name, X.env.qual ++ name, params, .stmts body, scope⟩) (hd0 : params.defaults = []) (hk0 : params.kw_defaults = []) (ha : annTrees params none X.env = [])
    (hN : X.N.Nodup) (hi : X.N[i]? = some name) (hx : X.env.scope.names.lookup name = some .local) : SS T X cls ex W (.FunctionDef name params body [] none [] scope none name pos) (sNdef i k cs) := by
  intro pins s σ H ρ h L I F ew
  refine ndef_run M hk hd0 hk0 ha (.inl hx) I F fun f H1 s1 I1 st F1 rv => ?_
  exact store_ok I1 hN hi (.inl hx) (v := .ref f) rfl (fun s' I' => ⟨ρ, _, H1, I', st.wide, F1.setL I1.len hi hx rv, trivial⟩) (.inr hx)
theorem s_ndefC {k i l : Nat} {cs : List Nat} {name : Str} {params : Arguments} {body : List Stmt} {scope : Scope} {pos : Pos} (M : MkF T X cls k cs pos) (hk : T.ci k = ⟨name, X.env.qual ++ name, params, .stmts body, scope⟩) (hd0 : params.defaults = []) (hk0 : params.kw_defaults = []) (ha : annTrees params none X.env = [])
    (hN : X.N.Nodup) (hi : X.N[i]? = some name) (hx : X.env.scope.names.lookup name = some .cell) (hf : X.fn name = true) (hc : cls[i]? = some (some l)) (hex : some l ∈ ex) : SS T X cls ex W (.FunctionDef name params body [] none [] scope none name pos) (sNdefC i l k cs) := by
  intro pins s σ H ρ h L I F ew
  refine ndef_run M hk hd0 hk0 ha (.inr hx) I F fun f H1 s1 I1 st F1 rv => ?_
  obtain ⟨F2, st2⟩ := F1.setC (ex := ex) hN I1.len hi hc hex (fun y c e1 e2 => I.ok.inj name y c e1 e2) rv
  exact store_ok I1 hN hi (.inr hx) (v := .ref f) rfl (fun s' I' => ⟨ρ, _, H1, I', st.wide.trans st2, F2, trivial⟩) (.inl hf)
end
end Zk
end
section
set_option Elab.async false
set_option linter.all false
set_option maxRecDepth 100000
/-! Zk19: an inner def or a lambda by its body. -/
namespace Zk
open PySem PySem.Spec PyProof.Rows L2 NdefX LamX

/-- what a captured cell holds -/
def capd (h : Hq) : List Nat → Option (List A)
  | [] => some []
  | l :: ls => match h.get l, capd h ls with
    | some (.cel (some a)), some as => some (a :: as)
    | _, _ => none
def slotsC (n : Nat) (as ws : List A) : Lc := as.map some ++ (ws.map some ++ List.replicate (n - as.length - ws.length) none)
def clsC (n np : Nat) (cs : List Nat) : List (Option Nat) := List.replicate np none ++ (cs.map some ++ List.replicate (n - np - cs.length) none)
def callC (n : Nat) (bd : List A → List (Nat × A) → Option (List A)) (m : List Nat → MS) (cs : List Nat) (as : List A) (ka : List (Nat × A)) (h : Hq) : Res A := match bd as ka, capd h cs with
  | some as', some ws => outF (m cs (slotsC n as' ws) h)
  | _, _ => .bad
/-- a body, a def's or a lambda's -/
def BodyOk (T : Tb) (X : Cx) (cls : List (Option Nat)) (W : WX) : FuncBody → MS → Prop
  | .stmts b, m => SB T X cls [] W b m
  | .expr e, m => ∃ me, m = sRet me ∧ SE T X cls W e me
def CloOk (T : Tb) (P : Program) (w : World) (K : PySem.W.Frag) (mg : Str → Option Value) (k kc : Nat) (c : List Nat → List A → List (Nat × A) → Hq → Res A) : Prop :=
  ∀ (base : Heap) (B : Around) (outer : List Env) (s : Shared) (H : Hp) (f : Addr) (cs : List Nat) (us : List Value) (vs : List V) (as : List A) (ku : List (Str × Value)) (kv : List (Str × V)) (ka : List (Nat × A)) (ρ : Nat → Addr) (h : Hq),
    Arnd k B → Env0 P w K mg base B outer s H → CloAt T ρ h.n H kc cs f → Vals vs us → RepVs T K ρ h.n H as vs → KV kv ku → RepFs T K ρ h.n H ka kv → RepA T K base ρ h H → NoTr H → c cs as ka h ≠ .bad →
    codeAny (model P w) B (.call (.ref f) ⟨us, ku⟩) (fun r s' => CRes T P w K base outer H s ρ h (c cs as ka h) r s') s
theorem capd_len {h : Hq} : ∀ {cs : List Nat} {ws : List A}, capd h cs = some ws → ws.length = cs.length
  | [], _, e => by cases e; rfl
  | l :: ls, ws, e => by
    simp only [capd] at e
    split at e
    · rename_i a as e1 e2
      cases e
      rw [List.length_cons, List.length_cons, capd_len e2]
    · cases e
theorem capd_get {h : Hq} : ∀ {cs : List Nat} {ws : List A} {i l : Nat}, capd h cs = some ws → cs[i]? = some l → ∃ a, ws[i]? = some a ∧ h.get l = some (.cel (some a))
  | [], _, _, _, _, e => by simp at e
  | l :: ls, ws, i, l', e, ei => by
    simp only [capd] at e
    split at e
    · rename_i a as e1 e2
      cases e
      cases i with
      | zero => simp at ei; subst ei; exact ⟨a, rfl, e1⟩
      | succ i =>
        obtain ⟨b, h1, h2⟩ := capd_get (i := i) e2 (by simpa using ei)
        exact ⟨b, by simpa using h1, h2⟩
    · cases e
section
variable {T : Tb} {P : Program} {w : World} {K : PySem.W.Frag} {mg : Str → Option Value}
/-- how a frame without cells of its own ends -/
theorem cres_of {X : Cx} {cls : List (Option Nat)} {base : Heap} {outer : List Env} {s0 : Shared} {H0 : Hp} {ρ : Nat → Addr} {h : Hq} {r : RS} {fl : Flow} {s' : Shared} (hP : X.prog = P) (hw : X.w = w) (hK : X.K = K) (hs : SQ T X cls [] [] ρ h H0 r fl s')
    (nb : outF r ≠ .bad) (un : ∀ {σ' H'}, L2.Inv X [] σ' H' s' → s'.os = s0.os ∧ Un (frs outer) [] H0 H' s0.heap s'.heap) (toA : ∀ {ρ' : Nat → Addr} {h' : Hq} {L' : Lc} {σ' : L2.St} {H' : Hp}, Step [] ρ h H0 ρ' h' H' → Fm T X cls ρ' h' L' σ' H' → RepA T K base ρ' h' H') :
    ∃ u, (fl = .ret u ∨ (fl = .next ∧ u = Value.none)) ∧ CRes T P w K base outer H0 s0 ρ h (outF r) (.ok (.ret u)) s' := by
  subst hP hw hK
  have fin : ∀ {a : A} {ρ' : Nat → Addr} {h' : Hq} {L' : Lc} {σ' : L2.St} {H' : Hp} {v' : V} {u' : Value}, L2.Inv X [] σ' H' s' → Step [] ρ h H0 ρ' h' H' → Fm T X cls ρ' h' L' σ' H' → RelV v' u' → RepV T X.K ρ' h'.n H' a v' →
      outF r = .ok a h' → CRes T X.prog X.w X.K base outer H0 s0 ρ h (outF r) (.ok (.ret u')) s' :=
    fun {a ρ' h' L' σ' H' v' u'} J st F' ru rv' e => by
      rw [e]
      exact ⟨ρ', H', v', (un J).1, J.bare, (un J).2, J.hok, ru, st, toA st F', rv'⟩
  cases r with
  | bad => exact hs.elim
  | err c fs L' h' => exact hs.elim
  | ok f' L' h' =>
    obtain ⟨ρ', σ', H', J, st, F', fi⟩ := hs
    cases f' with
    | nx => cases fl with
      | next => exact ⟨Value.none, .inr ⟨rfl, rfl⟩, fin (a := .non) (v' := .non) J st F' rfl rfl rfl⟩
      | brk => exact fi.elim
      | cont => exact fi.elim
      | ret u => exact fi.elim
    | rt a => cases fl with
      | ret u =>
        obtain ⟨v', ru, rv'⟩ := fi
        exact ⟨u, .inl rfl, fin J st F' ru rv' rfl⟩
      | next => exact fi.elim
      | brk => exact fi.elim
      | cont => exact fi.elim
    | bk => exact absurd rfl nb
    | ct => exact absurd rfl nb
/-- the wish of what leaves -/
def wishE (T : Tb) (K : PySem.W.Frag) (base : Heap) (ρ : Nat → Addr) (h : Hq) (H : Hp) (r : Res A) : XK := fun cls d H' => match r with
  | .err c fs h' => ∃ (ρ' : Nat → Addr) (dd : Addr) (ws : List (Str × V)), cls = .ref (T.cA c) ∧ d = some dd ∧ H' dd = some (.xd ws) ∧ Step [] ρ h H ρ' h' H' ∧ RepA T K base ρ' h' H' ∧ RepFs T K ρ' h'.n H' fs ws
  | _ => False
theorem wish_cres {base : Heap} {outer : List Env} {s : Shared} {H : Hp} {ρ : Nat → Addr} {h : Hq} {r : Res A} {e : Value} {s'' : Shared} (nb : r ≠ .bad) (c : L2.CX P w outer H s (wishE T K base ρ h H r) e s'') : CRes T P w K base outer H s ρ h r (.error e) s'' := by
  cases r with
  | err c' fs' h' => exact c
  | ok a' h' =>
    obtain ⟨_, _, _, _, _, _, _, _, _, _, _, _, z⟩ := c
    exact z.elim
  | bad => exact absurd rfl nb
theorem slotsC_val {ρ : Nat → Addr} {n : Nat} {H : Hp} {N : List Str} {as ws : List A} {vs ws' : List V} (r : RepVs T K ρ n H as vs) (q : RepVs T K ρ n H ws ws') (i : Nat) (a : A) (e : (slotsC N.length as ws)[i]? = some (some a)) : ∃ v : V, (startF N vs (ws'.map some))[i]? = some (some v) ∧ RepV T K ρ n H a v := by
  have hl := RepVs.length r
  have hl2 := RepVs.length q
  unfold slotsC at e
  unfold startF
  by_cases hi : i < as.length
  · rw [List.getElem?_append_left (by simpa using hi), List.getElem?_map] at e
    cases q1 : as[i]? with
    | none => rw [q1] at e; cases e
    | some b =>
      rw [q1] at e; cases e
      obtain ⟨v, e1, r1⟩ := r.get q1
      exact ⟨v, by rw [List.getElem?_append_left (by rw [List.length_map, hl]; exact hi), List.getElem?_map, e1]; rfl, r1⟩
  · rw [List.getElem?_append_right (by simpa using hi), List.length_map] at e
    have eq : (startF N vs (ws'.map some))[i]? = (ws'.map some ++ List.replicate (N.length - vs.length - (ws'.map some).length) none)[i - as.length]? := by
      unfold startF
      rw [List.getElem?_append_right (by rw [List.length_map, hl]; exact Nat.le_of_not_lt hi)]
      simp [hl]
    unfold startF at eq
    rw [eq]
    by_cases hj : i - as.length < ws.length
    · rw [List.getElem?_append_left (by simpa using hj), List.getElem?_map] at e
      cases q1 : ws[i - as.length]? with
      | none => rw [q1] at e; cases e
      | some b =>
        rw [q1] at e; cases e
        obtain ⟨v, e1, r1⟩ := q.get q1
        exact ⟨v, by rw [List.getElem?_append_left (by rw [List.length_map, hl2]; exact hj), List.getElem?_map, e1]; rfl, r1⟩
    · rw [List.getElem?_append_right (by simpa using hj), List.getElem?_replicate] at e
      split at e <;> cases e
/-- THE RULE for an inner def or a lambda -/
theorem fn_clo {k kc : Nat} {N ps : List Str} {bd : List A → List (Nat × A) → Option (List A)} {m : List Nat → MS} (S : NScope N ps (T.cf kc) (T.ci kc).scope) (bo : ∀ cl c doc pm ctv, BOk T P w K mg ((T.ci kc).fd cl c doc pm ctv) ps bd)
    (hbody : ∀ (base : Heap) (B : Around) (outer : List Env) (s : Shared) (H : Hp) (E : XK) (f : Addr) (cl : List (Str × Addr)) (c : Addr) (cs : List Nat), Arnd k (B.deeper (envF ((T.ci kc).nf cl c) f s.heap.objs.size)) → cs.length = (T.cf kc).length →
      BodyOk T (ncx (L2.CX P w) P w K mg base N ((T.ci kc).nf cl c) f B outer s H E) (clsC N.length ps.length cs) (wD E) (T.ci kc).body (m cs)) : CloOk T P w K mg (k + 1) kc (callC N.length bd m) := by
  intro base B outer s H f cs us vs as ku kv ka ρ h ar e0 ca r rv kr kf R nt nb
  obtain ⟨cl, c, c1, c2, c3, c4, c5, c6, c7⟩ := ca
  unfold callC at nb ⊢
  cases eb : bd as ka with
  | none => rw [eb] at nb; exact absurd rfl nb
  | some as' =>
    cases ew : capd h cs with
    | none => rw [eb, ew] at nb; exact absurd rfl nb
    | some ws =>
      rw [eb, ew] at nb
      have nb : outF (m cs (slotsC N.length as' ws) h) ≠ .bad := nb
      show codeAny (model P w) B (.call (.ref f) ⟨us, ku⟩) (fun r s' => CRes T P w K base outer H s ρ h (outF (m cs (slotsC N.length as' ws) h)) r s') s
      have lim0 : s.heap.NoLimit := e0.mod.nolimit.keeps fun b o e => (e0.bs b o e).1
      obtain ⟨od, sl, doc, pm, ctv, ho⟩ := fnB_at e0.hok c1
      have hcr : s.heap.CodeRec (.ref c) (T.ci kc).qual := codeO_at e0.hok c2
      -- behind the binding
      have main : ∀ (R2 : Result → Shared → Prop), (∀ r s', CRes T P w K base outer H s ρ h (outF (m cs (slotsC N.length as' ws) h)) r s' → R2 r s') → ∀ (Ex : Value → Shared → Prop), (∀ e s', CRes T P w K base outer H s ρ h (outF (m cs (slotsC N.length as' ws) h)) (.error e) s' → Ex e s') →
          wpAny (model P w) B.in1 (bindArgs ((T.ci kc).fd cl c doc pm ctv) ⟨us, ku⟩) (fun binds s₁ => wpAny (model P w) B.in1 (newFunctionEnv (T.ci kc).scope mainGlobals cl binds ((T.ci kc).qual ++ ".<locals>.") (some f) (.ref c) none builtinsNs)
            (fun env s₂ => s₂.heap.NoLimit ∧ codeAny (model P w) B (match (T.ci kc).body with | .stmts b => .func b env | .expr e => .expr e env) R2 s₂) Ex s₁) Ex s := by
        intro R2 hR2 Ex hEx
        refine bo cl c doc pm ctv base B outer s H us vs as ku kv ka ρ h as' e0 r rv kr kf R eb _ _ _ fun s2 H2 vs2 us2 e2 kp os un r2 hl st2 RA2 rv2 => ?_
        have lim : s2.heap.NoLimit := lim0.keeps kp
        refine wpAny_newFunctionEnv S.nocell (fun ⟨n, _⟩ hy => S.par n (List.of_mem_zip hy).1) (fun h₁ hns hsb => ⟨lim.fresh _ hsb, ?_⟩) S.kind
        have kp1 : ∀ b o, s2.heap.get? b = some o → h₁.get? b = some o := fun b o e => hsb.extBut b o (Nat.ne_of_lt (Heap.lt_size e)) (Heap.get?_push_of_some _ e)
        -- the captured cells
        have cell : ∀ (i l : Nat) (x : Str), (T.cf kc)[i]? = some x → cs[i]? = some l → ∃ (a : A) (v : V) (u : Value), ws[i]? = some a ∧ h.get l = some (.cel (some a)) ∧ RepV T K ρ h.n H2 a v ∧ RelV v u ∧ base.IsCell (ρ l) (some u) := fun i l x ex el => by
          obtain ⟨a, e1, e2⟩ := capd_get ew el
          obtain ⟨_, v, rr, q⟩ := R.obj l _ e2
          rcases q with ⟨u, q, ru⟩ | q
          · exact ⟨a, v, u, e1, e2, RepV.step st2.wk _ _ rr, ru, q⟩
          · exact absurd q (nt _ _)
        have unb : ∀ {l : Nat} {u : Value}, base.IsCell (ρ l) (some u) → H2 (ρ l) = none ∧ s2.heap.IsCell (ρ l) (some u) ∧ ρ l ∉ frs outer := fun {l u} ⟨o, ho, hd⟩ => by
          obtain ⟨h1, h2⟩ := e2.bs _ o ho
          refine ⟨h2, ⟨o, h1, hd⟩, fun z => ?_⟩
          rw [(e2.funs.mem z).1] at ho
          cases ho
        obtain ⟨ws', rws⟩ : ∃ ws' : List V, RepVs T K ρ h.n H2 ws ws' ∧ ∀ (i l : Nat) (x : Str), (T.cf kc)[i]? = some x → cs[i]? = some l → ∃ (v : V) (u : Value), ws'[i]? = some v ∧ RelV v u ∧ base.IsCell (ρ l) (some u) := by
          have key : ∀ (fr : List Str) (cs : List Nat) (ws : List A), capd h cs = some ws → cs.length = fr.length → (∀ (i l : Nat) (x : Str), fr[i]? = some x → cs[i]? = some l → ∃ (a : A) (v : V) (u : Value), ws[i]? = some a ∧ h.get l = some (.cel (some a)) ∧ RepV T K ρ h.n H2 a v ∧ RelV v u ∧ base.IsCell (ρ l) (some u)) →
              ∃ ws' : List V, RepVs T K ρ h.n H2 ws ws' ∧ ∀ (i l : Nat) (x : Str), fr[i]? = some x → cs[i]? = some l → ∃ (v : V) (u : Value), ws'[i]? = some v ∧ RelV v u ∧ base.IsCell (ρ l) (some u) := by
            intro fr
            induction fr with
            | nil =>
              intro cs ws e1 e2 _
              cases cs with
              | nil => cases e1; exact ⟨[], rfl, fun i l x e => by simp at e⟩
              | cons _ _ => simp at e2
            | cons y fr ih =>
              intro cs ws e1 e2 hh
              cases cs with
              | nil => simp at e2
              | cons l cs =>
                obtain ⟨a, v, u, f1, f2, f3, f4, f5⟩ := hh 0 l y rfl rfl
                simp only [capd] at e1
                split at e1
                · rename_i a' as g1 g2
                  cases e1
                  simp at f1
                  subst f1
                  obtain ⟨vs', h1, h2⟩ := ih cs as g2 (by simpa using e2) fun i l x ex el => by
                    obtain ⟨b, w1, w2, k1, k2⟩ := hh (i + 1) l x (by simpa using ex) (by simpa using el)
                    exact ⟨b, w1, w2, by simpa using k1, k2⟩
                  refine ⟨v :: vs', ⟨v, vs', rfl, f3, h1⟩, fun i l' x ex el => ?_⟩
                  cases i with
                  | zero => simp at el; subst el; exact ⟨v, u, rfl, f4, f5⟩
                  | succ i =>
                    obtain ⟨w1, w2, k1, k2, k3⟩ := h2 i l' x (by simpa using ex) (by simpa using el)
                    exact ⟨w1, w2, by simpa using k1, k2, k3⟩
                · cases e1
          exact key _ _ _ ew c4 cell
        obtain ⟨rws, wcell⟩ := rws
        have hwl : ws.length = (T.cf kc).length := by rw [capd_len ew]; exact c4
        have hfi : ∀ (i : Nat) (x : Str), (T.cf kc)[i]? = some x → ∃ l, cs[i]? = some l := fun i x e => by
          have hlt : i < cs.length := by rw [c4]; exact (List.getElem?_eq_some_iff.mp e).1
          exact ⟨_, List.getElem?_eq_getElem hlt⟩
        have C : CellsAt cl (T.cf kc) (ws'.map some) s2.heap H2 := by
          refine ⟨by rw [List.length_map, RepVs.length rws]; exact hwl, fun y c e => ?_, fun x y c ex ey => ?_, fun i y e => ?_⟩
          · obtain ⟨i, hi⟩ := List.mem_iff_getElem?.mp (c6 y c e)
            obtain ⟨l, hl⟩ := hfi i y hi
            have e3 := c5 i y l hi hl
            rw [e] at e3
            cases e3
            obtain ⟨v, u, _, _, q⟩ := wcell i l y hi hl
            obtain ⟨a1, a2, _⟩ := unb q
            exact ⟨a1, _, a2⟩
          · exact c7 x y c ex ey
          · obtain ⟨l, hl⟩ := hfi i y e
            obtain ⟨v, u, e1, ru, q⟩ := wcell i l y e hl
            obtain ⟨a1, a2, _⟩ := unb q
            refine ⟨ρ l, c5 i y l e hl, fun v' ev => ?_⟩
            rw [List.getElem?_map, e1] at ev
            cases ev
            exact ⟨u, ru, a2⟩
        generalize hr : m cs (slotsC N.length as' ws) h = r at nb hR2 hEx
        let X := ncx (L2.CX P w) P w K mg base N ((T.ci kc).nf cl c) f B outer s2 H2 (wishE T K base ρ h H (outF r))
        have I : L2.Inv X [] (startF N vs2 (ws'.map some)) H2 { s2 with heap := h₁, toks := s2.toks + (ps.zip us2).length } := inv_startN (CX := L2.CX P w) (F := (T.ci kc).nf cl c) (f := f) (tk := s2.toks + (ps.zip us2).length) S ar.room.hd e2 hl r2 C hns kp1
        have hpl : ps.length + (T.cf kc).length ≤ N.length := by
          have q := congrArg List.length S.pre
          rw [List.length_take, List.length_append] at q
          omega
        have hal : as'.length = ps.length := by rw [← RepVs.length rv2]; exact hl
        have F : Fm T X (clsC N.length ps.length cs) ρ h (slotsC N.length as' ws) (startF N vs2 (ws'.map some)) H2 := by
          refine ⟨fun l o e => ⟨(RA2.obj l o e).1, fun _ => (RA2.obj l o e).2⟩, RA2.inj, ?_, slotsC_val rv2 rws, fun i l e => ?_, RA2.tab⟩
          · show (slotsC N.length as' ws).length = N.length
            unfold slotsC
            rw [List.length_append, List.length_map, List.length_append, List.length_map, List.length_replicate]
            omega
          · unfold clsC at e
            by_cases hi : i < ps.length
            · rw [List.getElem?_append_left (by simpa using hi), List.getElem?_replicate] at e
              split at e <;> cases e
            · rw [List.getElem?_append_right (by simpa using hi), List.length_replicate] at e
              by_cases hj : i - ps.length < cs.length
              · rw [List.getElem?_append_left (by simpa using hj), List.getElem?_map] at e
                cases el : cs[i - ps.length]? with
                | none => rw [el] at e; cases e
                | some l' =>
                  rw [el] at e
                  cases e
                  have hx : i - ps.length < (T.cf kc).length := by rw [← c4]; exact hj
                  have ex := List.getElem?_eq_getElem hx
                  obtain ⟨a, v, u, g1, g2, g3, g4, g5⟩ := cell _ l _ ex el
                  obtain ⟨v', u', k1, k2, k3⟩ := wcell _ l _ ex el
                  refine ⟨_, some a, ?_, c5 _ _ l ex el, .inr (S.frk _ (List.mem_of_getElem? ex)), (unb g5).2.2, g2, fun a' ea => ?_⟩
                  · show N[i]? = some _
                    have q : (ps ++ T.cf kc)[i]? = some ((T.cf kc)[i - ps.length]) := by
                      rw [List.getElem?_append_right (Nat.le_of_not_lt hi)]
                      exact ex
                    rw [← S.pre, List.getElem?_take_of_lt (by omega)] at q
                    exact q
                  · cases ea
                    refine slotsC_val (N := N) rv2 rws i a ?_
                    unfold slotsC
                    rw [List.getElem?_append_right (by rw [List.length_map, hal]; exact Nat.le_of_not_lt hi), List.length_map, hal, List.getElem?_append_left (by rw [List.length_map, hwl]; exact hx), List.getElem?_map, g1]
                    rfl
              · rw [List.getElem?_append_right (by simpa using hj), List.getElem?_replicate] at e
                split at e <;> cases e
        have toA : ∀ {ρ' : Nat → Addr} {h' : Hq} {L' : Lc} {σ' : L2.St} {H' : Hp}, Step [] ρ h H2 ρ' h' H' → Fm T X (clsC N.length ps.length cs) ρ' h' L' σ' H' → RepA T K base ρ' h' H' := fun {ρ' h' L' σ' H'} st F' => by
          refine ⟨fun l o e => ⟨(F'.obj l o e).1, ?_⟩, F'.inj, F'.tab⟩
          by_cases hc : some l ∈ clsC N.length ps.length cs
          · obtain ⟨i, hi⟩ := List.mem_iff_getElem?.mp hc
            obtain ⟨_, ov, _, _, _, _, z, _⟩ := F.cel i l hi
            have lt := F.lt z
            obtain ⟨_, ov', _, _, _, _, z', _⟩ := F'.cel i l hi
            have z2 := (st.cel l ov' lt (by simp)).mp z'
            rw [e] at z'
            cases z'
            have r0 := (RA2.obj l _ z2).2
            rw [st.ext l lt]
            cases ov' with
            | none => trivial
            | some x =>
              obtain ⟨v, rr, q⟩ := r0
              refine ⟨v, RepV.step st.wk _ _ rr, .inl ?_⟩
              obtain ⟨_, v0, rr0, q0⟩ := R.obj l _ z2
              rcases q with q | q
              · exact q
              · rcases q0 with q0 | q0
                · exact absurd q (fun z => by have := (unb (l := l) q0.choose_spec.1).1; rw [this] at z; cases z)
                · exact absurd q0 (nt _ _)
          · exact (F'.obj l o e).2 hc
        have ewn : EW T X (clsC N.length ps.length cs) [] (wD (wishE T K base ρ h H (outF r))) ρ h H2 r := by
          cases r with
          | ok fl L' h' => trivial
          | bad => exact absurd rfl nb
          | err c' fs L' h' => exact fun ρ' σ' H' d ws st F' ed rf => ⟨ρ', d, ws, rfl, rfl, ed, st2.trans st, toA st F', rf⟩
        have hb := hbody base B outer s2 H2 (wishE T K base ρ h H (outF r)) f cl c cs (ar.deep _) c4
        have fin : ∀ {fl : Flow} {s' : Shared}, SQ T X (clsC N.length ps.length cs) [] [] ρ h H2 r fl s' → ∃ u, (fl = .ret u ∨ (fl = .next ∧ u = Value.none)) ∧ CRes T P w K base outer H s ρ h (outF r) (.ok (.ret u)) s' := fun {fl s'} q => by
          obtain ⟨u, hu, cr⟩ := cres_of (T := T) (X := X) (base := base) (outer := outer) (s0 := s2) (H0 := H2) rfl rfl rfl q nb (fun J => ⟨J.os, J.base⟩) toA
          refine ⟨u, hu, ?_⟩
          cases hro : outF r with
          | bad => exact absurd hro nb
          | err c' fs' h' => rw [hro] at cr; exact cr.elim
          | ok a' h' =>
            rw [hro] at cr
            obtain ⟨ρ', H', v', o1, o2, o3, o4, o5, o6, o7, o8⟩ := cr
            exact ⟨ρ', H', v', o1.trans os, o2, un.trans o3, o4, o5, st2.trans o6, o7, o8⟩
        have conv : ∀ e s'', L2.CX P w outer H2 s2 (wishE T K base ρ h H (outF r)) e s'' → CRes T P w K base outer H s ρ h (outF r) (.error e) s'' := fun e s'' cx =>
          wish_cres nb (StX.cxUp outer s H s2 H2 _ e s'' un kp os cx)
        cases hbd : (T.ci kc).body with
        | stmts b =>
          rw [hbd] at hb
          refine codeAny_func (wpAny_mono (hb [] _ (startF N vs2 (ws'.map some)) H2 ρ h (slotsC N.length as' ws) I F (by rw [hr]; exact ewn)) (fun fl s' q => ?_) fun e s' q => ?_)
          · rw [hr] at q
            obtain ⟨u, hu, cr⟩ := fin q
            rcases hu with rfl | ⟨rfl, rfl⟩
            · exact hR2 _ _ cr
            · exact hR2 _ _ cr
          · exact wpAny_mono q (fun _ s'' z => hR2 _ _ (conv e s'' z)) fun e' s'' z => hR2 _ _ (conv e' s'' z)
        | expr e =>
          rw [hbd] at hb
          obtain ⟨me, em, he⟩ := hb
          have hr2 : RS.ofE (slotsC N.length as' ws) (me (slotsC N.length as' ws) h) (fun a h1 => .ok (.rt a) (slotsC N.length as' ws) h1) = r := by rw [← hr, em]; rfl
          refine PySem.W.kla_codeExpr (wpAny_mono (run_e (ex := []) (W := wD (wishE T K base ρ h H (outF r))) (f := fun a h1 => .ok (.rt a) (slotsC N.length as' ws) h1) he I F (by rw [hr2]; exact ewn) (Q := fun u s' => CRes T P w K base outer H s ρ h (outF r) (.ok (.ret u)) s') fun a h1 ρ1 H1 v u s1 e1 I1 st1 F1 rv ru _ => ?_) (fun u s' q => hR2 _ _ q) fun e s' q => ?_)
          · have q : SQ T X (clsC N.length ps.length cs) [] [] ρ h H2 r (.ret u) s1 := by
              rw [← hr2, e1]
              exact ⟨ρ1, _, H1, I1, st1, F1, v, ru, rv⟩
            obtain ⟨u', hu, cr⟩ := fin q
            rcases hu with z | ⟨z, _⟩
            · cases z; exact cr
            · cases z
          · exact wpAny_mono q (fun _ s'' z => hR2 _ _ (conv e s'' z)) fun e' s'' z => hR2 _ _ (conv e' s'' z)
      cases hbd : (T.ci kc).body with
      | stmts b =>
        refine codeAny_call_function ar.room.depth ho rfl S.co S.gen hbd hcr ?_
        have z := main (fun r s' => CRes T P w K base outer H s ρ h (outF (m cs (slotsC N.length as' ws) h)) r s') (fun _ _ z => z) (fun e s' => CRes T P w K base outer H s ρ h (outF (m cs (slotsC N.length as' ws) h)) (.error e) s') (fun _ _ z => z)
        rw [hbd] at z
        exact z
      | expr b =>
        refine PySem.W.kla_callFunE ar.room.depth ho rfl S.co S.gen hbd hcr ?_
        have z := main (fun r s' => CRes T P w K base outer H s ρ h (outF (m cs (slotsC N.length as' ws) h)) r s') (fun _ _ z => z) (fun e s' => CRes T P w K base outer H s ρ h (outF (m cs (slotsC N.length as' ws) h)) (.error e) s') (fun _ _ z => z)
        rw [hbd] at z
        exact z
end
end Zk
end
section
set_option Elab.async false
set_option linter.all false
set_option maxRecDepth 100000
/-! Zk20: a def of the top some of whose names inner ones read. -/
namespace Zk
open PySem PySem.Spec PyProof.Rows L2 NdefX LamX

def slotA (L : Lc) (i : Nat) : Option A := match L[i]? with
  | some o => o
  | none => none
def cellsIn (L : Lc) : List Nat → Hq → Hq
  | [], h => h
  | i :: is, h => cellsIn L is (h.new (.cel (slotA L i)))
def clsIn : List Nat → Nat → List (Option Nat) → List (Option Nat)
  | [], _, cls => cls
  | i :: is, n, cls => clsIn is (n + 1) (cls.set i (some n))
def exIn : List Nat → Nat → List (Option Nat)
  | [], _ => []
  | _ :: is, n => some n :: exIn is (n + 1)
/-- cells forgotten, where an exception leaves -/
def blank : List Nat → Nat → Hq → Hq
  | [], _, h => h
  | _ :: is, n, h => blank is (n + 1) (h.upd n (.cel none))
def outB (own : List Nat) (n : Nat) : Res A → Res A
  | .err c fs h => .err c fs (blank own n h)
  | r => r
def callD (nn : Nat) (own : List Nat) (bd : List A → List (Nat × A) → Option (List A)) (m : Nat → MS) (as : List A) (ka : List (Nat × A)) (h : Hq) : Res A := match bd as ka with
  | some as' => outB own h.n (outF (m h.n (slots0 nn as') (cellsIn (slots0 nn as') own h)))
  | none => .bad
theorem exIn_mem : ∀ {own : List Nat} {n l : Nat}, some l ∈ exIn own n → n ≤ l ∧ l < n + own.length
  | [], _, _, h => by simp [exIn] at h
  | _ :: is, n, l, h => by
    simp only [exIn, List.mem_cons] at h
    rcases h with h | h
    · cases h; simp
    · have := exIn_mem h
      simp only [List.length_cons]
      omega
theorem blank_n : ∀ (own : List Nat) (n : Nat) (h : Hq), (blank own n h).n = h.n
  | [], _, _ => rfl
  | _ :: is, n, h => by
    show (blank is (n + 1) (h.upd n (.cel none))).n = h.n
    rw [blank_n is]; rfl
theorem blank_get : ∀ (own : List Nat) (n : Nat) (h : Hq) (l : Nat), (blank own n h).get l = if some l ∈ exIn own n then some (.cel none) else h.get l
  | [], _, _, l => by simp [blank, exIn]
  | _ :: is, n, h, l => by
    show (blank is (n + 1) (h.upd n (.cel none))).get l = _
    rw [blank_get is, Hq.get_upd]
    simp only [exIn, List.mem_cons]
    by_cases h1 : some l ∈ exIn is (n + 1)
    · simp [h1]
    · by_cases h2 : l = n
      · subst h2; simp
      · simp [h1, h2]
theorem cellsIn_n : ∀ (L : Lc) (own : List Nat) (h : Hq), (cellsIn L own h).n = h.n + own.length
  | _, [], _ => rfl
  | L, i :: is, h => by
    show (cellsIn L is (h.new (.cel (slotA L i)))).n = _
    rw [cellsIn_n L is]
    show h.n + 1 + is.length = h.n + (is.length + 1)
    omega
theorem cellsIn_lt : ∀ (L : Lc) (own : List Nat) (h : Hq) (l : Nat), l < h.n → (cellsIn L own h).get l = h.get l
  | _, [], _, _, _ => rfl
  | L, i :: is, h, l, hl => by
    show (cellsIn L is (h.new (.cel (slotA L i)))).get l = _
    rw [cellsIn_lt L is _ l (Nat.lt_succ_of_lt hl), Hq.get_new, if_neg (Nat.ne_of_lt hl)]
theorem cellsIn_ge : ∀ (L : Lc) (own : List Nat) (h : Hq) (l : Nat) (o : Ob), (∀ l o, h.get l = some o → l < h.n) → h.n ≤ l → (cellsIn L own h).get l = some o → some l ∈ exIn own h.n
  | _, [], h, l, o, hh, hl, e => absurd (Nat.lt_of_lt_of_le (hh l o e) hl) (Nat.lt_irrefl _)
  | L, i :: is, h, l, o, hh, hl, e => by
    simp only [exIn, List.mem_cons]
    by_cases q : l = h.n
    · exact .inl (by rw [q])
    · refine .inr (cellsIn_ge L is (h.new (.cel (slotA L i))) l o (fun l o e => ?_) (show h.n + 1 ≤ l by omega) e)
      rw [Hq.get_new] at e
      split at e
      · rename_i z; subst z; exact Nat.lt_succ_self _
      · exact Nat.lt_succ_of_lt (hh l o e)
section
variable {T : Tb} {X : Cx}
/-- a cell of the frame's own comes into the plain heap -/
theorem Fm.addCell {cls : List (Option Nat)} {ρ : Nat → Addr} {h : Hq} {L : Lc} {σ : L2.St} {H : Hp} {i : Nat} {x : Str} {c : Addr} (F : Fm T X cls ρ h L σ H) (hi : X.N[i]? = some x) (hc : X.env.cells.lookup x = some c) (hk : X.env.scope.names.lookup x = some .cell) (nf : c ∉ X.fs) (hcl : cls.length = X.N.length) (hno : cls[i]? = some none) :
    Fm T X (cls.set i (some h.n)) (put1 ρ h.n c) (h.new (.cel (slotA L i))) L σ H := by
  have hlt : i < cls.length := by rw [hcl]; exact (List.getElem?_eq_some_iff.mp hi).1
  have st : Wk ρ h.n H (put1 ρ h.n c) (h.n + 1) H := ⟨fun l hl => put1_ne (Nat.ne_of_lt hl), Nat.le_succ _, fun _ _ e _ _ => e⟩
  have old : ∀ l o, (h.new (.cel (slotA L i))).get l = some o → l ≠ h.n → h.get l = some o := fun l o e n => by rw [Hq.get_new, if_neg n] at e; exact e
  have mem : ∀ l, l ≠ h.n → (some l ∈ cls.set i (some h.n) ↔ some l ∈ cls) := fun l hl => by
    constructor
    · intro z
      rcases List.mem_or_eq_of_mem_set z with z | z
      · exact z
      · cases z; exact absurd rfl hl
    · intro z
      obtain ⟨j, hj⟩ := List.mem_iff_getElem?.mp z
      refine List.mem_iff_getElem?.mpr ⟨j, ?_⟩
      rw [List.getElem?_set_ne fun q => ?_]
      · exact hj
      · subst q; rw [hno] at hj; cases hj
  refine ⟨fun l o e => ?_, fun l l' o o' e e' m m' q => ?_, F.len, fun j a e => ?_, fun j l e => ?_, F.tab⟩
  · by_cases z : l = h.n
    · subst z
      refine ⟨Nat.lt_succ_self _, fun hn => absurd (List.mem_iff_getElem?.mpr ⟨i, ?_⟩) hn⟩
      rw [List.getElem?_set_self hlt]
    · have e := old l o e z
      refine ⟨Nat.lt_succ_of_lt (F.lt e), fun hn => ?_⟩
      rw [put1_ne z]
      exact RepO.stay st (fun _ q => q) ((F.obj l o e).2 fun q => hn ((mem l z).mpr q))
  · have nm : ∀ l o, (h.new (.cel (slotA L i))).get l = some o → isMut o = true → l ≠ h.n := fun l o e m z => by
      subst z
      rw [Hq.get_new, if_pos rfl] at e
      cases e; cases m
    have z := nm l o e m
    have z' := nm l' o' e' m'
    rw [put1_ne z, put1_ne z'] at q
    exact F.inj l l' o o' (old l o e z) (old l' o' e' z') m m' q
  · obtain ⟨v, e1, r⟩ := F.val j a e
    exact ⟨v, e1, RepV.step st _ _ r⟩
  · by_cases q : i = j
    · subst q
      rw [List.getElem?_set_self hlt] at e
      cases e
      refine ⟨x, slotA L i, hi, by rw [put1_same]; exact hc, .inl hk, by rw [put1_same]; exact nf, by rw [Hq.get_new, if_pos rfl], fun a ea => ?_⟩
      unfold slotA at ea
      cases el : L[i]? with
      | none => rw [el] at ea; cases ea
      | some o =>
        rw [el] at ea
        simp only at ea
        subst ea
        obtain ⟨v, e1, r⟩ := F.val i a el
        exact ⟨v, e1, RepV.step st _ _ r⟩
    · rw [List.getElem?_set_ne q] at e
      obtain ⟨y, ov, e1, e2, e3, nf', e4, e5⟩ := F.cel j l e
      have z : l ≠ h.n := Nat.ne_of_lt (F.lt e4)
      exact ⟨y, ov, e1, by rw [put1_ne z]; exact e2, e3, by rw [put1_ne z]; exact nf', by rw [Hq.get_new, if_neg z]; exact e4, fun a ea => let ⟨v, z1, r⟩ := e5 a ea; ⟨v, z1, RepV.step st _ _ r⟩⟩
theorem Fm.addCells {L : Lc} {σ : L2.St} {H : Hp} : ∀ (own : List Nat) {cls : List (Option Nat)} {ρ : Nat → Addr} {h : Hq}, Fm T X cls ρ h L σ H → cls.length = X.N.length → own.Nodup →
    (∀ i ∈ own, cls[i]? = some none ∧ ∃ x c, X.N[i]? = some x ∧ X.env.cells.lookup x = some c ∧ X.env.scope.names.lookup x = some .cell ∧ c ∉ X.fs) → ∃ ρ', Fm T X (clsIn own h.n cls) ρ' (cellsIn L own h) L σ H ∧ ∀ l, l < h.n → ρ' l = ρ l
  | [], cls, ρ, h, F, _, _, _ => ⟨ρ, F, fun _ _ => rfl⟩
  | i :: is, cls, ρ, h, F, hl, nd, hh => by
    obtain ⟨h0, x, c, h1, h2, h3, h4⟩ := hh i (.head _)
    have F1 := F.addCell h1 h2 h3 h4 hl h0
    have nd' := List.nodup_cons.mp nd
    obtain ⟨ρ', F2, e2⟩ := F1.addCells is (by rw [List.length_set]; exact hl) nd'.2 fun j hj => by
      obtain ⟨g0, g⟩ := hh j (.tail _ hj)
      refine ⟨?_, g⟩
      rw [List.getElem?_set_ne fun q => by subst q; exact nd'.1 hj]
      exact g0
    exact ⟨ρ', F2, fun l hl => by rw [e2 l (Nat.lt_succ_of_lt hl), put1_ne (Nat.ne_of_lt hl)]⟩
theorem clsIn_mem : ∀ {own : List Nat} {n l : Nat} {cls : List (Option Nat)}, some l ∈ clsIn own n cls → some l ∈ cls ∨ some l ∈ exIn own n
  | [], _, _, _, h => .inl h
  | i :: is, n, l, cls, h => by
    rcases clsIn_mem (own := is) h with h | h
    · rcases List.mem_or_eq_of_mem_set h with h | h
      · exact .inl h
      · exact .inr (by rw [h]; exact .head _)
    · exact .inr (.tail _ h)
theorem rep_none {n l : Nat} : some l ∉ List.replicate n (none : Option Nat) := fun h => by
  have := List.eq_of_mem_replicate h
  cases this
theorem clsIn_keep : ∀ {own : List Nat} {n i : Nat} {cls : List (Option Nat)} {o : Option Nat}, i ∉ own → cls[i]? = some o → (clsIn own n cls)[i]? = some o
  | [], _, _, _, _, _, e => e
  | j :: is, n, i, cls, o, hn, e => by
    refine clsIn_keep (own := is) (fun z => hn (.tail _ z)) ?_
    rw [List.getElem?_set_ne fun q => by subst q; exact hn (.head _)]
    exact e
theorem clsIn_of : ∀ {own : List Nat} {n l : Nat} {cls : List (Option Nat)}, own.Nodup → (∀ i ∈ own, i < cls.length) → some l ∈ exIn own n → ∃ i, i ∈ own ∧ (clsIn own n cls)[i]? = some (some l)
  | [], _, _, _, _, _, h => by simp [exIn] at h
  | j :: is, n, l, cls, nd, hl, h => by
    have nd' := List.nodup_cons.mp nd
    simp only [exIn, List.mem_cons] at h
    rcases h with h | h
    · cases h
      refine ⟨j, .head _, clsIn_keep (own := is) nd'.1 ?_⟩
      rw [List.getElem?_set_self (hl j (.head _))]
    · obtain ⟨i, hi, e⟩ := clsIn_of (own := is) (cls := cls.set j (some n)) nd'.2 (fun i hi => by rw [List.length_set]; exact hl i (.tail _ hi)) h
      exact ⟨i, .tail _ hi, e⟩

/-! ### the cells tracked from now on -/
def OwnAt (X : Cx) (cls : List (Option Nat)) (ρ : Nat → Addr) (h : Hq) (σ : L2.St) (b : Addr) (v : V) : Prop := ∃ (i l : Nat) (a : A), cls[i]? = some (some l) ∧ ρ l = b ∧ h.get l = some (.cel (some a)) ∧ σ[i]? = some (some v)
open Classical in
noncomputable def trkC (X : Cx) (cls : List (Option Nat)) (ρ : Nat → Addr) (h : Hq) (σ : L2.St) (H : Hp) : Hp := fun b => if q : ∃ v, OwnAt X cls ρ h σ b v then some (CellO b (some q.choose)) else H b
section
variable {pins : List (Addr × Obj)} {s : Shared} {cls : List (Option Nat)} {ρ : Nat → Addr} {h : Hq} {L : Lc} {σ : L2.St} {H : Hp}
theorem own_uniq (F : Fm T X cls ρ h L σ H) (ok : X.Ok) (hN : X.N.Nodup) {b : Addr} {v v' : V} (q : OwnAt X cls ρ h σ b v) (q' : OwnAt X cls ρ h σ b v') : v = v' := by
  obtain ⟨i, l, a, e1, e2, e3, e4⟩ := q
  obtain ⟨j, l', a', f1, f2, f3, f4⟩ := q'
  obtain ⟨x, _, g1, g2, _⟩ := F.cel i l e1
  obtain ⟨y, _, k1, k2, _⟩ := F.cel j l' f1
  rw [e2] at g2
  rw [f2] at k2
  have exy := ok.inj x y b g2 k2
  subst exy
  have ij := nodup_ix hN g1 k1
  subst ij
  rw [e4] at f4
  cases f4; rfl
theorem own_cell (I : L2.Inv X pins σ H s) (F : Fm T X cls ρ h L σ H) {b : Addr} {v : V} (q : OwnAt X cls ρ h σ b v) : H b = none ∧ ∃ u, RelV v u ∧ s.heap.IsCell b (some u) := by
  obtain ⟨i, l, a, e1, e2, e3, e4⟩ := q
  obtain ⟨x, _, g1, g2, g3, _⟩ := F.cel i l e1
  rw [e2] at g2
  refine ⟨I.freeC x b g2, ?_⟩
  obtain ⟨m, hn, hl'⟩ := I.loc
  obtain ⟨u, ru, lk⟩ := hl' i x v g1 e4 (.inr g3)
  refine ⟨u, ru, ?_⟩
  rcases lk with ⟨kl, _⟩ | ⟨_, c, ec, zc⟩
  · have kl : X.env.scope.names.lookup x = some .local := kl
    rcases g3 with k | k <;> rw [k] at kl <;> cases kl
  · rw [g2] at ec; cases ec; exact zc
theorem trk_own (F : Fm T X cls ρ h L σ H) (ok : X.Ok) (hN : X.N.Nodup) {b : Addr} {v : V} (q : OwnAt X cls ρ h σ b v) : trkC X cls ρ h σ H b = some (CellO b (some v)) := by
  unfold trkC
  have q2 : ∃ v, OwnAt X cls ρ h σ b v := ⟨v, q⟩
  rw [dif_pos q2, own_uniq F ok hN q2.choose_spec q]
theorem trk_up (I : L2.Inv X pins σ H s) (F : Fm T X cls ρ h L σ H) {b : Addr} {o : HO} (e : H b = some o) : trkC X cls ρ h σ H b = some o := by
  unfold trkC
  rw [dif_neg fun ⟨v, q⟩ => by rw [(own_cell I F q).1] at e; cases e]
  exact e
theorem trk_ok {P : Program} {w : World} (I : L2.Inv X pins σ H s) (F : Fm T X cls ρ h L σ H) (hN : X.N.Nodup) (x : HOk P w H s.heap) : HOk P w (trkC X cls ρ h σ H) s.heap := fun b o e => by
  by_cases q : ∃ v, OwnAt X cls ρ h σ b v
  · obtain ⟨v, q⟩ := q
    rw [trk_own F I.ok hN q] at e
    cases e
    obtain ⟨_, u, ru, ⟨o, ho, hd⟩⟩ := own_cell I F q
    exact ⟨⟨some u, ⟨o, ho, hd⟩, ru⟩, ⟨o, ho⟩, fun h1 h2 ⟨u', ⟨o', ho', hd'⟩, r'⟩ k => ⟨u', ⟨o', k _ ho', hd'⟩, r'⟩⟩
  · have e : H b = some o := by
      unfold trkC at e
      rw [dif_neg q] at e
      exact e
    exact (x b o e).stay (fun _ _ _ z => z) (fun c z => trk_up I F z) fun c xs z => trk_up I F z
theorem trk_none (I : L2.Inv X pins σ H s) (F : Fm T X cls ρ h L σ H) {b : Addr} (e : H b = none) (hc : ∀ (i l : Nat), cls[i]? = some (some l) → ρ l ≠ b) : trkC X cls ρ h σ H b = none := by
  unfold trkC
  rw [dif_neg fun ⟨v, i, l, a, e1, e2, _⟩ => hc i l e1 e2]
  exact e
/-- what stands behind the frame -/
theorem Fm.toA (I : L2.Inv X pins σ H s) (F : Fm T X cls ρ h L σ H) (hN : X.N.Nodup) : RepA T X.K X.base ρ h (trkC X cls ρ h σ H) := by
  have wk : Wk ρ h.n H ρ h.n (trkC X cls ρ h σ H) := ⟨fun _ _ => rfl, Nat.le_refl _, fun b o e _ _ => trk_up I F e⟩
  refine ⟨fun l o e => ⟨F.lt e, ?_⟩, F.inj, fun q hq => TabN.keeps (F.tab q hq) fun b o e _ => trk_up I F e⟩
  by_cases hc : some l ∈ cls
  · obtain ⟨i, hi⟩ := List.mem_iff_getElem?.mp hc
    obtain ⟨x, ov, e1, e2, e3, nf, e4, e5⟩ := F.cel i l hi
    rw [e] at e4
    cases e4
    cases ov with
    | none => trivial
    | some a =>
      obtain ⟨v, ev, r⟩ := e5 a rfl
      exact ⟨v, RepV.step wk _ _ r, .inr (trk_own F I.ok hN ⟨i, l, a, hi, rfl, e, ev⟩)⟩
  · exact RepO.stay wk (fun v z => trk_up I F z) ((F.obj l o e).2 hc)
end
end
/-! ### the rule -/
/-- which names of the def are cells, by place -/
structure OwnScope (N : List Str) (sc : Scope) (own : List Nat) : Prop where
  nd : own.Nodup
  at_ : ∀ i ∈ own, ∃ x, N[i]? = some x ∧ sc.names.lookup x = some .cell
section
variable {T : Tb} {P : Program} {w : World} {K : PySem.W.Frag} {mg : Str → Option Value}
theorem fn_defC {k : Nat} {f : Addr} {name qual : Str} {params : Arguments} {body : List Stmt} {scope : Scope} {dV kV doc pm cdv ct oc : Value} {an od : Option Addr} {osl : Array (Option Value)} {N ps : List Str} {own : List Nat} {bd : List A → List (Nat × A) → Option (List A)} {m : Nat → MS}
    (lk : K.lookup f = some ⟨oc, od, .func (PySem.W.fnOf name qual params body scope dV kV doc pm an cdv ct), osl⟩) (hcd : PySem.W.codeIn K cdv qual = true) (S : FnScope N ps scope) (O : OwnScope N scope own) (bo : BOk T P w K mg (PySem.W.fnOf name qual params body scope dV kV doc pm an cdv ct) ps bd)
    (hbody : ∀ (base : Heap) (B : Around) (outer : List Env) (s : Shared) (H : Hp) (E : XK) (n : Nat), Arnd k (B.deeper (envOfC qual scope s.heap.objs.size f cdv)) → SB T (xD P w K mg base N qual scope f cdv B outer s H E) (clsIn own n (List.replicate N.length none)) (exIn own n) (wD E) body (m n)) :
    COk T P w K mg (k + 1) f (callD N.length own bd m) := by
  intro base B outer s H us vs as ku kv ka ρ h ar e0 r rv kr kf R nt nb
  unfold callD at nb ⊢
  cases eb : bd as ka with
  | none => rw [eb] at nb; exact absurd rfl nb
  | some as' =>
    rw [eb] at nb
    have nb : outB own h.n (outF (m h.n (slots0 N.length as') (cellsIn (slots0 N.length as') own h))) ≠ .bad := nb
    show codeAny (model P w) B (.call (.ref f) ⟨us, ku⟩) (fun r s' => CRes T P w K base outer H s ρ h (outB own h.n (outF (m h.n (slots0 N.length as') (cellsIn (slots0 N.length as') own h)))) r s') s
    have KX : K.In s.heap := e0.mod.kin.keeps fun b o e => (e0.bs b o e).1
    refine codeAny_call_function ar.room.depth (KX _ _ lk) rfl S.co S.gen rfl (PySem.W.codeRec_of KX hcd) ?_
    refine bo base B outer s H us vs as ku kv ka ρ h as' e0 r rv kr kf R eb _ _ _ fun s2 H2 vs2 us2 e2 kp os un r2 hl st2 R2 rv2 => ?_
    have lim : s2.heap.NoLimit := e0.mod.nolimit.keeps fun b o e => (e2.bs b o e).1
    have hkind : ∀ y ∈ ps.zip us2, scope.names.lookup y.1 = some .local ∨ (scope.names.lookup y.1 = some .cell ∧ ((cellsFrom (s2.heap.objs.size + 1) scope.names []).lookup y.1).isSome = true) := fun y hy => by
      rcases S.par y.1 (List.of_mem_zip hy).1 with q | q
      · exact .inl q
      · exact .inr ⟨q, PySem.W.cellsFrom_some _ _ _ (.inl q)⟩
    refine wpAny_newFunctionEnv_cells (s := s2) S.kind hkind fun env he s1 x => ?_
    subst he
    refine ⟨lim.keeps x.toInCall.keep, codeAny_func ?_⟩
    generalize hr : m h.n (slots0 N.length as') (cellsIn (slots0 N.length as') own h) = r at nb ⊢
    let X := xD P w K mg base N qual scope f cdv B outer s2 H2 (wishE T K base ρ h H (outB own h.n (outF r)))
    have I : L2.Inv X [] (L2.start N vs2) H2 s1 := inv_start S ar.room.hd e2 hl r2 x
    have F0 : Fm T X (List.replicate N.length none) ρ h (slots0 N.length as') (L2.start N vs2) H2 :=
      ⟨fun l o e => ⟨(R2.obj l o e).1, fun _ => (R2.obj l o e).2⟩, R2.inj, by
        have q := RepVs.length rv2
        have hpl : ps.length ≤ N.length := by have := congrArg List.length S.pre; rw [List.length_take] at this; omega
        show (slots0 N.length as').length = N.length
        unfold slots0; rw [List.length_append, List.length_map, List.length_replicate]; omega, slots_val rv2, fun i l e => (by rw [List.getElem?_replicate] at e; split at e <;> cases e), R2.tab⟩
    have hN : X.N.Nodup := S.nd
    have hlt : ∀ i ∈ own, i < (List.replicate N.length (none : Option Nat)).length := fun i hi => by
      obtain ⟨x, hx, _⟩ := O.at_ i hi
      rw [List.length_replicate]
      exact (List.getElem?_eq_some_iff.mp hx).1
    obtain ⟨ρ0, F, eρ⟩ := F0.addCells own (by rw [List.length_replicate]; rfl) O.nd fun i hi => by
      obtain ⟨x, hx, hk⟩ := O.at_ i hi
      obtain ⟨c, hc⟩ := I.ok.has x (.inl hk)
      refine ⟨?_, x, c, hx, hc, hk, fun z => ?_⟩
      · have := hlt i hi
        rw [List.getElem?_replicate, if_pos (by simpa using this)]
      · have h1 := I.ok.cab x c rfl hc
        obtain ⟨_, o, ho, _⟩ := I.ok.funs.mem z
        exact absurd (Nat.lt_of_lt_of_le (Heap.lt_size ho) h1) (Nat.lt_irrefl _)
    -- from the entry
    have hh : ∀ l o, h.get l = some o → l < h.n := fun l o e => (R2.obj l o e).1
    have st0 : Step (exIn own h.n) ρ h H2 ρ0 (cellsIn (slots0 N.length as') own h) H2 := by
      refine ⟨eρ, by rw [cellsIn_n]; exact Nat.le_add_right _ _, fun _ _ e _ => e, fun l ov hl _ => by rw [cellsIn_lt _ _ _ _ hl], fun l y hl he e => ?_⟩
      exact absurd (cellsIn_ge _ _ _ _ _ hh hl e) he
    have big : ∀ {l : Nat}, some l ∈ exIn own h.n → h.n ≤ l := fun z => (exIn_mem z).1
    have inEx : ∀ {l : Nat}, some l ∈ clsIn own h.n (List.replicate N.length none) → some l ∈ exIn own h.n := fun z => (clsIn_mem z).elim (fun z => absurd z rep_none) id
    have nbF : outF r ≠ .bad := fun z => by rw [z] at nb; exact absurd rfl nb
    have ew : EW T X (clsIn own h.n (List.replicate N.length none)) (exIn own h.n) (wD (wishE T K base ρ h H (outB own h.n (outF r)))) ρ0 (cellsIn (slots0 N.length as') own h) H2 r := by
      cases r with
      | ok fl L' h' => trivial
      | bad => exact absurd rfl nbF
      | err c fs L' h' =>
        intro ρ' σ' H' d ws st F' ed rf
        have sa := st0.trans st
        refine ⟨ρ', d, ws, rfl, rfl, ed, st2.trans ⟨sa.ext, by rw [blank_n]; exact sa.le, sa.keep, fun l ov hl _ => ?_, fun l y hl _ e => ?_⟩, ⟨fun l o e => ?_, fun l l' o o' e e' m m' q => ?_, F'.tab⟩, by rw [blank_n]; exact rf⟩
        · have ne : some l ∉ exIn own h.n := fun z => absurd (big z) (by omega)
          rw [blank_get, if_neg ne]
          exact sa.cel l ov hl ne
        · rw [blank_get] at e
          split at e
          · cases e
          · rename_i ne; exact sa.ncl l y hl ne e
        · rw [blank_get] at e
          rw [blank_n]
          split at e
          · rename_i z
            cases e
            obtain ⟨i, hi, ei⟩ := clsIn_of (cls := List.replicate N.length none) O.nd hlt z
            obtain ⟨_, _, _, _, _, _, e4, _⟩ := F'.cel i l ei
            exact ⟨F'.lt e4, trivial⟩
          · rename_i z
            exact ⟨F'.lt e, (F'.obj l o e).2 fun q => z (inEx q)⟩
        · have un : ∀ l o, (blank own h.n h').get l = some o → isMut o = true → h'.get l = some o := fun l o e m => by
            rw [blank_get] at e
            split at e
            · cases e; cases m
            · exact e
          exact F'.inj l l' o o' (un l o e m) (un l' o' e' m') m m' q
    have conv : ∀ e s'', L2.CX P w outer H2 s2 (wishE T K base ρ h H (outB own h.n (outF r))) e s'' → CRes T P w K base outer H s ρ h (outB own h.n (outF r)) (.error e) s'' := fun e s'' cx =>
      wish_cres nb (StX.cxUp outer s H s2 H2 _ e s'' un kp os cx)
    refine wpAny_mono (hbody base B outer s2 H2 (wishE T K base ρ h H (outB own h.n (outF r))) h.n (ar.deep _) [] s1 (L2.start N vs2) H2 ρ0 (cellsIn (slots0 N.length as') own h) (slots0 N.length as') I F (by rw [hr]; exact ew)) (fun fl s' hs => ?_) fun e s' hs => wpAny_mono hs (fun _ s'' z => conv e s'' z) fun e' s'' z => conv e' s'' z
    rw [hr] at hs
    have fin : ∀ {a : A} {ρ' : Nat → Addr} {h' : Hq} {L' : Lc} {σ' : L2.St} {H' : Hp} {v' : V} {u' : Value}, L2.Inv X [] σ' H' s' → Step (exIn own h.n) ρ0 (cellsIn (slots0 N.length as') own h) H2 ρ' h' H' → Fm T X (clsIn own h.n (List.replicate N.length none)) ρ' h' L' σ' H' → RelV v' u' → RepV T K ρ' h'.n H' a v' →
        outF r = .ok a h' → CRes T P w K base outer H s ρ h (outB own h.n (outF r)) (.ok (.ret u')) s' :=
      fun {a ρ' h' L' σ' H' v' u'} J st F' ru rv' e => by
        rw [e]
        have sa := st0.trans st
        have upk : ∀ b o, H' b = some o → trkC X (clsIn own h.n (List.replicate N.length none)) ρ' h' σ' H' b = some o := fun b o e => trk_up J F' e
        have wk : Wk ρ' h'.n H' ρ' h'.n (trkC X (clsIn own h.n (List.replicate N.length none)) ρ' h' σ' H') := ⟨fun _ _ => rfl, Nat.le_refl _, fun b o e _ _ => upk b o e⟩
        have cnew : ∀ i l, (clsIn own h.n (List.replicate N.length none))[i]? = some (some l) → s2.heap.objs.size ≤ ρ' l := fun i l ei => by
          obtain ⟨x, _, _, g2, _⟩ := F'.cel i l ei
          exact J.ok.cab x _ rfl g2
        have un3 : Un (frs outer) [] H2 (trkC X (clsIn own h.n (List.replicate N.length none)) ρ' h' σ' H') s2.heap s'.heap :=
          ⟨J.base.keep, J.base.slot, fun b o eb nb hx => trk_none J F' (J.base.free b o eb nb hx) fun i l ei q => absurd (Nat.lt_of_lt_of_le (Heap.lt_size eb) (by rw [← q]; exact cnew i l ei)) (Nat.lt_irrefl _), J.base.there,
            fun b xs eb => upk _ _ (J.base.tups b xs eb), fun b o xs eb => upk _ _ (J.base.frzs b o xs eb), fun b ps eb => let ⟨mm, z⟩ := J.base.tbls b ps eb; ⟨mm, upk _ _ z⟩⟩
        refine ⟨ρ', trkC X (clsIn own h.n (List.replicate N.length none)) ρ' h' σ' H', v', J.os.trans os, J.bare, un.trans un3, trk_ok J F' hN J.hok, ru, st2.trans ⟨sa.ext, sa.le, fun b o eb ef => upk _ _ (sa.keep b o eb ef), fun l ov hl _ => sa.cel l ov hl fun z => absurd (big z) (by omega), fun l y hl _ e => ?_⟩, F'.toA J hN, RepV.step wk _ _ rv'⟩
        by_cases z : some l ∈ exIn own h.n
        · obtain ⟨i, hi, ei⟩ := clsIn_of (cls := List.replicate N.length none) O.nd hlt z
          obtain ⟨x, ov, g1, g2, g3, g4, g5, g6⟩ := F'.cel i l ei
          rw [e] at g5
          cases g5
          obtain ⟨v, ev, _⟩ := g6 y rfl
          exact ⟨some v, trk_own F' J.ok hN ⟨i, l, y, ei, rfl, e, ev⟩⟩
        · obtain ⟨v, zz⟩ := sa.ncl l y hl z e
          exact ⟨v, upk _ _ zz⟩
    cases r with
    | bad => exact hs.elim
    | err c fs L' h' => exact hs.elim
    | ok f' L' h' =>
      obtain ⟨ρ', σ', H', J, st, F', fi⟩ := hs
      cases f' with
      | nx => cases fl with
        | next => exact fin (a := .non) (v' := .non) (u' := Value.none) J st F' rfl rfl rfl
        | brk => exact fi.elim
        | cont => exact fi.elim
        | ret u => exact fi.elim
      | rt a => cases fl with
        | ret u =>
          obtain ⟨v', ru, rv'⟩ := fi
          exact fin J st F' ru rv' rfl
        | next => exact fi.elim
        | brk => exact fi.elim
        | cont => exact fi.elim
      | bk => exact absurd rfl nbF
      | ct => exact absurd rfl nbF
end
end Zk
end
section
set_option Elab.async false
set_option linter.all false
set_option maxRecDepth 100000
/-! Zk21: list comprehensions. -/
namespace Zk
open PySem PySem.Spec PyProof.Rows L2 NdefX LamX

def wipeL (L : Lc) : List Nat → Lc
  | [] => L
  | v :: vs => (wipeL L vs).set v none
theorem wipeL_length (L : Lc) : ∀ vs : List Nat, (wipeL L vs).length = L.length
  | [] => rfl
  | v :: vs => by unfold wipeL; rw [List.length_set, wipeL_length L vs]
theorem wipeL_some {L : Lc} {i : Nat} {x : A} : ∀ {vs : List Nat}, (wipeL L vs)[i]? = some (some x) → L[i]? = some (some x) ∧ i ∉ vs
  | [], h => ⟨h, by simp⟩
  | v :: vs, h => by
    unfold wipeL at h
    by_cases hi : v = i
    · subst hi
      rw [List.getElem?_set] at h
      simp only [if_true] at h
      split at h <;> cases h
    · rw [List.getElem?_set_ne hi] at h
      obtain ⟨h1, h2⟩ := wipeL_some h
      exact ⟨h1, by simp only [List.mem_cons, not_or]; exact ⟨fun e => hi e.symm, h2⟩⟩
theorem wipe_get {σ : L2.St} {i : Nat} : ∀ vs : List Nat, (wipe σ vs)[i]? = if i ∈ vs then (σ[i]?).map (fun _ => none) else σ[i]?
  | [] => by simp [wipe]
  | v :: vs => by
    unfold wipe
    rw [List.getElem?_set, wipe_length]
    by_cases hi : v = i
    · subst hi
      simp only [if_true, List.mem_cons, true_or]
      cases e : σ[v]? with
      | none => rw [if_neg (by have := List.getElem?_eq_none_iff.mp e; omega)]; rfl
      | some y => rw [if_pos (List.getElem?_eq_some_iff.mp e).1]; rfl
    · rw [if_neg hi, wipe_get vs]
      have : (i ∈ v :: vs) ↔ i ∈ vs := by simp only [List.mem_cons]; exact ⟨fun z => z.elim (fun z => absurd z.symm hi) id, .inr⟩
      by_cases hm : i ∈ vs
      · rw [if_pos hm, if_pos (this.mpr hm)]
      · rw [if_neg hm, if_neg fun z => hm (this.mp z)]
theorem wipe_idem {σ : L2.St} {vs : List Nat} : wipe (wipe σ vs) vs = wipe σ vs := by
  refine List.ext_getElem? fun i => ?_
  rw [wipe_get, wipe_get]
  split
  · cases σ[i]? <;> rfl
  · rfl
theorem wipe_set {σ : L2.St} {vs : List Nat} {j : Nat} {o : Option V} (hj : j ∈ vs) : wipe (σ.set j o) vs = wipe σ vs := by
  refine List.ext_getElem? fun i => ?_
  rw [wipe_get, wipe_get]
  by_cases hi : i ∈ vs
  · rw [if_pos hi, if_pos hi, List.getElem?_set]
    split
    · rename_i q; subst q
      split
      · rename_i hl; rw [List.getElem?_eq_getElem hl]; rfl
      · rename_i hl; rw [List.getElem?_eq_none (by omega)]
    · rfl
  · rw [if_neg hi, if_neg hi, List.getElem?_set_ne fun q => by subst q; exact hi hj]

abbrev noW : WX := fun _ _ _ _ => False
section
variable {T : Tb} {X : Cx} {cls : List (Option Nat)} {W : WX} {ρ ρ1 : Nat → Addr} {h h1 : Hq} {L L1 : Lc} {σ σ1 : L2.St} {H H1 : Hp}
theorem Fm.wiped (hcls : ∀ l, some l ∉ cls) (F : Fm T X cls ρ h L σ H) (vs : List Nat) : Fm T X cls ρ h (wipeL L vs) (wipe σ vs) H :=
  ⟨F.obj, F.inj, by rw [wipeL_length]; exact F.len, fun i a e => by
    obtain ⟨e1, e2⟩ := wipeL_some e
    obtain ⟨v, z, r⟩ := F.val i a e1
    exact ⟨v, by rw [wipe_out e2]; exact z, r⟩, fun i l e => absurd (List.mem_of_getElem? e) (hcls l), F.tab⟩
/-- the slots of before, over the heap of now -/
theorem Fm.old (hcls : ∀ l, some l ∉ cls) (F : Fm T X cls ρ h L σ H) (F1 : Fm T X cls ρ1 h1 L1 σ1 H1) (wk : Wk ρ h.n H ρ1 h1.n H1) : Fm T X cls ρ1 h1 L σ H1 :=
  ⟨F1.obj, F1.inj, F.len, fun i a e => by
    obtain ⟨v, z, r⟩ := F.val i a e
    exact ⟨v, z, RepV.step wk _ _ r⟩, fun i l e => absurd (List.mem_of_getElem? e) (hcls l), F1.tab⟩
theorem Fm.setN (hcls : ∀ l, some l ∉ cls) (F : Fm T X cls ρ h L σ H) {i : Nat} {a : A} {v : V} (hl : σ.length = X.N.length) (hi : i < X.N.length) (r : RepV T X.K ρ h.n H a v) : Fm T X cls ρ h (L.set i (some a)) (σ.set i (some v)) H := by
  refine ⟨F.obj, F.inj, by rw [List.length_set]; exact F.len, fun j b e => ?_, fun i l e => absurd (List.mem_of_getElem? e) (hcls l), F.tab⟩
  by_cases q : i = j
  · subst q
    rw [List.getElem?_set_self (by rw [F.len]; exact hi)] at e
    cases e
    exact ⟨v, by rw [List.getElem?_set_self (by rw [hl]; exact hi)], r⟩
  · rw [List.getElem?_set_ne q] at e
    obtain ⟨w, e1, r1⟩ := F.val j b e
    exact ⟨w, by rw [List.getElem?_set_ne q]; exact e1, r1⟩
section
variable {s0 : Shared} {H0 : Hp} {scope : Scope} {ce : Env} {fp : List Addr}
theorem Fm.blk (hcls : ∀ l, some l ∉ cls) (F : Fm T X cls ρ h L σ H) : Fm T (X.blk s0 H0 scope ce fp) cls ρ h L σ H := ⟨F.obj, F.inj, F.len, F.val, fun i l e => absurd (List.mem_of_getElem? e) (hcls l), F.tab⟩
theorem Fm.unblk (hcls : ∀ l, some l ∉ cls) (F : Fm T (X.blk s0 H0 scope ce fp) cls ρ h L σ H) : Fm T X cls ρ h L σ H := ⟨F.obj, F.inj, F.len, F.val, fun i l e => absurd (List.mem_of_getElem? e) (hcls l), F.tab⟩
theorem blkE (hcls : ∀ l, some l ∉ cls) {e : Expr} {m : ME} (he : SE T (X.blk s0 H0 scope ce fp) cls noW e m) : PE (X.blk s0 H0 scope ce fp) e (rdE T X cls noW m) := by
  refine PE.weak he fun σ H Q ⟨ρ, h, L, F, p⟩ => ⟨ρ, h, L, F.blk hcls, ?_⟩
  cases em : m L h with
  | ok a h1 => rw [em] at p; exact fun ρ' H' v st F' rv => p ρ' H' v st (F'.unblk hcls) rv
  | err c fs h1 => rw [em] at p; exact fun ρ' H' d ws st F' e' r => p ρ' H' d ws st (F'.unblk hcls) e' r
  | bad => rw [em] at p; exact p
theorem blkTs (hcls : ∀ l, some l ∉ cls) {es : List Expr} {m : MT} (he : PTs (X.blk s0 H0 scope ce fp) es (rdT T (X.blk s0 H0 scope ce fp) cls noW m)) : PTs (X.blk s0 H0 scope ce fp) es (rdT T X cls noW m) := by
  refine ⟨fun pins s σ H Q I ⟨ρ, h, L, F, p⟩ => he.run pins s σ H Q I ⟨ρ, h, L, F.blk hcls, ?_⟩⟩
  cases em : m L h with
  | ok a h1 => rw [em] at p; exact fun ρ' H' st F' => p ρ' H' st (F'.unblk hcls)
  | err c fs h1 => rw [em] at p; exact fun ρ' H' d ws st F' e' r => p ρ' H' d ws st (F'.unblk hcls) e' r
  | bad => rw [em] at p; exact p
end
theorem Wk.trans {ρ ρ1 ρ2 : Nat → Addr} {n n1 n2 : Nat} {H H1 H2 : Hp} (a : Wk ρ n H ρ1 n1 H1) (b : Wk ρ1 n1 H1 ρ2 n2 H2) : Wk ρ n H ρ2 n2 H2 :=
  ⟨fun l hl => (b.ext l (Nat.lt_of_lt_of_le hl a.le)).trans (a.ext l hl), Nat.le_trans a.le b.le, fun x o e f g => b.keep x o (a.keep x o e f g) f g⟩
def tT : MT := fun _ h => .ok true h
theorem ts_nil : PTs X [] (rdT T X cls W tT) := ⟨fun pins s σ H Q I ⟨ρ, h, L, F, p⟩ => pts_nil.run pins s σ H Q I (p ρ H F.refl F)⟩
theorem ts_one {c : Expr} {m : MT} (hm : ST T X cls W c m) : PTs X [c] (rdT T X cls W m) := pts_one hm

/-! ### targets of a block's turn -/
def GtOk (T : Tb) (X : Cx) (cls : List (Option Nat)) (vs : List Nat) (g : MG) (gt : TG) : Prop :=
  ∀ (ρ : Nat → Addr) (h : Hq) (L : Lc) (σ : L2.St) (H : Hp) (a : A) (v : V) (Q : L2.St → Hp → Prop) (f : Fl) (L1 : Lc) (h1 : Hq), Fm T X cls ρ h L σ H → RepV T X.K ρ h.n H a v → σ.length = X.N.length → g a L h = .ok f L1 h1 →
    (h1 = h → f = .nx → ∀ σ1, Fm T X cls ρ h L1 σ1 H → σ1.length = X.N.length → wipe σ1 vs = wipe σ vs → Q σ1 H) → gt v σ H Q
def GtsOk (T : Tb) (X : Cx) (cls : List (Option Nat)) (vs : List Nat) (g : MGs) (gt : TGs) : Prop :=
  ∀ (ρ : Nat → Addr) (h : Hq) (L : Lc) (σ : L2.St) (H : Hp) (as : List A) (ws : List V) (Q : L2.St → Hp → Prop) (f : Fl) (L1 : Lc) (h1 : Hq), Fm T X cls ρ h L σ H → RepVs T X.K ρ h.n H as ws → σ.length = X.N.length → g as L h = .ok f L1 h1 →
    (h1 = h → f = .nx → ∀ σ1, Fm T X cls ρ h L1 σ1 H → σ1.length = X.N.length → wipe σ1 vs = wipe σ vs → Q σ1 H) → gt ws σ H Q
theorem tg_nm (hcls : ∀ l, some l ∉ cls) {vs : List Nat} {i : Nat} (hi : i < X.N.length) (hv : i ∈ vs) : GtOk T X cls vs (gNm i) (gName i) := by
  intro ρ h L σ H a v Q f L1 h1 F r hl e k
  unfold gNm at e
  cases e
  exact k rfl rfl _ (F.setN hcls hl hi r) (by rw [List.length_set]; exact hl) (wipe_set hv)
theorem tgs_nil {vs : List Nat} : GtsOk T X cls vs gsNil gNil := by
  intro ρ h L σ H as ws Q f L1 h1 F r hl e k
  unfold gsNil at e
  cases as with
  | nil => cases e; simp only [RepVs] at r; exact ⟨r, k rfl rfl _ F hl rfl⟩
  | cons a as => cases e
theorem tgs_cons {vs : List Nat} {g : MG} {gt : TG} {r : MGs} {rt : TGs} (h1 : GtOk T X cls vs g gt) (h2 : GtsOk T X cls vs r rt) : GtsOk T X cls vs (gsCons g r) (gCons gt rt) := by
  intro ρ h L σ H as ws Q f L1 h1' F rv hl e k
  unfold gsCons at e
  cases as with
  | nil => cases e
  | cons a as =>
    simp only [RepVs] at rv
    obtain ⟨y, ys, rfl, r1, r2⟩ := rv
    simp only at e
    cases eg : g a L h with
    | ok f2 L2 h2' =>
      rw [eg] at e
      refine ⟨y, ys, rfl, h1 ρ h L σ H a y _ f2 L2 h2' F r1 hl eg fun eh ef σ1 F1 hl1 hw => ?_⟩
      subst eh
      exact h2 ρ h2' L2 σ1 H as ys Q f L1 h1' F1 r2 hl1 e fun eh ef σ2 F2 hl2 hw2 => k eh ef σ2 F2 hl2 (hw2.trans hw)
    | err c fs L2 h2' => rw [eg] at e; cases e
    | bad => rw [eg] at e; cases e
theorem tg_tup {vs : List Nat} {n : Nat} {gs : MGs} {gt : TGs} (hg : GtsOk T X cls vs gs gt) : GtOk T X cls vs (gTupA n gs) (gTup X.K n gt) := by
  intro ρ h L σ H a v Q f L1 h1 F r hl e k
  unfold gTupA at e
  cases a with
  | tup xs =>
    simp only at e
    split at e
    · rename_i hz
      simp only [RepV] at r
      obtain ⟨q, ws, rfl, hq, r⟩ := r
      exact ⟨q, ws, rfl, hq, by rw [RepVs.length r]; exact hz, hg ρ h L σ H xs ws Q f L1 h1 F r hl e k⟩
    · cases e
  | _ => cases e
end

/-! ### plain -/
def lcL (p : PItr) (g : MG) (c : MT) (e : ME) (L0 : Lc) (l0 : Nat) : Nat → Nat → Hq → Res Unit
  | 0, _, _ => .bad
  | f + 1, i, h => match p i h with
    | none => .bad
    | some none => .ok () h
    | some (some a) => match g a L0 h with
      | .ok _ L1 h1 => match c L1 h1 with
        | .ok true h2 => match e L1 h2 with
          | .ok y h3 => match h3.get l0 with
            | some (.lst xs) => if xs.length < SZ then lcL p g c e L0 l0 f (i + 1) (h3.upd l0 (.lst (xs ++ [y]))) else .bad
            | _ => .bad
          | _ => .bad
        | .ok false h2 => lcL p g c e L0 l0 f (i + 1) h2
        | _ => .bad
      | _ => .bad
def eLc (mi : MI) (g : MG) (c : MT) (e : ME) (vs : List Nat) (fuel : Nat) : ME := fun L h => (mi L h).bind fun p h1 => (lcL p g c e (wipeL L vs) h1.n fuel 0 (h1.new (.lst []))).bind fun _ h2 => .ok (.ref h1.n) h2
section
variable {T : Tb} {X : Cx} {cls : List (Option Nat)} {W : WX}
theorem s_lc {elt tg iter : Expr} {ifs : List Expr} {scope : Scope} {own : List (Str × Nat)} {vs : List Nat} {pos : Pos} {mi : MI} {g : MG} {gt : TG} {c : MT} {e : ME} {fuel : Nat} (hc : X.calm = true) (hN : X.N.Nodup) (hcls : ∀ l, some l ∉ cls) (hi : SI T X cls W tg iter mi) (ok : BlkOk X.N X.env.scope scope own) (hvs : own.map (·.2) = vs) (hgo : GtOk T X cls vs g gt)
    (hg : ∀ (s : Shared) (H : Hp) (C : Addr) (cl : List (Str × Addr)) (fp : List Addr), PG (X.blk s H scope (compEnvC scope cl C X.env) fp) tg gt)
    (ht : ∀ (s : Shared) (H : Hp) (C : Addr) (cl : List (Str × Addr)) (fp : List Addr), PTs (X.blk s H scope (compEnvC scope cl C X.env) fp) ifs (rdT T (X.blk s H scope (compEnvC scope cl C X.env) fp) cls noW c))
    (he : ∀ (s : Shared) (H : Hp) (C : Addr) (cl : List (Str × Addr)) (fp : List Addr), SE T (X.blk s H scope (compEnvC scope cl C X.env) fp) cls noW elt e)
    (hs : ∀ x, foldedSetIterable iter X.env x = pure x := by intro _; rfl) : SE T X cls W (.ListComp elt [⟨tg, iter, ifs, 0⟩] scope pos) (eLc mi g c e vs fuel) := by
  subst hvs
  refine ⟨fun pins s σ H Q I ⟨ρ, h, L, F, p⟩ => (pe_lc hc hN hi ok hg (fun s H C cl fp => blkTs hcls (ht s H C cl fp)) (fun s H C cl fp => blkE hcls (he s H C cl fp)) hs).run pins s σ H Q I ⟨ρ, h, L, F, ?_⟩⟩
  generalize own.map (·.2) = vs at *
  unfold eLc at p
  cases em : mi L h with
  | err cc fs h1 => rw [em] at p; exact p
  | bad => rw [em] at p; exact p
  | ok pr h1 =>
    rw [em] at p
    intro ρ1 H1 J st F1 itok D hD
    have p : PostE T X cls W ρ h H σ L Q ((lcL pr g c e (wipeL L vs) h1.n fuel 0 (h1.new (.lst []))).bind fun _ h2 => .ok (.ref h1.n) h2) := p
    have st2 := step_new (ρ := ρ1) (h := h1) (H := H1) (u := .lst []) (o := .lst []) (fun _ _ => F1.lt) hD rfl
    have F2 : Fm T X cls (put1 ρ1 h1.n D) (h1.new (.lst [])) L σ (upd H1 D (.lst [])) := F1.new hD rfl ⟨[], upd_same, rfl⟩
    have eD : put1 ρ1 h1.n D h1.n = D := put1_same
    have lt0 : h1.n < (h1.new (.lst [])).n := Nat.lt_succ_self _
    generalize hG : lcL pr g c e (wipeL L vs) h1.n fuel 0 (h1.new (.lst [])) = G at p
    have hlen : (wipe σ vs).length = X.N.length := by rw [wipe_length]; exact I.len
    have itok2 : ItOk T X.K J pr (put1 ρ1 h1.n D) (h1.new (.lst [])).n (upd H1 D (.lst [])) := fun X' cls' i' ρ' h' L' σ' H' hK F' wk fk => itok X' cls' i' ρ' h' L' σ' H' hK F' (st2.wk.trans wk) fun b o e f => fk b o (st2.keep b o e f) f
    generalize hρ2 : put1 ρ1 h1.n D = ρ2 at *
    generalize hh2 : h1.new (.lst []) = h2 at *
    generalize hH2 : upd H1 D (.lst []) = H2 at *
    have Fw : Fm T X cls ρ2 h2 (wipeL L vs) (wipe σ vs) H2 := F2.wiped hcls vs
    refine ⟨fun i m H' => ∃ ρ' h', Step [] ρ2 h2 H2 ρ' h' H' ∧ Fm T X cls ρ' h' (wipeL L vs) (wipe σ vs) H' ∧ lcL pr g c e (wipeL L vs) h1.n m i h' = G, ⟨fuel, ρ2, h2, Fw.refl, Fw, hG⟩, ?_⟩
    rintro i m H3 ⟨ρ3, h3, st3, F3, e3⟩
    have gbad : G ≠ .bad := fun z => by rw [z] at p; exact p
    cases m with
    | zero => unfold lcL at e3; exact absurd e3.symm gbad
    | succ m =>
      unfold lcL at e3
      have okI := itok2 X cls i ρ3 h3 _ _ H3 rfl F3 st3.wk st3.keep
      cases ep : pr i h3 with
      | none => rw [ep] at e3; exact absurd e3.symm gbad
      | some oa =>
        cases oa with
        | none =>
          rw [ep] at e3 okI
          have e3 : Res.ok () h3 = G := e3
          subst e3
          have stt := (st.trans st2).trans st3
          refine .inl ⟨okI, p ρ3 H3 _ stt (F.old hcls F3 stt.wk) ?_⟩
          simp only [RepV]
          exact ⟨by rw [st3.ext _ lt0, eD], Nat.lt_of_lt_of_le lt0 st3.le⟩
        | some a =>
          rw [ep] at e3 okI
          obtain ⟨go, yl⟩ := okI
          refine .inr ⟨go, fun H' => ∃ ρ' h', Step [] ρ2 h2 H2 ρ' h' H' ∧ Fm T X cls ρ' h' (wipeL L vs) (wipe σ vs) H' ∧ lcL pr g c e (wipeL L vs) h1.n m (i + 1) h' = G, fun H' n => ⟨m, Nat.lt_succ_self m, n⟩, fun x H4 y => ?_⟩
          obtain ⟨sp4, F4, rv4⟩ := yl x H4 y
          simp only at e3
          cases eg : g a (wipeL L vs) h3 with
          | err cc fs L1 h1' => rw [eg] at e3; exact absurd e3.symm gbad
          | bad => rw [eg] at e3; exact absurd e3.symm gbad
          | ok f L1 h1' =>
            rw [eg] at e3
            refine hgo ρ3 h3 (wipeL L vs) (wipe σ vs) H4 a x _ f L1 h1' F4 rv4 hlen eg fun eh ef σ5 F5 hl5 hw5 => ⟨hw5.trans wipe_idem, ρ3, h3, L1, F5, ?_⟩
            subst eh ef
            simp only at e3
            cases ec : c L1 h1' with
            | err cc fs h6 => rw [ec] at e3; exact absurd e3.symm gbad
            | bad => rw [ec] at e3; exact absurd e3.symm gbad
            | ok b h6 =>
              rw [ec] at e3
              intro ρ6 H6 st6 F6
              cases b with
              | false =>
                have stt := sp4.trans st6
                exact ⟨ρ6, h6, st3.trans stt, F3.old hcls F6 stt.wk, e3⟩
              | true =>
                simp only at e3
                refine ⟨ρ6, h6, L1, F6, ?_⟩
                cases ee : e L1 h6 with
                | err cc fs h7 => rw [ee] at e3; exact absurd e3.symm gbad
                | bad => rw [ee] at e3; exact absurd e3.symm gbad
                | ok yv h7 =>
                  rw [ee] at e3
                  intro ρ7 H7 w st7 F7 r7
                  simp only at e3
                  cases eo : h7.get h1.n with
                  | none => rw [eo] at e3; exact absurd e3.symm gbad
                  | some ob =>
                    rw [eo] at e3
                    cases ob with
                    | lst xs =>
                      simp only at e3
                      by_cases hz : xs.length < SZ
                      · rw [if_pos hz] at e3
                        obtain ⟨acc, ea, ra⟩ := F7.rep eo rfl
                        have stt := (sp4.trans st6).trans st7
                        have e7 : ρ7 h1.n = D := by rw [(st3.trans stt).ext _ lt0, eD]
                        obtain ⟨F8, st8⟩ := F7.write (u := .lst (acc ++ [w])) (o := .lst (xs ++ [yv])) eo rfl rfl ea (fun z => z) (fun _ z => nomatch z) fun wk => ⟨_, upd_same, RepVs.step wk _ _ (ra.append (show RepVs T X.K ρ7 h7.n H7 [yv] [w] from ⟨w, [], rfl, r7, rfl⟩))⟩
                        rw [e7] at ea F8 st8
                        have st9 := stt.trans st8
                        exact ⟨acc, ea, by rw [RepVs.length ra, ← sz_eq]; exact hz, ρ7, _, st3.trans st9, F3.old hcls F8 st9.wk, e3⟩
                      · rw [if_neg hz] at e3; exact absurd e3.symm gbad
                    | _ => exact absurd e3.symm gbad
end
end Zk
end
section
set_option Elab.async false
set_option linter.all false
set_option maxRecDepth 100000
/-! Zk22: dicts walked under a lock; dict comprehensions. -/
namespace Zk
open PySem PySem.Spec PyProof.Rows L2 NdefX LamX

/-- a value asked for while the dict that m names is locked -/
def eLock (m : ME) (body : ME) : ME := fun L h => match m L h with
  | .ok (.ref l) _ => match h.get l with
    | some (.dic kvs) => match body L (h.upd l (.lok kvs)) with
      | .ok a h2 => match h2.get l with
        | some (.lok _) => .ok a (h2.upd l (.dic kvs))
        | _ => .bad
      | _ => .bad
    | _ => .bad
  | _ => .bad
section
variable {T : Tb} {X : Cx} {cls : List (Option Nat)} {W : WX}
theorem s_lock {e : Expr} {m body : ME} (he : SE T X cls noW e body) : SE T X cls W e (eLock m body) := by
  refine PE.weak (pe_lock he) fun σ H Q ⟨ρ, h, L, F, p⟩ => ?_
  unfold eLock at p
  cases em : m L h with
  | err c fs h1 => rw [em] at p; exact p.elim
  | bad => rw [em] at p; exact p.elim
  | ok a h1 =>
    rw [em] at p
    cases a with
    | ref l =>
      simp only at p
      cases eo : h.get l with
      | none => rw [eo] at p; exact p.elim
      | some o =>
        rw [eo] at p
        cases o with
        | dic kvs =>
          simp only at p
          obtain ⟨ws, ed, r⟩ := F.rep eo rfl
          refine ⟨ρ l, .dK ws, ed, trivial, fun od => ?_⟩
          have wk1 : Wk ρ h.n H ρ h.n (L2.upd H (ρ l) (.frz od (.dK ws))) := ⟨fun _ _ => rfl, Nat.le_refl _, fun b x e f _ => by rw [upd_ne (fun z => by rw [z, ed] at e; cases e; exact f)]; exact e⟩
          have F1 : Fm T X cls ρ (h.upd l (.lok kvs)) L σ (L2.upd H (ρ l) (.frz od (.dK ws))) := F.upd eo rfl rfl (fun ps z => by rw [ed] at z; cases z) ⟨od, ws, upd_same, RepKs.step wk1 r⟩
          have st1 : Step [] ρ h H ρ (h.upd l (.lok kvs)) (L2.upd H (ρ l) (.frz od (.dK ws))) := step_upd (fun _ _ => F.lt) ed (fun z => z) eo rfl rfl
          have ll : l < h.n := F.lt eo
          refine ⟨ρ, _, L, F1, ?_⟩
          cases eb : body L (h.upd l (.lok kvs)) with
          | err c fs h2 => rw [eb] at p; exact p.elim
          | bad => rw [eb] at p; exact p.elim
          | ok a2 h2 =>
            rw [eb] at p
            intro ρ2 H2 v st F2 rv
            have st12 := st1.trans st
            have hd : H2 (ρ l) = some (.frz od (.dK ws)) := st.keep _ _ upd_same trivial
            refine ⟨hd, ?_⟩
            have p : PostE T X cls W ρ h H σ L Q (match h2.get l with
              | some (.lok _) => .ok a2 (h2.upd l (.dic kvs))
              | _ => .bad) := p
            cases eo2 : h2.get l with
            | none => rw [eo2] at p; exact p.elim
            | some o2 =>
              rw [eo2] at p
              cases o2 with
              | lok kvs2 =>
                have e2 : ρ2 l = ρ l := st12.ext l ll
                have wk2 : Wk ρ2 h2.n H2 ρ2 h2.n (L2.upd H2 (ρ l) (.dK ws)) := ⟨fun _ _ => rfl, Nat.le_refl _, fun b x e f _ => by rw [upd_ne (fun z => by rw [z, hd] at e; cases e; exact f)]; exact e⟩
                have F3 := F2.upd (u := .dK ws) (o := .dic kvs) eo2 rfl rfl (fun ps z => by rw [e2, hd] at z; cases z) ⟨ws, upd_same, by rw [e2]; exact RepKs.step wk2 (RepKs.step st12.wk r)⟩
                rw [e2] at F3
                refine p ρ2 _ v ⟨st12.ext, st12.le, fun b x e f => ?_, fun j ov hj he => ?_, fun j x hj he e => ?_⟩ F3 (RepV.step wk2 _ _ rv)
                · rw [upd_ne (fun z => by rw [z, ed] at e; cases e; exact f)]; exact st12.keep b x e f
                · rw [Hq.get_upd]
                  by_cases z : j = l
                  · subst z
                    rw [if_pos rfl, eo]
                  · rw [if_neg z]; exact st12.cel j ov hj he
                · rw [Hq.get_upd] at e
                  by_cases z : j = l
                  · rw [if_pos z] at e; cases e
                  · rw [if_neg z] at e
                    obtain ⟨v', q⟩ := st12.ncl j x hj he e
                    refine ⟨v', ?_⟩
                    rw [upd_ne (fun z => by rw [z, hd] at q; cases q)]; exact q
              | _ => exact p.elim
        | _ => exact p.elim
    | _ => exact p.elim

/-! ### walking a locked dict -/
theorem key_rv {K : PySem.W.Frag} {ρ : Nat → Addr} {n : Nat} {H : Hp} (k : Key) : RepV T K ρ n H (keyA k) (kV k) := by
  cases k <;> rfl
def iLok (f : Key × A → A) (m : ME) : MI := fun L h => (m L h).bind fun a h1 => match a with
  | .ref l => match h1.get l with
    | some (.lok kvs) => .ok (fun i _ => some ((kvs[i]?).map f)) h1
    | _ => .bad
  | _ => .bad
def iKs : ME → MI := iLok fun p => keyA p.1
def iVs : ME → MI := iLok fun p => p.2
def iIs : ME → MI := iLok fun p => .tup [keyA p.1, p.2]
theorem RepKs.get {κ : Type} {K : PySem.W.Frag} {ρ : Nat → Addr} {n : Nat} {H : Hp} {kvs : List (κ × A)} {ws : List (κ × V)} (r : RepKs T K ρ n H kvs ws) {i : Nat} {k : κ} {a : A} (e : kvs[i]? = some (k, a)) : ∃ v, ws[i]? = some (k, v) ∧ RepV T K ρ n H a v := by
  obtain ⟨⟨k2, v⟩, e1, e2, e3⟩ := paired_get r e
  simp only at e2 e3
  subst e2
  exact ⟨v, e1, e3⟩
theorem RepKs.none {κ : Type} {K : PySem.W.Frag} {ρ : Nat → Addr} {n : Nat} {H : Hp} {kvs : List (κ × A)} {ws : List (κ × V)} (r : RepKs T K ρ n H kvs ws) {i : Nat} (e : kvs[i]? = none) : ws.length ≤ i := by
  rw [← r.len]; exact List.getElem?_eq_none_iff.mp e
theorem lok_bind {f : Key × A → A} {m : ME} {σ : L2.St} {H : Hp} {R : It → Hp → Prop} {ρ : Nat → Addr} {h : Hq} {L : Lc} (p : PostI T X cls W ρ h H σ L R (iLok f m L h)) {Q1 : VK}
    (k : ∀ (l : Nat) (h1 : Hq) (ρ1 : Nat → Addr) (H1 : Hp) (kvs : List (Key × A)) (od : Obj) (ws : List (Key × V)), H1 (ρ1 l) = some (.frz od (.dK ws)) → RepKs T X.K ρ1 h1.n H1 kvs ws → (∀ J, ItOk T X.K J (fun i _ => some ((kvs[i]?).map f)) ρ1 h1.n H1 → R J H1) → Q1 (.ref (ρ1 l)) H1) : PostE T X cls W ρ h H σ L Q1 (m L h) := by
  unfold iLok at p
  refine PostI.bindE p fun a h1 ρ1 H1 v e1 st F1 rv p1 => ?_
  cases a with
  | ref l =>
    have p1 : PostI T X cls W ρ1 h1 H1 σ L R (match h1.get l with
      | some (.lok kvs) => .ok (fun i _ => some ((kvs[i]?).map f)) h1
      | _ => .bad) := p1
    cases eo : h1.get l with
    | none => rw [eo] at p1; exact p1.elim
    | some o =>
      rw [eo] at p1
      cases o with
      | lok kvs =>
        obtain ⟨od, ws, e, r⟩ := F1.rep eo rfl
        simp only [RepV] at rv
        obtain ⟨rfl, _⟩ := rv
        exact k l h1 ρ1 H1 kvs od ws e r fun J hJ => p1 ρ1 H1 J F1.refl F1 hJ
      | _ => exact p1.elim
  | _ => exact p1.elim
theorem i_vals {tg e : Expr} {m : ME} {apos cpos : Pos} (he : SE T X cls W e m) (hbase : attributeBase e "values" X.env (eval e X.env) = eval e X.env := by rfl) (hline : (apos.endLine == cpos.line) = true := by rfl) : SI T X cls W tg (.Call (.Attribute e "values" apos) [] [] cpos) (iVs m) := by
  refine PI.weak (pi_values he hbase hline) fun σ H R ⟨ρ, h, L, F, p⟩ => ⟨ρ, h, L, F, lok_bind p fun l h1 ρ1 H1 kvs od ws hd r k => ⟨_, od, ws, rfl, hd, k _ ?_⟩⟩
  intro X' cls' i ρ' h' L' σ' H' hK F' wk fk
  have hd' := fk _ _ hd trivial
  have r' := RepKs.step wk r
  show ItSt T X.K _ X' cls' i ρ' h' L' σ' H' (some ((kvs[i]?).map fun p => p.2))
  cases e : kvs[i]? with
  | none => exact ⟨hd', r'.none e⟩
  | some p =>
    obtain ⟨v, ev, rv⟩ := r'.get (k := p.1) (a := p.2) e
    refine ⟨⟨hd', (List.getElem?_eq_some_iff.mp ev).1⟩, fun w H2 ⟨e1, k2, e2⟩ => ?_⟩
    subst e1
    rw [ev] at e2
    cases e2
    exact ⟨F'.refl, F', rv⟩
theorem i_keys {tg e : Expr} {m : ME} (he : SE T X cls W e m) : SI T X cls W tg e (iKs m) := by
  refine PI.weak (pi_keys he) fun σ H R ⟨ρ, h, L, F, p⟩ => ⟨ρ, h, L, F, lok_bind p fun l h1 ρ1 H1 kvs od ws hd r k => ⟨_, od, rfl, .inl ⟨ws, hd, k _ ?_⟩⟩⟩
  intro X' cls' i ρ' h' L' σ' H' hK F' wk fk
  have hd' := fk _ _ hd trivial
  have r' := RepKs.step wk r
  show ItSt T X.K _ X' cls' i ρ' h' L' σ' H' (some ((kvs[i]?).map fun p => keyA p.1))
  cases e : kvs[i]? with
  | none => exact ⟨hd', r'.none e⟩
  | some p =>
    obtain ⟨v, ev, rv⟩ := r'.get (k := p.1) (a := p.2) e
    refine ⟨⟨hd', (List.getElem?_eq_some_iff.mp ev).1⟩, fun w H2 ⟨e1, k2, v2, e2, e3⟩ => ?_⟩
    subst e1
    rw [ev] at e2
    cases e2
    subst e3
    exact ⟨F'.refl, F', key_rv _⟩
theorem i_items {elts : List Expr} {kk : Nat} {tpos : Pos} {e : Expr} {m : ME} {apos cpos : Pos} (he : SE T X cls W e m) (hbase : attributeBase e "items" X.env (eval e X.env) = eval e X.env := by rfl) (hline : (apos.endLine == cpos.line) = true := by rfl) : SI T X cls W (.Tuple elts kk tpos) (.Call (.Attribute e "items" apos) [] [] cpos) (iIs m) := by
  refine PI.weak (pi_items he hbase hline) fun σ H R ⟨ρ, h, L, F, p⟩ => ⟨ρ, h, L, F, lok_bind p fun l h1 ρ1 H1 kvs od ws hd r k => ⟨_, od, ws, rfl, hd, k _ ?_⟩⟩
  intro X' cls' i ρ' h' L' σ' H' hK F' wk fk
  have hd' := fk _ _ hd trivial
  have r' := RepKs.step wk r
  show ItSt T X.K _ X' cls' i ρ' h' L' σ' H' (some ((kvs[i]?).map fun p => .tup [keyA p.1, p.2]))
  cases e : kvs[i]? with
  | none => exact ⟨hd', r'.none e⟩
  | some p =>
    obtain ⟨v, ev, rv⟩ := r'.get (k := p.1) (a := p.2) e
    refine ⟨⟨hd', (List.getElem?_eq_some_iff.mp ev).1⟩, fun w H2 ⟨q, k2, v2, e2, e3, e4, e5⟩ => ?_⟩
    rw [ev] at e2
    cases e2
    subst e3 e5
    have st := step_tup (ρ := ρ') (h := h') (H := H') (p := q) (u := .tup [kV p.1, v]) (fun _ _ => F'.lt) e4
    refine ⟨st, F'.aux e4, ?_⟩
    simp only [RepV]
    exact ⟨q, _, rfl, SqT.of upd_same, ⟨_, _, rfl, key_rv _, ⟨_, [], rfl, RepV.step st.wk _ _ rv, rfl⟩⟩⟩

/-! ### dict comprehensions -/
def dcL (p : PItr) (g : MG) (c : MT) (ek ev : ME) (L0 : Lc) (l0 : Nat) : Nat → Nat → Hq → Res Unit
  | 0, _, _ => .bad
  | f + 1, i, h => match p i h with
    | none => .bad
    | some none => .ok () h
    | some (some a) => match g a L0 h with
      | .ok _ L1 h1 => match c L1 h1 with
        | .ok true h2 => match ek L1 h2 with
          | .ok y h3 => match ev L1 h3 with
            | .ok z h4 => match keyOf y, h4.get l0 with
              | some k, some (.dic kvs) => if kvs.length < SZ then dcL p g c ek ev L0 l0 f (i + 1) (h4.upd l0 (.dic (putA kvs k z))) else .bad
              | _, _ => .bad
            | _ => .bad
          | _ => .bad
        | .ok false h2 => dcL p g c ek ev L0 l0 f (i + 1) h2
        | _ => .bad
      | _ => .bad
def eDc (mi : MI) (g : MG) (c : MT) (ek ev : ME) (vs : List Nat) (fuel : Nat) : ME := fun L h => (mi L h).bind fun p h1 => (dcL p g c ek ev (wipeL L vs) h1.n fuel 0 (h1.new (.dic []))).bind fun _ h2 => .ok (.ref h1.n) h2
theorem s_dc {kx vx tg iter : Expr} {ifs : List Expr} {scope : Scope} {own : List (Str × Nat)} {vs : List Nat} {pos : Pos} {mi : MI} {g : MG} {gt : TG} {c : MT} {ek ev : ME} {fuel : Nat} (hc : X.calm = true) (hN : X.N.Nodup) (hcls : ∀ l, some l ∉ cls) (hi : SI T X cls W tg iter mi) (ok : BlkOk X.N X.env.scope scope own) (hvs : own.map (·.2) = vs) (hgo : GtOk T X cls vs g gt)
    (hg : ∀ (s : Shared) (H : Hp) (C : Addr) (cl : List (Str × Addr)) (fp : List Addr), PG (X.blk s H scope (compEnvC scope cl C X.env) fp) tg gt)
    (ht : ∀ (s : Shared) (H : Hp) (C : Addr) (cl : List (Str × Addr)) (fp : List Addr), PTs (X.blk s H scope (compEnvC scope cl C X.env) fp) ifs (rdT T (X.blk s H scope (compEnvC scope cl C X.env) fp) cls noW c))
    (hk : ∀ (s : Shared) (H : Hp) (C : Addr) (cl : List (Str × Addr)) (fp : List Addr), SE T (X.blk s H scope (compEnvC scope cl C X.env) fp) cls noW kx ek)
    (he : ∀ (s : Shared) (H : Hp) (C : Addr) (cl : List (Str × Addr)) (fp : List Addr), SE T (X.blk s H scope (compEnvC scope cl C X.env) fp) cls noW vx ev)
    (hs : ∀ x, foldedSetIterable iter X.env x = pure x := by intro _; rfl) : SE T X cls W (.DictComp kx vx [⟨tg, iter, ifs, 0⟩] scope pos) (eDc mi g c ek ev vs fuel) := by
  subst hvs
  refine ⟨fun pins s σ H Q I ⟨ρ, h, L, F, p⟩ => (pe_dc hc hN hi ok hg (fun s H C cl fp => blkTs hcls (ht s H C cl fp)) (fun s H C cl fp => blkE hcls (hk s H C cl fp)) (fun s H C cl fp => blkE hcls (he s H C cl fp)) hs).run pins s σ H Q I ⟨ρ, h, L, F, ?_⟩⟩
  generalize own.map (·.2) = vs at *
  unfold eDc at p
  cases em : mi L h with
  | err cc fs h1 => rw [em] at p; exact p
  | bad => rw [em] at p; exact p
  | ok pr h1 =>
    rw [em] at p
    intro ρ1 H1 J st F1 itok D hD
    have p : PostE T X cls W ρ h H σ L Q ((dcL pr g c ek ev (wipeL L vs) h1.n fuel 0 (h1.new (.dic []))).bind fun _ h2 => .ok (.ref h1.n) h2) := p
    have st2 := step_new (ρ := ρ1) (h := h1) (H := H1) (u := .dK []) (o := .dic []) (fun _ _ => F1.lt) hD rfl
    have F2 : Fm T X cls (put1 ρ1 h1.n D) (h1.new (.dic [])) L σ (upd H1 D (.dK [])) := F1.new hD rfl ⟨[], upd_same, .nil⟩
    have eD : put1 ρ1 h1.n D h1.n = D := put1_same
    have lt0 : h1.n < (h1.new (.dic [])).n := Nat.lt_succ_self _
    generalize hG : dcL pr g c ek ev (wipeL L vs) h1.n fuel 0 (h1.new (.dic [])) = G at p
    have hlen : (wipe σ vs).length = X.N.length := by rw [wipe_length]; exact I.len
    have itok2 : ItOk T X.K J pr (put1 ρ1 h1.n D) (h1.new (.dic [])).n (upd H1 D (.dK [])) := fun X' cls' i' ρ' h' L' σ' H' hK F' wk fk => itok X' cls' i' ρ' h' L' σ' H' hK F' (st2.wk.trans wk) fun b o e f => fk b o (st2.keep b o e f) f
    generalize hρ2 : put1 ρ1 h1.n D = ρ2 at *
    generalize hh2 : h1.new (.dic []) = h2 at *
    generalize hH2 : upd H1 D (.dK []) = H2 at *
    have Fw : Fm T X cls ρ2 h2 (wipeL L vs) (wipe σ vs) H2 := F2.wiped hcls vs
    refine ⟨fun i m H' => ∃ ρ' h', Step [] ρ2 h2 H2 ρ' h' H' ∧ Fm T X cls ρ' h' (wipeL L vs) (wipe σ vs) H' ∧ dcL pr g c ek ev (wipeL L vs) h1.n m i h' = G, ⟨fuel, ρ2, h2, Fw.refl, Fw, hG⟩, ?_⟩
    rintro i m H3 ⟨ρ3, h3, st3, F3, e3⟩
    have gbad : G ≠ .bad := fun z => by rw [z] at p; exact p
    cases m with
    | zero => unfold dcL at e3; exact absurd e3.symm gbad
    | succ m =>
      unfold dcL at e3
      have okI := itok2 X cls i ρ3 h3 _ _ H3 rfl F3 st3.wk st3.keep
      cases ep : pr i h3 with
      | none => rw [ep] at e3; exact absurd e3.symm gbad
      | some oa =>
        cases oa with
        | none =>
          rw [ep] at e3 okI
          have e3 : Res.ok () h3 = G := e3
          subst e3
          have stt := (st.trans st2).trans st3
          refine .inl ⟨okI, p ρ3 H3 _ stt (F.old hcls F3 stt.wk) ?_⟩
          simp only [RepV]
          exact ⟨by rw [st3.ext _ lt0, eD], Nat.lt_of_lt_of_le lt0 st3.le⟩
        | some a =>
          rw [ep] at e3 okI
          obtain ⟨go, yl⟩ := okI
          refine .inr ⟨go, fun H' => ∃ ρ' h', Step [] ρ2 h2 H2 ρ' h' H' ∧ Fm T X cls ρ' h' (wipeL L vs) (wipe σ vs) H' ∧ dcL pr g c ek ev (wipeL L vs) h1.n m (i + 1) h' = G, fun H' n => ⟨m, Nat.lt_succ_self m, n⟩, fun x H4 y => ?_⟩
          obtain ⟨sp4, F4, rv4⟩ := yl x H4 y
          simp only at e3
          cases eg : g a (wipeL L vs) h3 with
          | err cc fs L1 h1' => rw [eg] at e3; exact absurd e3.symm gbad
          | bad => rw [eg] at e3; exact absurd e3.symm gbad
          | ok f L1 h1' =>
            rw [eg] at e3
            refine hgo ρ3 h3 (wipeL L vs) (wipe σ vs) H4 a x _ f L1 h1' F4 rv4 hlen eg fun eh ef σ5 F5 hl5 hw5 => ⟨hw5.trans wipe_idem, ρ3, h3, L1, F5, ?_⟩
            subst eh ef
            simp only at e3
            cases ec : c L1 h1' with
            | err cc fs h6 => rw [ec] at e3; exact absurd e3.symm gbad
            | bad => rw [ec] at e3; exact absurd e3.symm gbad
            | ok b h6 =>
              rw [ec] at e3
              intro ρ6 H6 st6 F6
              cases b with
              | false =>
                have stt := sp4.trans st6
                exact ⟨ρ6, h6, st3.trans stt, F3.old hcls F6 stt.wk, e3⟩
              | true =>
                simp only at e3
                refine ⟨ρ6, h6, L1, F6, ?_⟩
                cases ee : ek L1 h6 with
                | err cc fs h7 => rw [ee] at e3; exact absurd e3.symm gbad
                | bad => rw [ee] at e3; exact absurd e3.symm gbad
                | ok yv h7 =>
                  rw [ee] at e3
                  intro ρ7 H7 w st7 F7 r7
                  simp only at e3
                  refine ⟨ρ7, h7, L1, F7, ?_⟩
                  cases e8 : ev L1 h7 with
                  | err cc fs h8 => rw [e8] at e3; exact absurd e3.symm gbad
                  | bad => rw [e8] at e3; exact absurd e3.symm gbad
                  | ok zv h8 =>
                    rw [e8] at e3
                    intro ρ8 H8 w8 st8 F8 r8
                    simp only at e3
                    cases eky : keyOf yv with
                    | none => rw [eky] at e3; exact absurd e3.symm gbad
                    | some k =>
                      rw [eky] at e3
                      cases eo : h8.get h1.n with
                      | none => rw [eo] at e3; exact absurd e3.symm gbad
                      | some ob =>
                        rw [eo] at e3
                        cases ob with
                        | dic kvs =>
                          simp only at e3
                          by_cases hz : kvs.length < SZ
                          · rw [if_pos hz] at e3
                            obtain ⟨acc, ea, ra⟩ := F8.rep eo rfl
                            have stt := ((sp4.trans st6).trans st7).trans st8
                            have e7 : ρ8 h1.n = D := by rw [(st3.trans stt).ext _ lt0, eD]
                            obtain ⟨F9, st9⟩ := F8.write (u := .dK (putK acc k w8)) (o := .dic (putA kvs k zv)) eo rfl rfl ea (fun z => z) (fun _ z => nomatch z) fun wk => ⟨_, upd_same, RepKs.put (RepKs.step wk ra) (RepV.step wk _ _ r8)⟩
                            rw [e7] at ea F9 st9
                            have st10 := stt.trans st9
                            exact ⟨acc, k, key_rep eky r7, ea, by rw [← ra.len, ← sz_eq]; exact hz, ρ8, _, st3.trans st10, F3.old hcls F9 st10.wk, e3⟩
                          · rw [if_neg hz] at e3; exact absurd e3.symm gbad
                        | _ => exact absurd e3.symm gbad
end
end Zk
end
section
set_option Elab.async false
set_option linter.all false
set_option maxRecDepth 100000
/-! Zk23: try .. finally where nothing raises; displays of dicts; xs[::-1]; list(range(..)). -/
namespace Zk
open PySem PySem.Spec PyProof.Rows L2 NdefX LamX

theorem takes_no {X : Cx} : Takes X noW := fun u s' ⟨_, _, _, _, _, _, _, _, _, _, _, _, _, _, _, _, w⟩ => False.elim w
section
variable {T : Tb} {X : Cx} {cls ex : List (Option Nat)} {W : WX} {ρ : Nat → Addr} {h : Hq} {L : Lc} {σ : L2.St} {H : Hp}
/-- code in which no exception leaves -/
theorem nox_run {body : List Stmt} {mb : MS} {pins : List (Addr × Obj)} {s : Shared} {f : Fl} {L1 : Lc} {h1 : Hq} {Q : Flow → Shared → Prop} {E : Value → Shared → Prop} (hb : SB T X.nox cls ex noW body mb) (I : L2.Inv X pins σ H s) (F : Fm T X cls ρ h L σ H) (e : mb L h = .ok f L1 h1)
    (k : ∀ fl s', SQ T X cls ex pins ρ h H (.ok f L1 h1) fl s' → Q fl s') : wpAny (model X.prog X.w) X.A (execs body X.env) Q E s := by
  refine wpAny_mono (hb pins s σ H ρ h L (I.wish _) F.nox (by rw [e]; trivial)) (fun fl s' q => k fl s' ?_) fun _ _ z => False.elim z
  rw [e] at q
  obtain ⟨ρ', σ', H', I', st, F', z⟩ := q
  exact ⟨ρ', σ', H', I'.unwish, st, F'.ofNox, z⟩
def sFin (mb mf : MS) : MS := fun L h => match mb L h with
  | .ok f L1 h1 => match mf L1 h1 with
    | .ok .nx Lb h2 => .ok f Lb h2
    | _ => .bad
  | _ => .bad
theorem s_fin {body fs : List Stmt} {f0 : Stmt} {mb mf : MS} {pos : Pos} (hb : SB T X.nox cls ex noW body mb) (hf : SB T X.nox cls ex noW (f0 :: fs) mf) : SS T X cls ex W (.Try body [] [] (f0 :: fs) pos) (sFin mb mf) := by
  intro pins s σ H ρ h L I F ew
  unfold sFin at ew ⊢
  cases e : mb L h with
  | err c fs L1 h1 => rw [e] at ew; exact ew.elim
  | bad => rw [e] at ew; exact ew.elim
  | ok f L1 h1 =>
    rw [e] at ew
    simp only at ew ⊢
    cases e2 : mf L1 h1 with
    | err c fs L1 h1 => rw [e2] at ew; exact ew.elim
    | bad => rw [e2] at ew; exact ew.elim
    | ok f2 Lb h2 =>
      rw [e2] at ew
      cases f2 with
      | nx =>
        refine wpAny_Try_finally (nox_run hb I F e fun fl s1 q => ?_)
        obtain ⟨ρ1, σ1, H1, I1, st1, F1, fi⟩ := q
        have fin : ∀ (fl' : Flow), (∀ (ρ2 : Nat → Addr) (H2 : Hp), Step ex ρ1 h1 H1 ρ2 h2 H2 → ∀ (σ2 : L2.St) (s2 : Shared), L2.Inv X pins σ2 H2 s2 → Fm T X cls ρ2 h2 Lb σ2 H2 → SQ T X cls ex pins ρ h H (.ok f Lb h2) fl' s2) → ∀ {E : Value → Shared → Prop},
            wpAny (model X.prog X.w) X.A (execs (f0 :: fs) X.env) (fun g s' => match g with | .next => SQ T X cls ex pins ρ h H (.ok f Lb h2) fl' s' | g => SQ T X cls ex pins ρ h H (.ok f Lb h2) g s') E s1 := fun fl' k {E} => by
          refine nox_run hf I1 F1 e2 fun g s2 q => ?_
          obtain ⟨ρ2, σ2, H2, I2, st2, F2, z⟩ := q
          cases g with
          | next => exact k ρ2 H2 st2 σ2 s2 I2 F2
          | brk => exact z.elim
          | cont => exact z.elim
          | ret u => exact z.elim
        cases f with
        | nx => cases fl with
          | next => exact wpAny_execs_nil (fin .next fun ρ2 H2 st2 σ2 s2 I2 F2 => ⟨ρ2, σ2, H2, I2, st1.trans st2, F2, trivial⟩)
          | brk => exact fi.elim
          | cont => exact fi.elim
          | ret u => exact fi.elim
        | bk => cases fl with
          | brk => exact fin .brk fun ρ2 H2 st2 σ2 s2 I2 F2 => ⟨ρ2, σ2, H2, I2, st1.trans st2, F2, trivial⟩
          | next => exact fi.elim
          | cont => exact fi.elim
          | ret u => exact fi.elim
        | ct => cases fl with
          | cont => exact fin .cont fun ρ2 H2 st2 σ2 s2 I2 F2 => ⟨ρ2, σ2, H2, I2, st1.trans st2, F2, trivial⟩
          | next => exact fi.elim
          | brk => exact fi.elim
          | ret u => exact fi.elim
        | rt a => cases fl with
          | ret u =>
            obtain ⟨v, ru, rv⟩ := fi
            exact fin (.ret u) fun ρ2 H2 st2 σ2 s2 I2 F2 => ⟨ρ2, σ2, H2, I2, st1.trans st2, F2, v, ru, RepV.step st2.wk _ _ rv⟩
          | next => exact fi.elim
          | brk => exact fi.elim
          | cont => exact fi.elim
      | _ => exact ew.elim
/-- a statement that is never come to -/
def sBad : MS := fun _ _ => .bad
theorem s_bad {st : Stmt} : SS T X cls ex W st sBad := fun pins s σ H ρ h L I F ew => ew.elim
theorem b_bad {b : List Stmt} : SB T X cls ex W b sBad := fun pins s σ H ρ h L I F ew => ew.elim

/-! ### new dicts -/
def eD0 : ME := fun _ h => .ok (.ref h.n) (h.new (.dic []))
theorem e_dic0 {pos : Pos} : SE T X cls W (.Dict [] [] pos) eD0 := by
  refine PE.weak pe_dnewK fun σ H Q ⟨ρ, h, L, F, p⟩ => ?_
  exact fun q hq => new_dic (kvs := []) F .nil p hq

/-! ### xs[::-1], list(range(..)) -/
def eRev (m : ME) : ME := fun L h => (m L h).bind fun a h1 => match a with
  | .ref l => match seqOf h1 (.ref l) with
    | some xs => .ok (.ref h1.n) (h1.new (.lst xs.reverse))
    | none => .bad
  | _ => .bad
theorem RepVs.rev {K : PySem.W.Frag} {n : Nat} : ∀ {xs : List A} {vs : List V}, RepVs T K ρ n H xs vs → RepVs T K ρ n H xs.reverse vs.reverse
  | [], _, r => by simp only [RepVs] at r; subst r; rfl
  | x :: xs, _, r => by
    simp only [RepVs] at r
    obtain ⟨y, ys, rfl, r1, r2⟩ := r
    rw [List.reverse_cons, List.reverse_cons]
    exact (RepVs.rev r2).append ⟨y, [], rfl, r1, rfl⟩
theorem e_rev {e : Expr} {m : ME} {k : Nat} {p1 p2 p3 pos : Pos} (he : SE T X cls W e m) : SE T X cls W (.Subscript e (.Slice none none (some (.UnaryOp .USub (.Constant (.int 1) k p1) p2)) p3) pos) (eRev m) := by
  refine PE.weak (pe_revL he) fun σ H Q ⟨ρ, h, L, F, p⟩ => ⟨ρ, h, L, F, ?_⟩
  unfold eRev at p
  refine PostE.bindE p fun a h1 ρ1 H1 v st F1 rv p1 => ?_
  cases a with
  | ref l =>
    have p1 : PostE T X cls W ρ1 h1 H1 σ L Q (match seqOf h1 (.ref l) with
      | some xs => .ok (.ref h1.n) (h1.new (.lst xs.reverse))
      | none => .bad) := p1
    cases es : seqOf h1 (.ref l) with
    | none => rw [es] at p1; exact p1.elim
    | some xs =>
      rw [es] at p1
      obtain ⟨vs, rfl, hq, r⟩ := lref_ok F1 es rv
      exact ⟨_, vs, rfl, hq, fun q hq => new_lst F1 r.rev p1 hq⟩
  | _ => exact p1.elim
def rgL (a b : Int) : List A := (List.range (b - a).toNat).map fun i => A.int (a + (i : Nat))
def rgOk (a b : Int) : Bool := (decide (-B62 ≤ a) && decide (a < B62)) && ((decide (-B62 ≤ b) && decide (b < B62)) && decide ((b - a).toNat ≤ 16777216))
theorem rgOk_ok {a b : Int} (h : rgOk a b = true) : RgOk a b := by
  unfold rgOk at h
  simp only [Bool.and_eq_true, decide_eq_true_eq] at h
  have eb : B62 = 2 ^ 62 := by decide
  rw [eb] at h
  exact ⟨h.1.1, h.1.2, h.2.1.1, h.2.1.2, h.2.2⟩
theorem rg_rep {K : PySem.W.Frag} {n : Nat} {a b : Int} : RepVs T K ρ n H (rgL a b) (rgV a b) := by
  unfold rgL rgV
  generalize List.range (b - a).toNat = l
  induction l with
  | nil => rfl
  | cons i l ih => exact ⟨_, _, rfl, rfl, ih⟩
def rgN (a b : Int) (h : Hq) : Res A := if rgOk a b = true then .ok (.ref h.n) (h.new (.lst (rgL a b))) else .bad
def eLr1 (m : ME) : ME := fun L h => (m L h).bind fun a h1 => match a with
  | .int n => rgN 0 n h1
  | _ => .bad
def eLr2 (m m2 : ME) : ME := fun L h => (m L h).bind fun a h1 => (m2 L h1).bind fun b h2 => match a, b with
  | .int i, .int j => rgN i j h2
  | _, _ => .bad
theorem e_listR1 {a : Expr} {m : ME} {p p2 pos pos2 : Pos} (hc : X.calm = true) (hg : Gl X "list") (hm : X.mg "list" = none) (hg2 : Gl X "range") (hm2 : X.mg "range" = none) (ha : SE T X cls W a m)
    (na : starEach [a] X.env = (false, eval a X.env) :: starEach [] X.env := by rfl) (na2 : starEach [Expr.Call (.Name "range" p2) [a] [] pos2] X.env = (false, eval (Expr.Call (.Name "range" p2) [a] [] pos2) X.env) :: starEach [] X.env := by rfl) :
    SE T X cls W (.Call (.Name "list" p) [.Call (.Name "range" p2) [a] [] pos2] [] pos) (eLr1 m) := by
  refine PE.weak (pe_listRg hc hg hm (prg_1 hg2 hm2 ha na) na2) fun σ H Q ⟨ρ, h, L, F, p⟩ => ⟨ρ, h, L, F, ?_⟩
  unfold eLr1 at p
  refine PostE.bindE p fun a h1 ρ1 H1 v st F1 rv p1 => ?_
  cases a with
  | int n =>
    cases rv
    have p1 : PostE T X cls W ρ1 h1 H1 σ L Q (rgN 0 n h1) := p1
    unfold rgN at p1
    split at p1
    · rename_i hz
      exact ⟨n, rfl, rgOk_ok hz, fun q hq => new_lst F1 rg_rep p1 hq⟩
    · exact p1.elim
  | _ => exact p1.elim
theorem e_listR2 {a b : Expr} {m m2 : ME} {p p2 pos pos2 : Pos} (hc : X.calm = true) (hg : Gl X "list") (hm : X.mg "list" = none) (hg2 : Gl X "range") (hm2 : X.mg "range" = none) (ha : SE T X cls W a m) (hb : SE T X cls W b m2)
    (na : starEach [a, b] X.env = (false, eval a X.env) :: starEach [b] X.env := by rfl) (nb : starEach [b] X.env = (false, eval b X.env) :: starEach [] X.env := by rfl) (hp : (backTo pos2 (starEach [b] X.env)).any (·.1) = false := by rfl)
    (na2 : starEach [Expr.Call (.Name "range" p2) [a, b] [] pos2] X.env = (false, eval (Expr.Call (.Name "range" p2) [a, b] [] pos2) X.env) :: starEach [] X.env := by rfl) :
    SE T X cls W (.Call (.Name "list" p) [.Call (.Name "range" p2) [a, b] [] pos2] [] pos) (eLr2 m m2) := by
  refine PE.weak (pe_listRg hc hg hm (prg_2 hg2 hm2 ha hb na nb hp) na2) fun σ H Q ⟨ρ, h, L, F, p⟩ => ⟨ρ, h, L, F, ?_⟩
  unfold eLr2 at p
  refine PostE.bindE p fun a h1 ρ1 H1 v st F1 rv p1 => ⟨ρ1, h1, L, F1, PostE.bindE p1 fun b h2 ρ2 H2 w st2 F2 rw2 p2 => ?_⟩
  cases a with
  | int i =>
    cases b with
    | int j =>
      cases rv; cases rw2
      have p2 : PostE T X cls W ρ2 h2 H2 σ L Q (rgN i j h2) := p2
      unfold rgN at p2
      split at p2
      · rename_i hz
        exact ⟨i, j, rfl, rfl, rgOk_ok hz, fun q hq => new_lst F2 rg_rep p2 hq⟩
      · exact p2.elim
    | _ => exact p2.elim
  | _ => exact p2.elim
end
end Zk
end
section
set_option Elab.async false
set_option linter.all false
set_option maxRecDepth 100000
/-! Zk24: displays of dicts. -/
namespace Zk
open PySem PySem.Spec PyProof.Rows L2 NdefX LamX

abbrev MP := Lc → Hq → Res (List (Key × A))
def pNil : MP := fun _ h => .ok [] h
def pCons (mk mv : ME) (r : MP) : MP := fun L h => (mk L h).bind fun a h1 => (mv L h1).bind fun b h2 => (r L h2).bind fun kvs h3 => match keyOf a with
  | some k => .ok ((k, b) :: kvs) h3
  | none => .bad
def mergeA (kvs more : List (Key × A)) : List (Key × A) := more.foldl (fun acc kv => putA acc kv.1 kv.2) kvs
def eDisp (mp : MP) : ME := fun L h => (mp L (h.new (.dic []))).bind fun kvs h2 => match h2.get h.n with
  | some (.dic []) => if kvs.length ≤ 15 then .ok (.ref h.n) (h2.upd h.n (.dic (mergeA [] kvs))) else .bad
  | _ => .bad
section
variable {T : Tb} {X : Cx} {cls : List (Option Nat)} {W : WX}
def PostP (T : Tb) (X : Cx) (cls : List (Option Nat)) (W : WX) (ρ : Nat → Addr) (h : Hq) (H : Hp) (σ : L2.St) (loc : Lc) (Q : List (V × V) → Hp → Prop) : Res (List (Key × A)) → Prop
  | .ok kvs h' => ∀ (ρ' : Nat → Addr) (H' : Hp) (ws : List (Key × V)), Step [] ρ h H ρ' h' H' → Fm T X cls ρ' h' loc σ H' → RepKs T X.K ρ' h'.n H' kvs ws → Q (ws.map fun kv => (kV kv.1, kv.2)) H'
  | .err c fs h' => ErrW T X cls W ρ h H σ loc c fs h'
  | .bad => False
theorem PostP.of {ρ ρ1 : Nat → Addr} {h h1 : Hq} {H H1 : Hp} {σ : L2.St} {loc : Lc} (st : Step [] ρ h H ρ1 h1 H1) {Q : List (V × V) → Hp → Prop} {r : Res (List (Key × A))} (p : PostP T X cls W ρ h H σ loc Q r) : PostP T X cls W ρ1 h1 H1 σ loc Q r := by
  cases r with
  | ok a h' => exact fun ρ' H' J s F => p ρ' H' J (st.trans s) F
  | err c fs h' => exact ErrW.of st p
  | bad => exact p
theorem PostP.bindE {ρ : Nat → Addr} {h : Hq} {H : Hp} {σ : L2.St} {loc : Lc} {r : Res A} {f : A → Hq → Res (List (Key × A))} {Q : List (V × V) → Hp → Prop} {Q1 : VK} (p : PostP T X cls W ρ h H σ loc Q (r.bind f))
    (k : ∀ (a : A) (h1 : Hq) (ρ1 : Nat → Addr) (H1 : Hp) (v : V), Step [] ρ h H ρ1 h1 H1 → Fm T X cls ρ1 h1 loc σ H1 → RepV T X.K ρ1 h1.n H1 a v → PostP T X cls W ρ1 h1 H1 σ loc Q (f a h1) → Q1 v H1) :
    PostE T X cls W ρ h H σ loc Q1 r := by
  cases r with
  | ok a h1 => exact fun ρ1 H1 v s F e => k a h1 ρ1 H1 v s F e (PostP.of s p)
  | err c fs h' => exact p
  | bad => exact p
theorem PostP.bindP {ρ : Nat → Addr} {h : Hq} {H : Hp} {σ : L2.St} {loc : Lc} {r : Res (List (Key × A))} {f : List (Key × A) → Hq → Res (List (Key × A))} {Q Q1 : List (V × V) → Hp → Prop} (p : PostP T X cls W ρ h H σ loc Q (r.bind f))
    (k : ∀ (kvs : List (Key × A)) (h1 : Hq) (ρ1 : Nat → Addr) (H1 : Hp) (ws : List (Key × V)), Step [] ρ h H ρ1 h1 H1 → Fm T X cls ρ1 h1 loc σ H1 → RepKs T X.K ρ1 h1.n H1 kvs ws → PostP T X cls W ρ1 h1 H1 σ loc Q (f kvs h1) → Q1 (ws.map fun kv => (kV kv.1, kv.2)) H1) :
    PostP T X cls W ρ h H σ loc Q1 r := by
  cases r with
  | ok a h1 => exact fun ρ1 H1 v s F e => k a h1 ρ1 H1 v s F e (PostP.of s p)
  | err c fs h' => exact p
  | bad => exact p
theorem PostE.bindP {ρ : Nat → Addr} {h : Hq} {H : Hp} {σ : L2.St} {loc : Lc} {r : Res (List (Key × A))} {f : List (Key × A) → Hq → Res A} {Q : VK} {Q1 : List (V × V) → Hp → Prop} (p : PostE T X cls W ρ h H σ loc Q (r.bind f))
    (k : ∀ (kvs : List (Key × A)) (h1 : Hq) (ρ1 : Nat → Addr) (H1 : Hp) (ws : List (Key × V)), Step [] ρ h H ρ1 h1 H1 → Fm T X cls ρ1 h1 loc σ H1 → RepKs T X.K ρ1 h1.n H1 kvs ws → PostE T X cls W ρ1 h1 H1 σ loc Q (f kvs h1) → Q1 (ws.map fun kv => (kV kv.1, kv.2)) H1) :
    PostP T X cls W ρ h H σ loc Q1 r := by
  cases r with
  | ok a h1 => exact fun ρ1 H1 v s F e => k a h1 ρ1 H1 v s F e (PostE.of s p)
  | err c fs h' => exact p
  | bad => exact p
structure PPOk (T : Tb) (X : Cx) (cls : List (Option Nat)) (W : WX) (pos : Pos) (keys : List (Option Expr)) (values : List Expr) (trs : List (TE × TE)) (mp : MP) : Prop where
  pp : PPs X pos keys values trs
  go : ∀ (ρ : Nat → Addr) (h : Hq) (H : Hp) (σ : L2.St) (L : Lc) (Q : List (V × V) → Hp → Prop), Fm T X cls ρ h L σ H → PostP T X cls W ρ h H σ L Q (mp L h) → tPairs trs σ H Q
theorem pp_nil {pos : Pos} : PPOk T X cls W pos [] [] [] pNil := ⟨pps_nil, fun ρ h H σ L Q F p => p ρ H [] F.refl F .nil⟩
theorem pp_cons {pos : Pos} {k v : Expr} {ks : List (Option Expr)} {vs : List Expr} {trs : List (TE × TE)} {mk mv : ME} {r : MP} (hk : SE T X cls W k mk) (hv : SE T X cls W v mv) (hr : PPOk T X cls W pos ks vs trs r) :
    PPOk T X cls W pos (some k :: ks) (v :: vs) ((rdE T X cls W mk, rdE T X cls W mv) :: trs) (pCons mk mv r) := by
  refine ⟨pps_cons hk hv hr.pp, fun ρ h H σ L Q F p => ?_⟩
  unfold pCons at p
  refine ⟨ρ, h, L, F, PostP.bindE p fun a h1 ρ1 H1 x st1 F1 r1 p1 => ⟨ρ1, h1, L, F1, PostP.bindE p1 fun b h2 ρ2 H2 y st2 F2 r2 p2 => hr.go ρ2 h2 H2 σ L _ F2 (PostP.bindP p2 fun kvs h3 ρ3 H3 ws st3 F3 r3 p3 => ?_)⟩⟩
  cases ek : keyOf a with
  | none => rw [ek] at p3; exact p3.elim
  | some k' =>
    rw [ek] at p3
    have := p3 ρ3 H3 ((k', y) :: ws) F3.refl F3 (.cons ⟨rfl, RepV.step st3.wk _ _ r2⟩ r3)
    rw [key_rep ek r1]
    exact this
theorem RepKs.merge {K : PySem.W.Frag} {ρ : Nat → Addr} {n : Nat} {H : Hp} : ∀ {more : List (Key × A)} {ms : List (Key × V)} {kvs : List (Key × A)} {ws : List (Key × V)}, RepKs T K ρ n H more ms → RepKs T K ρ n H kvs ws → RepKs T K ρ n H (mergeA kvs more) (mergeK ws ms)
  | _, _, _, _, .nil, r => r
  | (k1, a) :: more, (k2, v) :: ms, kvs, ws, .cons q t, r => by
    obtain ⟨e, ra⟩ := q
    simp only at e ra
    subst e
    exact RepKs.merge (more := more) (ms := ms) (kvs := putA kvs k1 a) (ws := putK ws k1 v) t (r.put ra)
theorem e_disp {pos : Pos} {keys : List (Option Expr)} {values : List Expr} {trs : List (TE × TE)} {mp : MP} (h : PPOk T X cls W pos keys values trs mp) (hall : keys.all (·.isSome) = true) (hl : keys.length = values.length) (h0 : keys ≠ [])
    (h15 : keys.length ≤ 15) : SE T X cls W (.Dict keys values pos) (eDisp mp) := by
  refine PE.weak (pe_disp h.pp hall hl h0 h15) fun σ H Q ⟨ρ, hq, L, F, p⟩ => ?_
  intro D hD
  unfold eDisp at p
  have st2 := step_new (ρ := ρ) (h := hq) (H := H) (u := .dK []) (o := .dic []) (fun _ _ => F.lt) hD rfl
  have F2 : Fm T X cls (put1 ρ hq.n D) (hq.new (.dic [])) L σ (upd H D (.dK [])) := F.new hD rfl ⟨[], upd_same, .nil⟩
  have eD : put1 ρ hq.n D hq.n = D := put1_same
  have lt0 : hq.n < (hq.new (.dic [])).n := Nat.lt_succ_self _
  refine h.go _ _ _ σ L _ F2 (PostE.bindP (PostE.of st2 p) fun kvs h3 ρ3 H3 ws st3 F3 r3 p3 => ?_)
  have e3 : ρ3 hq.n = D := by rw [st3.ext _ lt0, eD]
  cases eo : h3.get hq.n with
  | none => rw [eo] at p3; exact p3.elim
  | some o =>
    rw [eo] at p3
    cases o with
    | dic ks =>
      cases ks with
      | cons _ _ => exact p3.elim
      | nil =>
        simp only at p3
        split at p3
        · rename_i hz
          obtain ⟨acc, ea, ra⟩ := F3.rep eo rfl
          cases ra
          rw [e3] at ea
          obtain ⟨F4, st4⟩ := F3.write (u0 := .dK []) (u := .dK (mergeK [] ws)) (o := .dic (mergeA [] kvs)) eo rfl rfl (by rw [e3]; exact ea) (fun z => z) (fun _ z => nomatch z) fun wk => ⟨_, upd_same, RepKs.merge (RepKs.step wk r3) .nil⟩
          rw [e3] at F4 st4
          refine ⟨ea, ws, rfl, by rw [← r3.len]; exact hz, p3 ρ3 _ _ st4 F4 ?_⟩
          simp only [RepV]
          exact ⟨by rw [e3], Nat.lt_of_lt_of_le lt0 st3.le⟩
        · exact p3.elim
    | _ => exact p3.elim
end
end Zk
end
section
set_option Elab.async false
set_option linter.all false
set_option maxRecDepth 100000
/-! Zk25: tuple(d.values()). -/
namespace Zk
open PySem PySem.Spec PyProof.Rows L2 NdefX LamX
open Sem (wp)
open AutoSeq1 (wpAny_loadPart')

section
variable {prog : Program} {w : World} {A : Around} {E : Value → Shared → Prop} {s : Shared} {T : String} {r d : Addr} {n : Nat} {Pv : Nat → Value → Prop} {OK : Heap → Prop}
theorem collect_src {Q : List Value → Shared → Prop} (K : PySem.W.KdlSrc prog w T r d n Pv OK) (hh : A.handled = none) (hok : OK s.heap) (hn : n ≤ sizeLine)
    (hQ : ∀ h' tk acc, (∀ b o, s.heap.get? b = some o → h'.get? b = some o) → ItemsOf Pv acc n → Q acc.toList { s with heap := h', toks := tk }) : wpAny (model prog w) A (collect (.ref r)) Q E s := by
  unfold collect
  refine wpAny_bind (wpAny_runValue (codeAny_builtin F.entry_proto_collect (?_)))
  rw [Around.under_plainId F.plain_proto_collect]
  show wpAny _ A.in1 (newList [] >>= fun l => again (.builtin "list.__iadd__" ⟨[l, .ref r], []⟩)) _ _ s
  refine wpAny_bind (wpAny_newObj_type (wpAny_pure ⟨plainId_quiet F.plain_list_iadd _, codeAny_builtin F.entry_list_iadd ?_⟩))
  rw [Around.under_plainId F.plain_list_iadd]
  have lt := K.there _ hok
  have kp : ∀ b o, s.heap.get? b = some o → (s.heap.push { cls := .type "list", data := .seq ([] : List Value).toArray }).get? b = some o := fun b o e => Heap.get?_push_of_some _ e
  have hok2 : OK (s.heap.push { cls := .type "list", data := .seq ([] : List Value).toArray }) := K.keep _ _ hok fun b _ o e => kp b o e
  show wpAny _ A.in1 (Builtin.List.listExtendWith (.ref s.heap.objs.size) (.ref r) (.ref s.heap.objs.size)) _ _ _
  refine PySem.W.kdl_extend (R := fun r s' => match r with
    | .ok (.ret v) => wpAny (model prog w) A (match v with
      | .ref a => (do let o ← load a; match o.data with | .seq xs _ => pure xs.toList | _ => unsupported "internal:collect")
      | _ => unsupported "internal:collect") Q E s'
    | .ok _ => False
    | .error e => E e s') (s := { s with heap := s.heap.push { cls := .type "list", data := .seq ([] : List Value).toArray } }) K hh hok2 s.heap.objs.size (Nat.ne_of_gt lt.1) (Nat.ne_of_gt lt.2) _ 0 (Heap.get?_push_size _ rfl) (fun h' tk acc c hk hS hacc => ?_) hn
  show wpAny _ A (load s.heap.objs.size >>= _) _ _ _
  refine wpAny_bind (wpAny_load hS (wpAny_pure (hQ h' tk acc (fun b o e => hk b o (Nat.ne_of_lt (Heap.lt_size e)) (kp b o e)) hacc)))
theorem code_tuple_src {Q₁ : Value → Shared → Prop} (K : PySem.W.KdlSrc prog w "dict_values" r d n Pv OK) (hh : A.handled = none) (hok : OK s.heap) (hn : n ≤ sizeLine)
    (h : ∀ (h' : Heap) (tk : Nat) (acc : Array Value), (∀ b o, s.heap.get? b = some o → h'.get? b = some o) → ItemsOf Pv acc n → Q₁ (.ref h'.objs.size) { s with heap := h'.push { cls := .type "tuple", data := .seq acc }, toks := tk }) :
    codeAny (model prog w) A (.call (.builtin "tuple.__new__") ⟨[.type "tuple", .ref r], []⟩) (wants Q₁ E) s := by
  refine codeAny_of_tree (show wpAny _ A.in1 (do checkBuiltinCall "tuple.__new__" ⟨[.type "tuple", .ref r], []⟩; again (.builtin "tuple.__new__" ⟨[.type "tuple", .ref r], []⟩)) _ _ s from ?_)
  refine wpAny_bind (wpAny_of_eq (F.newCall_tuple_1 _) (wpAny_pure ⟨plainId_quiet F.plain_tuple_new _, codeAny_builtin F.entry_tuple_new (?_)⟩))
  rw [Around.under_plainId F.plain_tuple_new]
  have hsub := sub_tuple_self; have hinit := init_tuple_lookup; have hmh := madeHere_tuple
  have hTI := K.type s hok
  have hh2 : A.in1.handled = none := hh
  wp_walk using wpAny_typeOf hTI, collect_src K hh2 hok hn
  intro h' tk acc hk hacc
  show wpAny _ _ (Builtin.Tuple.tupleExact acc.toList.toArray >>= fun v => ret v) _ _ _
  have e : acc.toList.toArray = acc := by simp
  rw [e]
  unfold Builtin.Tuple.tupleExact
  exact wpAny_bind (wpAny_newObj_type (wpAny_pure (h h' tk acc hk hacc)) (by show acc.size ≤ sizeLine; rw [hacc.1]; exact hn))
theorem call_tuple_src {Q : Value → Shared → Prop} (K : PySem.W.KdlSrc prog w "dict_values" r d n Pv OK) (hh : A.handled = none) (hok : OK s.heap) (hn : n ≤ sizeLine)
    (h : ∀ (h' : Heap) (tk : Nat) (acc : Array Value), (∀ b o, s.heap.get? b = some o → h'.get? b = some o) → ItemsOf Pv acc n → Q (.ref h'.objs.size) { s with heap := h'.push { cls := .type "tuple", data := .seq acc }, toks := tk }) : wpAny (model prog w) A (call (.type "tuple") [.ref r]) Q E s := by
  have hh1 : A.in1.handled = none := hh
  refine callType_codes (Q₁ := fun ob s₁ => s₁.TypeIs ob "tuple" ∧ Q ob s₁) F.called_tuple (F.typeCall_tuple_1 _) F.entry_object_init (code_tuple_src K hh1 hok hn fun h' tk acc hk hacc => ⟨⟨_, Heap.get?_push_size _ rfl, rfl⟩, h h' tk acc hk hacc⟩) fun ob s₁ z => ?_
  exact ⟨z.1, F.args_object_init_2 ob _, object_init_meets F.called_tuple.init.lookup F.called_tuple.made (by decide) prog w A.in1 _ s₁ ⟨z.1, rfl, z.2⟩⟩
end
theorem vals_snd : ∀ {kvs : List (Key × V)} {vs : List (Key × Value)}, KV kvs vs → Vals (kvs.map (·.2)) (vs.map (·.2))
  | _, _, .nil => .nil
  | _ :: _, _ :: _, .cons q t => .cons q.2 (vals_snd t)
theorem items_snd {vs : List (Key × Value)} {acc : Array Value} (h : ItemsOf (fun i v => ∃ k, vs[i]? = some (k, v)) acc vs.length) : acc.toList = vs.map (·.2) := by
  refine List.ext_getElem? fun i => ?_
  rw [Array.getElem?_toList, List.getElem?_map]
  cases e : acc[i]? with
  | none =>
    have z : vs.length ≤ i := by rw [← h.1]; exact Array.getElem?_eq_none_iff.mp e
    rw [List.getElem?_eq_none z]; rfl
  | some v =>
    obtain ⟨k, q⟩ := h.2 i v e
    rw [q]; rfl
section
variable {X : Cx} {e : Expr} {te : TE} {p apos cpos pos : Pos}
def tTupV (te : TE) : TE := fun σ H Q => te σ H fun x H1 => ∃ d kvs, x = .ref d ∧ H1 d = some (.dK kvs) ∧ ∀ q, H1 q = none → Q (.ref q) (upd H1 q (.tup (kvs.map (·.2))))
theorem pe_tupV (hc : X.calm = true) (he : PE X e te) (hg : Gl X "tuple") (hm : X.mg "tuple" = none) (hbase : attributeBase e "values" X.env (eval e X.env) = eval e X.env := by rfl) (hline : (apos.endLine == cpos.line) = true := by rfl)
    (na : starEach [Expr.Call (.Attribute e "values" apos) [] [] cpos] X.env = (false, eval (Expr.Call (.Attribute e "values" apos) [] [] cpos) X.env) :: starEach [] X.env := by rfl) :
    PE X (.Call (.Name "tuple" p) [.Call (.Attribute e "values" apos) [] [] cpos] [] pos) (tTupV te) := by
  refine ⟨fun pins s σ H Q I h => Call_ (ld_blt I hg hm boot_tuple (PyProof.Rows.callWith_type1 (args_cons ?_ na) na))⟩
  refine wpAny_Call_method (T := "dict") (id := "dict.values") hbase rfl hline F.plainAttrs_dict F.slot_dict_values F.type_dict_values (thn (he.run pins s σ H _ I h) fun u s1 ⟨x, H1, I1, rx, d, kvs, ex, hd, q⟩ => ?_)
  subst ex
  obtain rfl : u = Value.ref d := rx
  obtain ⟨hz, hs0, vs, kv, dof⟩ := dk_of I1.hok hd
  obtain ⟨ep, hat⟩ := dof.dictAt
  have lk : kvs.length = vs.length := Paired.length kv
  refine ⟨dof.typeIs, dof.mapOf.noDict, ?_⟩
  have push : ∀ b ob, s1.heap.get? b = some ob → (s1.heap.push { cls := .type "dict_values", data := .fields #[.ref d] }).get? b = some ob := fun b ob q => Heap.get?_push_of_some _ q
  show wpAny _ _ (callWith cpos (.builtin "dict.values") [.ref d] [] []) _ X.xe s1
  refine method_meetsIn F.slot_dict_values F.entry_dict_values rfl (PySem.evalArgs_none ⟨rfl, dof.typeIs, F.args_dict_values_1 _, _, meets_dict_values (mixKind X.prog X.w) d hs0, ⟨vs, dof⟩, args_nil ?_⟩)
  refine call_tuple_src (s := { s1 with heap := s1.heap.push { cls := .type "dict_values", data := .fields #[.ref d] } }) (PySem.W.kdl_values (knd := mixKind X.prog X.w) (r := s1.heap.objs.size) (d := d) (kvs := vs) (ep := ep)) (I1.ok.hd hc) ⟨⟨_, Heap.get?_push_size _ rfl, rfl, rfl⟩, hat.push _⟩ (by omega) fun h' tk acc hk hacc => ?_
  have I2 : Inv X pins σ H1 { s1 with heap := h', toks := tk } := I1.kept (t' := tk) fun b ob q => hk b ob (push b ob q)
  have I3 : Inv X pins σ (upd H1 h'.objs.size (.tup (kvs.map (·.2)))) { s1 with heap := h'.push { cls := .type "tuple", data := .seq acc }, toks := tk } := by
    refine I2.laid (t' := tk) (fun b o e => Heap.get?_push_of_some _ e) (Nat.le_refl _) (show ObjOk X.prog X.w _ _ _ (.tup _) from ⟨by rw [List.length_map]; exact hz, acc.toList, by rw [items_snd hacc]; exact vals_snd kv, ?_⟩)
    have ea : acc = acc.toList.toArray := by simp
    exact ⟨_, Heap.get?_push_size _ rfl, rfl, _, by rw [← ea]⟩
  exact ⟨.ref h'.objs.size, _, I3, rfl, q _ (I2.hok.fresh (Nat.le_refl _))⟩
def eTupV (m : ME) : ME := fun L h => (m L h).bind fun a h1 => match a with
  | .ref l => match h1.get l with
    | some (.dic kvs) => .ok (.tup (kvs.map (·.2))) h1
    | _ => .bad
  | _ => .bad
theorem RepKs.snd {T : Tb} {K : PySem.W.Frag} {ρ : Nat → Addr} {n : Nat} {H : Hp} : ∀ {kvs : List (Key × A)} {ws : List (Key × V)}, RepKs T K ρ n H kvs ws → RepVs T K ρ n H (kvs.map (·.2)) (ws.map (·.2))
  | _, _, .nil => rfl
  | _ :: _, _ :: _, .cons q t => ⟨_, _, rfl, q.2, RepKs.snd t⟩
theorem e_tupV {T : Tb} {cls : List (Option Nat)} {W : WX} {m : ME} (hc : X.calm = true) (he : SE T X cls W e m) (hg : Gl X "tuple") (hm : X.mg "tuple" = none) (hbase : attributeBase e "values" X.env (eval e X.env) = eval e X.env := by rfl) (hline : (apos.endLine == cpos.line) = true := by rfl)
    (na : starEach [Expr.Call (.Attribute e "values" apos) [] [] cpos] X.env = (false, eval (Expr.Call (.Attribute e "values" apos) [] [] cpos) X.env) :: starEach [] X.env := by rfl) :
    SE T X cls W (.Call (.Name "tuple" p) [.Call (.Attribute e "values" apos) [] [] cpos] [] pos) (eTupV m) := by
  refine PE.weak (pe_tupV hc he hg hm hbase hline na) fun σ H Q ⟨ρ, h, L, F, p⟩ => ⟨ρ, h, L, F, ?_⟩
  unfold eTupV at p
  refine PostE.bindE p fun a h1 ρ1 H1 v st F1 rv p1 => ?_
  cases a with
  | ref l =>
    have p1 : PostE T X cls W ρ1 h1 H1 σ L Q (match h1.get l with
      | some (.dic kvs) => .ok (.tup (kvs.map (·.2))) h1
      | _ => .bad) := p1
    cases eo : h1.get l with
    | none => rw [eo] at p1; exact p1.elim
    | some o =>
      rw [eo] at p1
      cases o with
      | dic kvs =>
        obtain ⟨ws, rfl, hd, r⟩ := dic_ok F1 eo rv
        exact ⟨_, ws, rfl, hd, fun q hq => new_tup F1 r.snd p1 hq⟩
      | _ => exact p1.elim
  | _ => exact p1.elim
end
end Zk
end
section
set_option Elab.async false
set_option linter.all false
set_option maxRecDepth 100000
/-! Zk26: how arguments come to parameters. -/
namespace Zk
open PySem PySem.Spec PyProof.Rows L2 NdefX LamX

def bdKw (n : Nat) (ns : List Nat) (as : List A) (ka : List (Nat × A)) : Option (List A) := if as.length = n ∧ ka.map (·.1) = ns then some (as ++ ka.map (·.2)) else none
def bdStar (n : Nat) (as : List A) (ka : List (Nat × A)) : Option (List A) := match ka with
  | [] => if n ≤ as.length ∧ as.length ≤ SZ then some (as.take n ++ [.tup (as.drop n)]) else none
  | _ => none
def bdOr (b1 b2 : List A → List (Nat × A) → Option (List A)) (as : List A) (ka : List (Nat × A)) : Option (List A) := match b1 as ka with
  | some x => some x
  | none => b2 as ka
section
variable {T : Tb} {P : Program} {w : World} {K : PySem.W.Frag} {mg : Str → Option Value} {fd : FuncData} {ps : List Str} {base : Heap} {ρ : Nat → Addr} {h : Hq} {H : Hp}
theorem bo_or {b1 b2 : List A → List (Nat × A) → Option (List A)} (h1 : BOk T P w K mg fd ps b1) (h2 : BOk T P w K mg fd ps b2) : BOk T P w K mg fd ps (bdOr b1 b2) := by
  intro base B outer s H us vs as ku kv ka ρ h as' e0 r rv kr kf R eb
  unfold bdOr at eb
  cases e : b1 as ka with
  | some x => rw [e] at eb; exact h1 base B outer s H us vs as ku kv ka ρ h as' e0 r rv kr kf R (e.trans eb)
  | none => rw [e] at eb; exact h2 base B outer s H us vs as ku kv ka ρ h as' e0 r rv kr kf R eb
theorem kw_split : ∀ {ka : List (Nat × A)} {kv : List (Str × V)} {ku : List (Str × Value)} {n : Nat}, RepFs T K ρ n H ka kv → KV kv ku → ∃ (vs : List V) (ws : List Value), ku = ((ka.map (·.1)).map T.nm).zip ws ∧ ws.length = ka.length ∧ Vals vs ws ∧ RepVs T K ρ n H (ka.map (·.2)) vs
  | [], _, _, _, .nil, .nil => ⟨[], [], rfl, rfl, .nil, rfl⟩
  | (i, a) :: ka, (x, v) :: kv, (y, u) :: ku, n, .cons q t, .cons q' t' => by
    obtain ⟨e1, r⟩ := q
    obtain ⟨e2, r'⟩ := q'
    simp only at e1 r e2 r'
    subst e1 e2
    obtain ⟨vs, ws, rfl, hl, r1, r2⟩ := kw_split t t'
    exact ⟨v :: vs, u :: ws, rfl, by rw [List.length_cons, List.length_cons, hl], .cons r' r1, ⟨v, vs, rfl, r, r2⟩⟩
theorem RepA.refl (R : RepA T K base ρ h H) : Step [] ρ h H ρ h H := ⟨fun _ _ => rfl, Nat.le_refl _, fun _ _ e _ => e, fun _ _ _ _ => Iff.rfl, fun l x hl _ e => absurd (Nat.lt_of_lt_of_le (R.obj l _ e).1 hl) (Nat.lt_irrefl _)⟩
theorem bo_kw {n : Nat} {ns : List Nat} (hb : ∀ us ws : List Value, us.length = n → ws.length = ns.length → bindArgs fd ⟨us, (ns.map T.nm).zip ws⟩ = pure (ps.zip (us ++ ws))) (hl : ps.length = n + ns.length) : BOk T P w K mg fd ps (bdKw n ns) := by
  intro base B outer s H us vs as ku kv ka ρ h as' e0 r rv kr kf R eb B' Ex Q k
  unfold bdKw at eb
  split at eb
  · rename_i hz
    cases eb
    obtain ⟨ws, wu, rfl, hw, r1, r2⟩ := kw_split kf kr
    have hn : ka.length = ns.length := by rw [← hz.2, List.length_map]
    have hu : us.length = n := by rw [← r.length, RepVs.length rv]; exact hz.1
    rw [hz.2, hb us wu hu (hw.trans hn)]
    refine wpAny_pure (k s H (vs ++ ws) (us ++ wu) e0 (fun _ _ e => e) rfl Un.refl (r.append r1) ?_ R.refl R (rv.append r2))
    rw [List.length_append, hl, RepVs.length rv, RepVs.length r2, List.length_map, hn, hz.1]
  · cases eb
/-- every parameter by its place -/
theorem bo_pos {n : Nat} (hb : ∀ us : List Value, us.length = n → bindArgs fd ⟨us, []⟩ = pure (ps.zip us)) (hl : ps.length = n) : BOk T P w K mg fd ps (bdKw n []) :=
  bo_kw (fun us ws l1 l2 => by
    have e : ws = [] := List.length_eq_zero_iff.mp l2
    subst e
    rw [List.append_nil]
    exact hb us l1) (by rw [hl] <;> rfl)
theorem RepA.aux (R : RepA T K base ρ h H) {p : Addr} {u : HO} (hp : H p = none) : RepA T K base ρ h (upd H p u) ∧ Step [] ρ h H ρ h (upd H p u) := by
  have st : Step [] ρ h H ρ h (upd H p u) := step_tup (fun l x e => (R.obj l x e).1) hp
  have up : ∀ b o, H b = some o → upd H p u b = some o := fun b o e => by rw [upd_ne (ne_of_none e hp)]; exact e
  exact ⟨⟨fun l o e => ⟨(R.obj l o e).1, RepO.stay st.wk (fun v z => up _ _ z) (R.obj l o e).2⟩, R.inj, fun q hq => TabN.keeps (R.tab q hq) fun b o e _ => up b o e⟩, st⟩
theorem RepVs.split : ∀ (i : Nat) {xs : List A} {vs : List V} {n : Nat}, RepVs T K ρ n H xs vs → RepVs T K ρ n H (xs.take i) (vs.take i) ∧ RepVs T K ρ n H (xs.drop i) (vs.drop i)
  | 0, _, _, _, r => ⟨rfl, r⟩
  | i + 1, [], _, _, r => by simp only [RepVs] at r; subst r; exact ⟨rfl, rfl⟩
  | i + 1, x :: xs, _, n, r => by
    simp only [RepVs] at r
    obtain ⟨y, ys, rfl, r1, r2⟩ := r
    obtain ⟨q1, q2⟩ := RepVs.split i r2
    exact ⟨⟨y, _, rfl, r1, q1⟩, q2⟩
theorem vals_cut : ∀ (i : Nat) {vs : List V} {us : List Value}, Vals vs us → Vals (vs.take i) (us.take i) ∧ Vals (vs.drop i) (us.drop i)
  | 0, _, _, r => ⟨.nil, r⟩
  | i + 1, _, _, .nil => ⟨.nil, .nil⟩
  | i + 1, _, _, .cons q t => let ⟨a, b⟩ := vals_cut i t; ⟨.cons q a, b⟩
/-- the last parameter takes what is left over -/
theorem bo_star {pv : Str} {n : Nat} (hb : ∀ us rest : List Value, us.length = ps.length → bindArgs fd ⟨us ++ rest, []⟩ = (newTuple rest >>= fun t => pure (ps.zip us ++ [(pv, t)]))) (hn : ps.length = n) : BOk T P w K mg fd (ps ++ [pv]) (bdStar n) := by
  intro base B outer s H us vs as ku kv ka ρ h as' e0 r rv kr kf R eb B' Ex Q k
  unfold bdStar at eb
  cases kf with
  | cons _ _ => cases eb
  | nil =>
    cases kr
    simp only at eb
    split at eb
    · rename_i hz
      cases eb
      have l1 : as.length = us.length := (RepVs.length rv).symm.trans r.length
      have eu : us = us.take n ++ us.drop n := (List.take_append_drop n us).symm
      have lt : (us.take n).length = ps.length := by rw [List.length_take]; omega
      have hp : H s.heap.objs.size = none := e0.hok.fresh (Nat.le_refl _)
      obtain ⟨r1, r2⟩ := vals_cut n r
      obtain ⟨v1, v2⟩ := RepVs.split n rv
      obtain ⟨R2, st⟩ := R.aux (u := .tup (vs.drop n)) hp
      have hd : (us.drop n).length ≤ sizeLine := by rw [List.length_drop, ← sz_eq]; omega
      have hv : (vs.drop n).length ≤ sizeLine := by rw [r2.length]; exact hd
      have new : ObjOk P w (upd H s.heap.objs.size (.tup (vs.drop n))) (s.heap.push ({ cls := .type "tuple", data := .seq (us.drop n).toArray } : Obj)) s.heap.objs.size (.tup (vs.drop n)) := ⟨hv, us.drop n, r2, ⟨_, Heap.get?_push_size _ rfl, rfl, _, rfl⟩⟩
      rw [eu, hb _ _ lt]
      refine wpAny_bind (wpAny_newTuple (wpAny_pure ?_) hd)
      have z := k _ _ (vs.take n ++ [V.ref s.heap.objs.size]) (us.take n ++ [Value.ref s.heap.objs.size]) (StX.env0_laid e0 new) (fun b o e => Heap.get?_push_of_some _ e) rfl (StX.un_laid hp) (r1.append (.cons rfl .nil))
        (by rw [List.length_append, List.length_append, r1.length, lt] <;> rfl) st R2 ((RepVs.step st.wk _ _ v1).append ⟨_, [], rfl, by simp only [RepV]; exact ⟨_, _, rfl, SqT.of upd_same, RepVs.step st.wk _ _ v2⟩, rfl⟩)
      rw [List.zip_append lt.symm] at z
      exact z
    · cases eb
end
end Zk
end
section
set_option Elab.async false
set_option linter.all false
set_option maxRecDepth 100000
/-! Zk27: enumerate of a tuple. -/
namespace Zk
open PySem PySem.Spec PyProof.Rows L2 NdefX LamX
open Sem (wp)
open AutoSeq1 (wpAny_loadPart')

theorem meets_enumT (l : Addr) (items : Array Value) (n : Nat) (dct : Option Addr) (sl : Array (Option Value)) :
    Meets (Builtin.«enumerate.__new__» ⟨[.type "enumerate", .ref l], []⟩) (fun _ R s => s.heap.get? l = some { cls := .type "tuple", dict := dct, data := .seq items n, slots := sl } ∧
      R (.ok (.ret (.ref (s.heap.push { cls := .type "tuple_iterator", data := .fields #[.ref l, .int 0 0] }).objs.size)))
        { s with heap := (s.heap.push { cls := .type "tuple_iterator", data := .fields #[.ref l, .int 0 0] }).push { cls := .type "enumerate", data := .fields #[.none, .bool false, .ref s.heap.objs.size, rawInt 0, .none, .none] } }) :=
  .of_wp fun prog w A R s ⟨hl, h⟩ => by
    obtain ⟨hp, g, d, tk, os⟩ := s
    have hsub := sub_enumerate; have hL : Heap.IsTuple (Shared.heap ⟨hp, g, d, tk, os⟩) l items := ⟨_, hl, rfl, n, rfl⟩
    wp_walk using wpAny_loadPart' hl
    refine wpAny_stack_any fun st => wpAny_pure ?_
    split
    · rename_i c _ _ _ _ _
      cases (c == Value.type "enumerate")
      · wp_walk using wpAny_loadPart' hl, wpAny_pyIter_tuple hL
        exact ⟨_, rfl, h⟩
      · wp_walk using wpAny_loadPart' hl, wpAny_pyIter_tuple hL
        exact ⟨_, rfl, h⟩
    · wp_walk using wpAny_loadPart' hl, wpAny_pyIter_tuple hL
      exact ⟨_, rfl, h⟩
section
variable {prog : Program} {w : World} {A : Around} {E : Value → Shared → Prop} {s : Shared}
theorem call_enumT {l : Addr} {items : Array Value} {Q : Value → Shared → Prop} (hL : s.heap.IsTuple l items)
    (h : ∀ h', IsEnum h' (s.heap.objs.size + 1) s.heap.objs.size 0 .none → h'.IsTupleIter s.heap.objs.size l 0 → h'.objs.size = s.heap.objs.size + 2 → (∀ b o, s.heap.get? b = some o → h'.get? b = some o) → Q (.ref (s.heap.objs.size + 1)) { s with heap := h' }) :
    wpAny (model prog w) A (call (.type "enumerate") [.ref l]) Q E s := by
  obtain ⟨⟨c, dct, dt, sl⟩, hl, hc, n, hd⟩ := hL
  obtain rfl : c = .type "tuple" := hc
  obtain rfl : dt = .seq items n := hd
  refine callType_new F.called_enumerate (by decide) (F.typeCall_enumerate_1 _) (F.newCall_enumerate_1 _) (fun ob => F.args_object_init_2 ob _) F.entry_enumerate_new (meets_enumT l items n dct sl) ⟨hl, ?_⟩
  generalize hp : s.heap.push { cls := .type "tuple_iterator", data := .fields #[.ref l, .int 0 0] } = h1
  have hz : h1.objs.size = s.heap.objs.size + 1 := by rw [← hp]; exact Heap.size_push ..
  have hi : h1.get? s.heap.objs.size = some { cls := .type "tuple_iterator", data := .fields #[.ref l, .int 0 0] } := by rw [← hp]; exact Heap.get?_push_size _ rfl
  have he := Heap.get?_push_size h1 (o := { cls := .type "enumerate", data := .fields #[.none, .bool false, .ref s.heap.objs.size, rawInt 0, .none, .none] }) rfl
  show _ ∧ _
  rw [hz] at he ⊢
  exact ⟨⟨_, he, rfl⟩, h _ he ⟨_, Heap.get?_push_of_some _ hi, rfl, rfl⟩ (by rw [Heap.size_push, hz]) fun b o x => Heap.get?_push_of_some _ (by rw [← hp]; exact Heap.get?_push_of_some _ x)⟩
theorem enumT_end {e it t : Addr} {i : Nat} {j : Int} {items : Array Value} {old : Value} {Q : Option Value → Shared → Prop} (hh : A.handled = none) (he : IsEnum s.heap e it j old) (hit : s.heap.IsTupleIter it t i) (ht : s.heap.IsTuple t items) (hx : items[i]? = none)
    (hQ : ∀ h', Heap.ExtBut it s.heap h' → Q none { s with heap := h' }) : wpAny (model prog w) A (pyNext (.ref e)) Q E s := by
  have hT : s.TypeIs (.ref e) "enumerate" := ⟨_, he, rfl⟩
  unfold pyNext
  refine wpAny_bind (wpAny_attempt (wpAny_callSpecial?_slot (name := Str.ofString "__next__") hT F.slot_enumerate_next (wpAny_call_entry F.slot_enumerate_next hT F.entry_enumerate_next (show wpAny _ _ (field (.ref e) 2 >>= _) _ _ _ from ?_) (F.args_enumerate_next_1 _))))
  refine wpAny_bind (wpAny_field he rfl (x := .ref it) rfl (wpAny_bind (wpAny_nextOf_tuple_end (show A.in1.handled = none from hh) hit ht hx fun h' x he' hx' => ?_)))
  obtain ⟨o, ho, hc⟩ := hx'
  exact wpAny_bind (wpAny_isInstance (T := "StopIteration") (b := true) ⟨o, ho, hc⟩ isSubtype_stop (wpAny_pure (hQ _ he')))
end
/-- the tuple at t, each item in a new pair -/
def Jet (K : PySem.W.Frag) (t : Addr) : It :=
  ⟨fun i H => ∃ (xs : List V) (x : V), SqT K H t xs ∧ xs[i]? = some x, fun i H v H' => ∃ q x, v = .ref q ∧ H q = none ∧ H' = upd H q (.tup [.int (i : Nat), x]) ∧ ∀ xs, SqT K H t xs → xs[i]? = some x, fun i H => ∃ xs : List V, SqT K H t xs ∧ xs.length ≤ i⟩
theorem turn_enumT {P : Program} {w : World} {K : PySem.W.Frag} {elts : List Expr} {kk : Nat} {tpos : Pos} (t e it : Addr) :
    Turn P w K (.Tuple elts kk tpos) (Jet K t) [e, it] e (fun i h => (∃ old, IsEnum h e it ((i : Nat) : Int) old) ∧ h.IsTupleIter it t i ∧ e ≠ it) where
  mem := List.mem_cons_self
  obj := fun i h ⟨⟨old, he⟩, ⟨o, ho, hc, hd⟩, _⟩ b hb => by
    rcases (show b = e ∨ b = it from by simpa using hb) with z | z <;> subst z
    · exact ⟨_, he, fun v q => nomatch q⟩
    · exact ⟨o, ho, fun v q => by rw [hd] at q; cases q⟩
  keep := fun i h h' ⟨⟨old, he⟩, hi, hne⟩ k => ⟨⟨old, k e (by simp) _ he⟩, hi.at fun o q => k it (by simp) o q, hne⟩
  item := by
    intro X hP hw hK hc i pins s σ H E I hf ⟨⟨old, he⟩, hit, hne⟩ ⟨xs, x, hq, hx⟩
    subst hP hw hK
    obtain ⟨its, rv, p, hz⟩ := I.tuple hq
    have pt : s.heap.IsTuple t its.toArray := p
    obtain ⟨u, hu, ru⟩ := rv.get hx
    have hel : e < s.heap.objs.size := Heap.lt_size he
    have hil : it < s.heap.objs.size := let ⟨_, q, _⟩ := hit; Heap.lt_size q
    have het : e ≠ t := fun z => by
      obtain ⟨o, ho, hc, _⟩ := pt
      subst z
      have he' : s.heap.get? e = some _ := he
      rw [he'] at ho; cases ho; injection hc with z; exact absurd z (by decide)
    have hti : t ≠ it := fun z => by
      obtain ⟨o, ho, hc, _⟩ := pt
      obtain ⟨o', ho', hc', _⟩ := hit
      subst z
      rw [ho] at ho'; cases ho'; rw [hc] at hc'; injection hc' with z; exact absurd z (by decide)
    have lt : i < its.toArray.size := by
      have z := (List.getElem?_eq_some_iff.mp hu).1
      simpa using z
    refine wpAny_pyNext_enum_itemD (Draws.tuple (show X.A.in1.handled = none from I.ok.hd hc) it t hti its.toArray) he ⟨hit, pt⟩ lt hne (by simp [hne, het]) fun x' h' tk hx' ho hst' hT hsz hk => ?_
    obtain rfl : x' = u := by
      have z : its.toArray[i]? = some x' := hx'
      have z' : its[i]? = some x' := by simpa using z
      rw [hu] at z'; exact (Option.some.inj z').symm
    refine ⟨_, rfl, wpAny_letOwnedTupleGo_enum (s := { s with heap := h', toks := tk + 1 }) ho fun h'' he' sb => ?_⟩
    have hT2 : h''.get? s.heap.objs.size = some { cls := .type "tuple", data := .seq #[.int i tk, x'] } := (sb.2 _ (Nat.ne_of_gt hel)).trans hT
    have new : ObjOk X.prog X.w (upd H s.heap.objs.size (.tup [.int (i : Nat), x])) h'' s.heap.objs.size (.tup [.int (i : Nat), x]) := ⟨by show 2 ≤ sizeLine; decide, [.int i tk, x'], .cons ⟨_, rfl⟩ (.cons ru .nil), ⟨_, hT2, rfl, _, rfl⟩⟩
    have I1 : Inv X pins σ (upd H s.heap.objs.size (.tup [.int (i : Nat), x])) { s with heap := h'', toks := tk + 1 } :=
      I.turnedNew (ch := [e, it]) (fun b ob hb q => (sb.2 b (fun z => hb (by simp [z]))).trans (hk b ob (fun z => hb (by simp [z])) (fun z => hb (by simp [z])) q)) hf (Nat.le_refl _) new
    refine ⟨.ref s.heap.objs.size, _, I1, rfl, ⟨_, x, rfl, I.hok.fresh (Nat.le_refl _), rfl, fun ys hy => by rw [I.tuple_inj hy hq]; exact hx⟩, ⟨⟨x', ?_⟩, hst'.1.at fun o q => (sb.2 it (Ne.symm hne)).trans q, hne⟩, fun b hb => ?_⟩
    · have e1 : ((i + 1 : Nat) : Int) = (i : Int) + 1 := by omega
      rw [e1]; exact he'
    · have hb' : b < s.heap.objs.size := by
        rcases (show b = e ∨ b = it from by simpa using hb) with z | z <;> rw [z] <;> assumption
      rw [upd_ne (Nat.ne_of_lt hb')]; exact (hf b hb).1
  done := by
    intro X hP hw hK hc i pins s σ H E I hf ⟨⟨old, he⟩, hit, hne⟩ ⟨xs, hq, hx⟩
    subst hP hw hK
    obtain ⟨its, rv, p, hz⟩ := I.tuple hq
    have pt : s.heap.IsTuple t its.toArray := p
    have hl := rv.length
    obtain ⟨f0, f1, f2, f3, f4, f5⟩ := hf it (by simp)
    exact enumT_end (I.ok.hd hc) he hit pt (by simp; omega) fun h' eb => ⟨rfl, I.turned (t' := s.toks) (fun b o hb q => eb b o hb q) f0 f1 f3 f4 f5⟩
  self := fun A i s Q E ⟨⟨_, he⟩, _⟩ h => wpAny_pyIter_enum he h
section
variable {T : Tb} {X : Cx} {cls : List (Option Nat)} {W : WX} {e : Expr} {p pos tpos : Pos} {elts : List Expr} {kk : Nat}
def iEnumT (K : PySem.W.Frag) (te : TE) : TI := fun σ H R => te σ H fun v H1 => ∃ t xs, v = .ref t ∧ SqT K H1 t xs ∧ R (Jet K t) H1
theorem pi_enumT {te : TE} (hg : Gl X "enumerate") (hm : X.mg "enumerate" = none) (he : PE X e te) (hs : starEach [e] X.env = (false, eval e X.env) :: starEach [] X.env := by rfl) :
    PI X (.Tuple elts kk tpos) (.Call (.Name "enumerate" p) [e] [] pos) (iEnumT X.K te) := by
  refine ⟨fun pins s σ H R I h => Call_ (ld_blt I hg hm boot_enumerate (PyProof.Rows.callWith_type1 (one_arg he I h (fun v s1 x H1 I1 r q => ?_) hs) hs))⟩
  obtain ⟨t, xs, ex, hq, q⟩ := q
  subst ex
  obtain rfl : v = Value.ref t := r
  obtain ⟨its, rv, p', hz⟩ := I1.tuple hq
  have pt : s1.heap.IsTuple t its.toArray := p'
  refine call_enumT pt fun h' he hit hsz hk => wpAny_pyIter_enum he ?_
  refine ⟨s1.heap.objs.size + 1, [s1.heap.objs.size + 1, s1.heap.objs.size], _, _, H1, rfl, I1.kept (t' := s1.toks) hk, turn_enumT t (s1.heap.objs.size + 1) s1.heap.objs.size, ⟨⟨.none, he⟩, hit, Nat.succ_ne_self _⟩, fun b hb => ?_, q⟩
  have hle : s1.heap.objs.size ≤ b := by
    rcases (show b = s1.heap.objs.size + 1 ∨ b = s1.heap.objs.size from by simpa using hb) with z | z <;> rw [z]
    · exact Nat.le_succ _
    · exact Nat.le_refl _
  exact I1.fpOk hle (I1.hok.fresh hle)
def enP (xs : List A) : PItr := fun i _ => some ((xs[i]?).map fun a => .tup [.int (i : Nat), a])
def iEnT (m : ME) : MI := fun L h => (m L h).bind fun a h1 => match a with
  | .tup xs => .ok (enP xs) h1
  | _ => .bad
theorem i_enumT {m : ME} (hg : Gl X "enumerate") (hm : X.mg "enumerate" = none) (he : SE T X cls W e m) (hs : starEach [e] X.env = (false, eval e X.env) :: starEach [] X.env := by rfl) :
    SI T X cls W (.Tuple elts kk tpos) (.Call (.Name "enumerate" p) [e] [] pos) (iEnT m) := by
  refine PI.weak (pi_enumT hg hm he hs) fun σ H R ⟨ρ, h, L, F, q⟩ => ⟨ρ, h, L, F, ?_⟩
  unfold iEnT at q
  refine PostI.bindE q fun a h1 ρ1 H1 v _ st F1 rv q1 => ?_
  cases a with
  | tup xs =>
    simp only [RepV] at rv
    obtain ⟨t, vs, rfl, hq, r⟩ := rv
    refine ⟨t, vs, rfl, hq, q1 ρ1 H1 _ F1.refl F1 ?_⟩
    intro X' cls' i ρ' h' L' σ' H' hK F' wk fk
    have hq' := SqT.step wk hq
    have r' := RepVs.step wk _ _ r
    show ItSt T X.K _ X' cls' i ρ' h' L' σ' H' (some ((xs[i]?).map fun a => .tup [.int (i : Nat), a]))
    cases ex : xs[i]? with
    | none => exact ⟨vs, hq', get_none r' ex⟩
    | some a =>
      obtain ⟨y, ey, ry⟩ := r'.get ex
      refine ⟨⟨vs, y, hq', ey⟩, fun w H2 ⟨b, x, e1, e2, e3, e4⟩ => ?_⟩
      have z := e4 vs hq'
      rw [ey] at z
      cases z
      subst e1 e3
      have st2 := step_tup (ρ := ρ') (h := h') (H := H') (p := b) (u := .tup [.int (i : Nat), y]) (fun _ _ => F'.lt) e2
      refine ⟨st2, F'.aux e2, ?_⟩
      simp only [RepV]
      exact ⟨b, _, rfl, SqT.of upd_same, ⟨_, _, rfl, rfl, ⟨_, [], rfl, RepV.step st2.wk _ _ ry, rfl⟩⟩⟩
  | _ => exact q1.elim
end
end Zk
end
section
set_option Elab.async false
set_option linter.all false
set_option maxRecDepth 100000
/-! Zk28: names that only comprehensions capture; what a def's frame takes of exceptions. -/
namespace Zk
open PySem PySem.Spec PyProof.Rows L2 NdefX LamX

section
variable {T : Tb} {X : Cx} {cls ex : List (Option Nat)} {W : WX}
theorem Fm.setX {ρ : Nat → Addr} {h : Hq} {L : Lc} {σ : L2.St} {H : Hp} {i : Nat} {a : A} {v : V} (F : Fm T X cls ρ h L σ H) (hl : σ.length = X.N.length) (hi : i < X.N.length) (hc : ∀ l, cls[i]? ≠ some (some l)) (r : RepV T X.K ρ h.n H a v) : Fm T X cls ρ h (L.set i (some a)) (σ.set i (some v)) H := by
  refine ⟨F.obj, F.inj, by rw [List.length_set]; exact F.len, fun j b e => ?_, fun j l e => ?_, F.tab⟩
  · by_cases q : i = j
    · subst q
      rw [List.getElem?_set_self (by rw [F.len]; exact hi)] at e
      cases e
      exact ⟨v, by rw [List.getElem?_set_self (by rw [hl]; exact hi)], r⟩
    · rw [List.getElem?_set_ne q] at e
      obtain ⟨w, e1, r1⟩ := F.val j b e
      exact ⟨w, by rw [List.getElem?_set_ne q]; exact e1, r1⟩
  · obtain ⟨y, ov, e1, e2, e3, nf, e4, e5⟩ := F.cel j l e
    refine ⟨y, ov, e1, e2, e3, nf, e4, fun a ea => ?_⟩
    obtain ⟨w, z, r1⟩ := e5 a ea
    exact ⟨w, by rw [List.getElem?_set_ne fun q => by subst q; exact hc l e]; exact z, r1⟩
/-- a name that is a cell, but no closure's -/
theorem g_nmX {i : Nat} {x : Str} {pos : Pos} (hN : X.N.Nodup) (hi : X.N[i]? = some x) (hk : X.env.scope.names.lookup x = some .cell) (hf : X.fn x = true) (hc : ∀ l, cls[i]? ≠ some (some l)) : SG T X cls ex W (.Name x pos) (gNm i) := by
  intro pins s σ H ρ h L a v u I F rv ru _
  exact wpAny_assign_Name (store_ok I hN hi (.inr hk) ru (fun s' I' => ⟨ρ, _, H, I', F.refl', F.setX I.len (List.getElem?_eq_some_iff.mp hi).1 hc rv, trivial⟩) (.inl hf))
end
section
variable {P : Program} {w : World} {K : PySem.W.Frag} {mg : Str → Option Value} {base : Heap} {N : List Str} {qual : Str} {scope : Scope} {f : Addr} {cd : Value} {B : Around} {outer : List Env} {s : Shared} {H : Hp} {E : XK}
theorem takes_xD : L2.Takes (xD P w K mg base N qual scope f cd B outer s H E) (wD E) := L2.takes_of rfl rfl rfl rfl
theorem passes_xD : PassesOwn (model (xD P w K mg base N qual scope f cd B outer s H E).prog (xD P w K mg base N qual scope f cd B outer s H E).w) (xD P w K mg base N qual scope f cd B outer s H E).A (xD P w K mg base N qual scope f cd B outer s H E).env (xD P w K mg base N qual scope f cd B outer s H E).xe := L2.passes_of rfl
theorem calm_xD : (xD P w K mg base N qual scope f cd B outer s H E).calm = true := rfl
theorem takes_ncx {F : NF} : L2.Takes (ncx (L2.CX P w) P w K mg base N F f B outer s H E) (wD E) := L2.takes_of rfl rfl rfl rfl
end
end Zk
end
section
set_option Elab.async false
set_option linter.all false
set_option maxRecDepth 100000
/-! Zk29: the table of all defs by depth; the end of a law. -/
namespace Zk
open PySem PySem.Spec PyProof.Rows L2 NdefX LamX

/-! ### all defs by depth -/
abbrev DF := Dn → List A → List (Nat × A) → Hq → Res A
abbrev CF := Dn → List Nat → List A → List (Nat × A) → Hq → Res A
def stepD (ds : List DF) (cs : List CF) (Φ : Dn) : Dn := fun fa as ka h => match fa with
  | .fn j => match ds[j]? with
    | some d => d Φ as ka h
    | none => .bad
  | .clo k ls => match cs[k]? with
    | some c => c Φ ls as ka h
    | none => .bad
  | _ => .bad
def PhiN (ds : List DF) (cs : List CF) : Nat → Dn
  | 0 => fun _ _ _ _ => .bad
  | n + 1 => stepD ds cs (PhiN ds cs n)
def OnlyFn (Φ : Dn) : Prop := ∀ fa as ka h, Φ fa as ka h ≠ .bad → (∃ j, fa = .fn j) ∨ ∃ j cs, fa = .clo j cs
theorem phi_only {ds : List DF} {cs : List CF} : ∀ n, OnlyFn (PhiN ds cs n)
  | 0 => fun fa as ka h e => absurd rfl e
  | n + 1 => fun fa as ka h e => by
    cases fa with
    | fn j => exact .inl ⟨j, rfl⟩
    | clo k ls => exact .inr ⟨k, ls, rfl⟩
    | _ => exact absurd rfl e
section
variable {T : Tb} {P : Program} {w : World} {K : PySem.W.Frag} {mg : Str → Option Value}
theorem Lib.mono {j k : Nat} {Φ : Dn} (L : Lib T P w K mg j Φ) (h : j ≤ k) : Lib T P w K mg k Φ :=
  fun base B outer s H fa f us vs as ku kv ka ρ hq ar => L base B outer s H fa f us vs as ku kv ka ρ hq (ar.mono h)
/-- what a def's own proof has at hand -/
structure Hyp (T : Tb) (P : Program) (w : World) (K : PySem.W.Frag) (mg : Str → Option Value) (k : Nat) (Φ : Dn) : Prop where
  lib : Lib T P w K mg k Φ
  nr : OnlyFn Φ
  kp : ∀ j, PySem.W.keepIn K (.ref (T.fA j)) = true
def DefsOk (T : Tb) (P : Program) (w : World) (K : PySem.W.Frag) (mg : Str → Option Value) (ds : List DF) : Prop := ∀ j d, ds[j]? = some d → ∀ k Φ, Hyp T P w K mg k Φ → COk T P w K mg (k + 2) (T.fA j) (d Φ)
def ClosOk (T : Tb) (P : Program) (w : World) (K : PySem.W.Frag) (mg : Str → Option Value) (cs : List CF) : Prop := ∀ j c, cs[j]? = some c → ∀ k Φ, Hyp T P w K mg k Φ → CloOk T P w K mg (k + 2) j (c Φ)
theorem lib_all {ds : List DF} {cs : List CF} (kp : ∀ j, PySem.W.keepIn K (.ref (T.fA j)) = true) (hd : DefsOk T P w K mg ds) (hc : ClosOk T P w K mg cs) : ∀ n, Lib T P w K mg (2 * n) (PhiN ds cs n)
  | 0 => fun base B outer s H fa f us vs as ku kv ka ρ h ar e0 rf r rv kr kf R nt nb => absurd rfl nb
  | n + 1 => fun base B outer s H fa f us vs as ku kv ka ρ h ar e0 rf r rv kr kf R nt nb => by
    have ih : Hyp T P w K mg (2 * n) (PhiN ds cs n) := ⟨lib_all kp hd hc n, phi_only n, kp⟩
    cases fa with
    | fn j =>
      have e : PhiN ds cs (n + 1) (.fn j) as ka h = (match ds[j]? with | some d => d (PhiN ds cs n) as ka h | none => .bad) := rfl
      rw [e] at nb ⊢
      cases ed : ds[j]? with
      | none => rw [ed] at nb; exact absurd rfl nb
      | some d =>
        rw [ed] at nb
        simp only [RepV] at rf
        cases rf
        exact hd j d ed _ _ ih base B outer s H us vs as ku kv ka ρ h ar e0 r rv kr kf R nt nb
    | clo k ls =>
      have e : PhiN ds cs (n + 1) (.clo k ls) as ka h = (match cs[k]? with | some c => c (PhiN ds cs n) ls as ka h | none => .bad) := rfl
      rw [e] at nb ⊢
      cases ed : cs[k]? with
      | none => rw [ed] at nb; exact absurd rfl nb
      | some d =>
        rw [ed] at nb
        simp only [RepV] at rf
        obtain ⟨g, eg, ca⟩ := rf
        cases eg
        exact hc k d ed _ _ ih base B outer s H f ls us vs as ku kv ka ρ h ar e0 ca r rv kr kf R nt nb
    | _ => exact absurd rfl nb
/-- for a body: room for its calls -/
theorem Hyp.cal {X : Cx} {W : WX} {k : Nat} {Φ : Dn} (y : Hyp T X.prog X.w X.K X.mg k Φ) (ar : Arnd (k + 1) X.A) (tk : L2.Takes X W) (nd : X.N.Nodup) : Cal T X W (k + 1) Φ :=
  ⟨y.lib.mono (Nat.le_succ k), ar, tk, nd, y.kp, y.nr⟩
end

/-! ### the end -/
/-- the plain objects at a law's call: the script -/
def hq0 (ns : List Int) : Hq := Hq.new ⟨.e, 0⟩ (.rol (ns.map A.int))
theorem hq0_get {ns : List Int} {l : Nat} {o : Ob} (e : (hq0 ns).get l = some o) : l = 0 ∧ o = .rol (ns.map A.int) := by
  unfold hq0 at e
  rw [Hq.get_new] at e
  by_cases q : l = 0
  · rw [if_pos q] at e
    exact ⟨q, (Option.some.inj e).symm⟩
  · rw [if_neg q] at e
    cases e
theorem ints_repA {T : Tb} {K : PySem.W.Frag} {ρ : Nat → Addr} {n : Nat} {H : Hp} : ∀ ns : List Int, RepVs T K ρ n H (ns.map A.int) (ns.map V.int)
  | [] => rfl
  | i :: ns => ⟨_, _, rfl, rfl, ints_repA ns⟩
section
variable {T : Tb} {P : Program} {w : World} {K : PySem.W.Frag} {mg mb : Str → Option Value}
theorem law_zk {k j : Nat} {Φ : Dn} {a : Addr} {s₁ : Shared} {vs : List Value} {ns : List Int} (KX : K.In s₁.heap) (hG : s₁.heap.Ns mainGlobals mg) (hB : s₁.heap.Ns builtinsNs mb) (hBB : ∀ x : Str, x ≠ "__name__" → mb x = bootBuiltins x) (hlim : s₁.heap.NoLimit) (hgen : s₁.gens = #[])
    (tb : ∀ q ∈ T.tt, s₁.heap.get? q.1 = some { cls := .none, data := .fields #[] } ∧ K.lookup q.1 = none ∧ ∃ c, PySem.W.CodeHd s₁.heap c q.1) (hobj : s₁.heap.get? a = some { cls := .type "list", data := .seq vs.toArray }) (hints : IntsAre vs ns) (hlen : ns.length ≤ sizeLine)
    (ar : Arnd k callerA) (LB : Lib T P w K mg k Φ) (plain : ∃ h', Φ (.fn j) [.ref 0] [] (hq0 ns) = .ok (.bl true) h') :
    codeAny (model P w) callerA (.call (.ref (T.fA j)) ⟨[.ref a], []⟩) (fun r s' => r = .ok (.ret (.bool true)) ∧ OldK s₁.heap s'.heap ∧ s'.os = s₁.os ∧ AllBare s'.gens) s₁ := by
  have rvals := vals_ints hints
  have tabOf : ∀ b, b ∈ T.tt.map (·.1) → s₁.heap.get? b = some { cls := .none, data := .fields #[] } ∧ K.lookup b = none ∧ ∃ c, PySem.W.CodeHd s₁.heap c b := fun b hb => by
    obtain ⟨q, hq, rfl⟩ := List.mem_map.mp hb
    exact tb q hq
  have aT : a ∉ T.tt.map (·.1) := fun z => by
    have q := (tabOf a z).1
    rw [hobj] at q
    have z' : Data.seq vs.toArray _ = Data.fields #[] := congrArg Obj.data (Option.some.inj q)
    cases z'
  have main : ∀ H : Hp, (∀ b, b ∈ T.tt.map (·.1) → H b = some (.tbl #[])) → (∀ b u, H b = some u → (u = .tbl #[] ∧ b ∈ T.tt.map (·.1)) ∨ (b = a ∧ K.lookup a = none ∧ ∃ o xs, u = .frz o (.lst xs))) → RoL K H a (ns.map V.int) → HOk P w H s₁.heap →
      codeAny (model P w) callerA (.call (.ref (T.fA j)) ⟨[.ref a], []⟩) (fun r s' => r = .ok (.ret (.bool true)) ∧ OldK s₁.heap s'.heap ∧ s'.os = s₁.os ∧ AllBare s'.gens) s₁ := by
    intro H hT hA hS hok
    have plainObj : ∀ {b : Addr} {o : Obj}, s₁.heap.get? b = some o → (∀ vs n, o.data ≠ .seq vs n) → o.data ≠ .fields #[] → H b = none := fun {b o} e n1 n2 => by
      cases q : H b with
      | none => rfl
      | some u =>
        rcases hA b u q with ⟨_, m⟩ | ⟨rfl, _⟩
        · rw [(tabOf b m).1] at e; cases e; exact (n2 rfl).elim
        · rw [hobj] at e; cases e; exact (n1 _ _ rfl).elim
    have nsB : ∀ {b : Addr} {m : Str → Option Value}, s₁.heap.Ns b m → (hidT s₁.heap H).Ns b m := fun {b m} ⟨o, es, ep, e, d, r⟩ =>
      ⟨o, es, ep, hidT_get e (plainObj e (fun _ _ z => by rw [d] at z; cases z) fun z => by rw [d] at z; cases z), d, r⟩
    have KB : K.In (hidT s₁.heap H) := fun b o e => hidT_get (KX b o e) (by
      cases q : H b with
      | none => rfl
      | some u =>
        rcases hA b u q with ⟨_, m⟩ | ⟨rfl, m, _⟩
        · rw [(tabOf b m).2.1] at e; cases e
        · rw [m] at e; cases e)
    have hM : L2.Mod K mg (hidT s₁.heap H) := ⟨KB, nsB hG, ⟨mb, nsB hB, hBB⟩, let ⟨mc, z1, z2⟩ := hlim; ⟨mc, nsB z1, z2⟩⟩
    have e0 : Env0 P w K mg (hidT s₁.heap H) callerA [] s₁ H := ⟨rfl, hM, fun b o e => of_hidT e, Nat.le_of_eq (hidT_size _ _), trivial, fun b hb => absurd (show b ∈ ([] : List Addr) from hb) (by simp), hok, .of_eq hgen⟩
    have RA : RepA T K (hidT s₁.heap H) (fun _ => a) (hq0 ns) H := by
      refine ⟨fun l o e => ?_, fun l l' o o' e e' m m' _ => (hq0_get e).1.trans (hq0_get e').1.symm, fun q hq => ⟨#[], hT _ (List.mem_map.mpr ⟨q, hq, rfl⟩), trivial, fun pos cv e => ?_⟩⟩
      · obtain ⟨rfl, rfl⟩ := hq0_get e
        exact ⟨Nat.lt_succ_self 0, _, hS, ints_repA ns⟩
      · exact absurd e (by simp [codeAmong])
    have NT : NoTr H := fun b v z => by
      rcases hA b _ z with ⟨q, _⟩ | ⟨_, _, o, xs, q⟩ <;> cases q
    obtain ⟨h', eΦ⟩ := plain
    have r0 : RepV T K (fun _ => a) (hq0 ns).n H (.ref 0) (.ref a) := by
      simp only [RepV]
      exact ⟨trivial, Nat.lt_succ_self 0⟩
    refine codeAny_mono (LB (hidT s₁.heap H) callerA [] s₁ H (.fn j) (T.fA j) [.ref a] [.ref a] [.ref 0] [] [] [] (fun _ => a) (hq0 ns) ar e0 rfl (.cons rfl .nil) ⟨_, [], rfl, r0, rfl⟩ .nil .nil RA NT (by rw [eΦ]; exact fun z => by cases z)) fun r s' h => ?_
    rw [eΦ] at h
    cases r with
    | error e => exact h.elim
    | ok fl =>
      cases fl with
      | next => exact h.elim
      | brk => exact h.elim
      | cont => exact h.elim
      | ret u =>
        obtain ⟨ρ', H', v, os, bare, un, hok', ru, _, _, rv⟩ := h
        simp only [RepV] at rv
        subst rv
        obtain rfl : u = Value.bool true := ru
        have old : ∀ b o, b ∉ T.tt.map (·.1) → s₁.heap.get? b = some o → s'.heap.get? b = some o := fun b o nb e => by
          cases q : H b with
          | none => exact un.keep b o e q (fun z => absurd (show b ∈ ([] : List Addr) from z) (by simp)) (by simp)
          | some u =>
            rcases hA b u q with ⟨_, m⟩ | ⟨_, _, ob, xs, rfl⟩
            · exact absurd m nb
            · obtain ⟨z1, _⟩ := hok b _ q
              obtain ⟨z2, _⟩ := hok' b _ (un.frzs b ob _ q)
              rw [e] at z1; cases z1
              exact z2
        have grown : ∀ b, b ∈ T.tt.map (·.1) → ∃ more : Array Value, s'.heap.get? b = some { cls := .none, data := .fields more } := fun b hb => by
          obtain ⟨more, z⟩ := un.tbls b #[] (hT b hb)
          exact ⟨_, hok' b _ z⟩
        refine ⟨rfl, ⟨fun b o e => ?_, fun b o e => ?_⟩, os, bare⟩
        · by_cases hb : b ∈ T.tt.map (·.1)
          · obtain ⟨more, hm⟩ := grown b hb
            obtain ⟨t1, _, c, t2⟩ := tabOf b hb
            rw [t1] at e
            cases e
            exact .inr (.inl ⟨(t2.tab t1).isCodeTable, rfl, #[], more, rfl, by rw [Array.empty_append]; exact hm⟩)
          · exact .inl (old b o hb e)
        · by_cases hb : b ∈ T.tt.map (·.1)
          · obtain ⟨more, hm⟩ := grown b hb
            exact ⟨_, hm⟩
          · exact ⟨o, old b o hb e⟩
  by_cases hk : K.lookup a = none
  · refine main (fun b => if b = a then some (.frz { cls := .type "list", data := .seq vs.toArray } (.lst (ns.map V.int))) else if b ∈ T.tt.map (·.1) then some (.tbl #[]) else none) (fun b hb => ?_) (fun b u e => ?_) (.inl ⟨_, if_pos rfl⟩) fun b u e => ?_
    · exact (if_neg fun z => aT (by rw [← z]; exact hb)).trans (if_pos hb)
    · try simp only at e
      split at e
      · rename_i z; cases e; exact .inr ⟨z, hk, _, _, rfl⟩
      · split at e
        · rename_i z; cases e; exact .inl ⟨rfl, z⟩
        · cases e
    · try simp only at e
      split at e
      · rename_i z; subst z; cases e
        exact ⟨hobj, by rw [List.length_map]; exact hlen, vs, _, rvals, hobj⟩
      · split at e
        · rename_i z; cases e; exact (tabOf b z).1
        · cases e
  · cases hk2 : K.lookup a with
    | none => exact absurd hk2 hk
    | some o =>
      have e := KX a o hk2
      rw [hobj] at e
      cases e
      refine main (fun b => if b ∈ T.tt.map (·.1) then some (.tbl #[]) else none) (fun b hb => if_pos hb) (fun b u e => ?_) (.inr ⟨_, vs.toArray, _, hk2, rfl, rfl, rfl, by rw [List.size_toArray, hints.length]; exact hlen, by simpa using rvals⟩) fun b u e => ?_
      · try simp only at e
        split at e
        · rename_i z; cases e; exact .inl ⟨rfl, z⟩
        · cases e
      · try simp only at e
        split at e
        · rename_i z; cases e; exact (tabOf b z).1
        · cases e
end
/-- THE END: F tells, of what the head's hook says, the defs' plain text and that it answers True -/
theorem walk_zk {l : PySem.W.OpenLaw} {n k : Nat} {q : Program} {loose : List Str} {XP : (Str → Option Value) → Heap → Prop} {YP : World → Heap → Prop} {d : DefRec} (hn : l.most = some n) (hn2 : n ≤ sizeLine) (hdf : d.params.defaults = []) (hr : Room k callerA)
    (F : ∀ (w : World) (mg : Str → Option Value) (h : Heap), YP w h → h.Ns mainGlobals mg → ∃ (K : PySem.W.Frag) (T : Tb) (Φ : Dn) (j : Nat), K.In h ∧ mg d.name = some (.ref (T.fA j)) ∧ Lib T l.prog w K mg k Φ ∧ (∀ p ∈ T.tt, h.get? p.1 = some { cls := .none, data := .fields #[] } ∧ K.lookup p.1 = none ∧ ∃ c, PySem.W.CodeHd h c p.1) ∧
      ∀ ns : List Int, ns.length ≤ n → (∀ z ∈ ns, Builtin.Int.intBits z ≤ 1048576) → ∃ h', Φ (.fn j) [.ref 0] [] (hq0 ns) = .ok (.bl true) h') :
    PySem.W.WalkO q loose XP YP l.row.toRowW d [] (fun f vs => PySem.call f vs) := by
  refine Att.attach_callB hn hdf fun w s₀ s₁ mg mb fa o pm cd doc a vs ns G Y ho hd hcd hmg hobj hints hlen hbits hg => ?_
  obtain ⟨K, T, Φ, j, KX, ej, LB, tb, plain⟩ := F w mg _ Y G.T.g
  rw [hmg] at ej
  cases ej
  exact law_zk KX G.T.g G.T.b G.T.builtins G.T.nolimit hg tb hobj hints (Nat.le_trans hlen hn2) ⟨hr, rfl⟩ LB (plain ns hlen hbits)
end Zk
end
section
set_option Elab.async false
set_option linter.all false
set_option maxRecDepth 100000
/-! Zk30: what the head's run tells of the text: where defs and classes stand, what they are. -/
namespace Zk
open PySem PySem.Spec PyProof.Rows L2 NdefX LamX

/-! ### names by number -/
def nmOf (l : List Str) (i : Nat) : Str := match l[i]? with
  | some s => s
  | none => ⟨Array.replicate (i + 1000) 0⟩
def nmOk (l : List Str) : Bool := decide l.Nodup && l.all fun s => decide (s.cps.size < 1000)
theorem nm_inj {l : List Str} (h : nmOk l = true) (i j : Nat) (e : nmOf l i = nmOf l j) : i = j := by
  obtain ⟨hn, hs⟩ := Bool.and_eq_true_iff.mp h
  have hn : l.Nodup := of_decide_eq_true hn
  have small : ∀ {i : Nat} {s : Str}, l[i]? = some s → s.cps.size < 1000 := fun {i s} q => of_decide_eq_true (List.all_eq_true.mp hs s (List.mem_of_getElem? q))
  unfold nmOf at e
  cases qi : l[i]? with
  | some s =>
    cases qj : l[j]? with
    | some t =>
      rw [qi, qj] at e
      have e : s = t := e
      subst e
      exact nodup_ix hn qi qj
    | none =>
      rw [qi, qj] at e
      have e : s = ⟨Array.replicate (j + 1000) 0⟩ := e
      have := small qi
      rw [e] at this
      simp at this
      omega
  | none =>
    cases qj : l[j]? with
    | some t =>
      rw [qi, qj] at e
      have e : (⟨Array.replicate (i + 1000) 0⟩ : Str) = t := e
      have := small qj
      rw [← e] at this
      simp at this
      omega
    | none =>
      rw [qi, qj] at e
      have e : (⟨Array.replicate (i + 1000) 0⟩ : Str) = ⟨Array.replicate (j + 1000) 0⟩ := e
      have e2 := congrArg (fun s : Str => s.cps.size) e
      simp at e2
      exact e2

/-! ### where a def stands -/
inductive Wh where
  | glo (x : Str) | meth (C m : Str) | prop (C m : Str) | stat (C m : Str)
def fW (K : PySem.W.Frag) : Wh → Addr
  | .glo x => He.ga K x
  | .meth C m => He.ma K (He.ga K C) m
  | .prop C m => match PySem.W.recIn K (He.ma K (He.ga K C) m) "property" with
    | some (.ref g :: _) => g
    | _ => 0
  | .stat C m => match PySem.W.recIn K (He.ma K (He.ga K C) m) "staticmethod" with
    | some (.ref g :: _) => g
    | _ => 0
/-- a def: where it stands, its qualified name, its words -/
structure DefZ where
  at_ : Wh
  name : Str
  qual : Str
  params : Arguments
  body : List Stmt
  scope : Scope
def stName : Stmt → Str
  | .FunctionDef n _ _ _ _ _ _ _ _ _ => n
  | _ => ⟨#[]⟩
def stArgs : Stmt → Arguments
  | .FunctionDef _ a _ _ _ _ _ _ _ _ => a
  | _ => ⟨[], [], none, [], [], none, []⟩
def stBody : Stmt → List Stmt
  | .FunctionDef _ _ b _ _ _ _ _ _ _ => b
  | .ClassDef _ _ _ b _ _ _ _ _ _ _ => b
  | _ => []
def stScope : Stmt → Scope
  | .FunctionDef _ _ _ _ _ _ s _ _ _ => s
  | _ => ⟨.function, [], false, false, []⟩
abbrev DefZ.of (a : Wh) (q : Str) (st : Stmt) : DefZ := ⟨a, stName st, q, stArgs st, stBody st, stScope st⟩
def fnZ (K : PySem.W.Frag) (p : Wh) : He.FnW := match K.lookup (fW K p) with
  | some ⟨_, _, .func fd, _⟩ => some (fd.name, fd.qualname, fd.params, fd.body, fd.scope, fd.globals, fd.closure, fd.builtins)
  | _ => none
def DefZ.val (d : DefZ) : He.FnW := some (d.name, d.qual, d.params, .stmts d.body, d.scope, mainGlobals, [], builtinsNs)
def noneV : Value → Bool
  | .none => true
  | _ => false
theorem noneV_ok {v : Value} (h : noneV v = true) : v = .none := by cases v <;> first | rfl | cases h
def DefZ.ok (K : PySem.W.Frag) (d : DefZ) : Bool := PySem.W.keepIn K (.ref (fW K d.at_)) && (match K.lookup (fW K d.at_) with
  | some ⟨_, _, .func fd, _⟩ => PySem.W.codeIn K fd.code d.qual && (noneV fd.defaults && noneV fd.kwdefaults)
  | _ => false)
/-- the function object of a def -/
def FnIs (K : PySem.W.Frag) (d : DefZ) (cdv : Value) : Prop := PySem.W.keepIn K (.ref (fW K d.at_)) = true ∧ ∃ (oc : Value) (od : Option Addr) (doc pm : Value) (an : Option Addr) (ct : Value) (osl : Array (Option Value)),
  K.lookup (fW K d.at_) = some ⟨oc, od, .func (PySem.W.fnOf d.name d.qual d.params d.body d.scope .none .none doc pm an cdv ct), osl⟩ ∧ PySem.W.codeIn K cdv d.qual = true
theorem DefZ.is {K : PySem.W.Frag} {d : DefZ} (e : fnZ K d.at_ = d.val) (c : d.ok K = true) : ∃ cdv, FnIs K d cdv := by
  obtain ⟨kp, c2⟩ := Bool.and_eq_true_iff.mp c
  unfold fnZ at e
  cases q : K.lookup (fW K d.at_) with
  | none => rw [q] at c2; cases c2
  | some o =>
    obtain ⟨oc, od, dt, osl⟩ := o
    rw [q] at c2 e
    cases dt with
    | func fd =>
      obtain ⟨n1, n2, n3, n4, n5, n6, n7, n8, n9, n10, n11, n12, n13, n14, n15⟩ := fd
      have e2 : (some (n1, n2, n3, n4, n5, n6, n7, n15) : He.FnW) = some (d.name, d.qual, d.params, .stmts d.body, d.scope, mainGlobals, [], builtinsNs) := e
      simp only [Option.some.injEq, Prod.mk.injEq] at e2
      obtain ⟨h1, h2, h3, h4, h5, h6, h7, h8⟩ := e2
      subst h1 h2 h3 h4 h5 h6 h7 h8
      have c3 : (PySem.W.codeIn K n13 d.qual && (noneV n8 && noneV n9)) = true := c2
      obtain ⟨k1, k2⟩ := Bool.and_eq_true_iff.mp c3
      obtain ⟨k3, k4⟩ := Bool.and_eq_true_iff.mp k2
      obtain rfl := noneV_ok k3
      obtain rfl := noneV_ok k4
      exact ⟨n13, kp, oc, od, n10, n11, n12, n14, osl, q, k1⟩
    | _ => cases c2
/-! ### code objects with tables -/
def codeZ (K : PySem.W.Frag) (p : Wh) : Addr := match K.lookup (fW K p) with
  | some ⟨_, _, .func fd, _⟩ => (match fd.code with
    | .ref c => c
    | _ => 0)
  | _ => 0
def tabZ (K : PySem.W.Frag) (p : Wh) : Addr := He.tabOf K (codeZ K p)
theorem FnIs.code {K : PySem.W.Frag} {d : DefZ} {cdv : Value} (h : FnIs K d cdv) : cdv = .ref (codeZ K d.at_) := by
  obtain ⟨_, oc, od, doc, pm, an, ct, osl, lk, hc⟩ := h
  obtain ⟨c, rfl⟩ := He.codeIn_ref hc
  unfold codeZ
  rw [lk] <;> rfl
def bmB (K : PySem.W.Frag) (P : Addr) : Bool := match PySem.W.nsIn K mainGlobals "__builtins__" with
  | some (some (.ref bm)) => decide (bm ≠ builtinsNs) && (decide (bm ≠ mainGlobals) && (decide (bm ≠ P) && (decide (mainGlobals ≠ P) && (match K.lookup bm with
    | some ⟨.type c, some d, .plain, _⟩ => decide (c = "module") && decide (d = builtinsNs)
    | _ => false))))
  | _ => false
theorem bm_ok {K : PySem.W.Frag} {base : Heap} {mg : Str → Option Value} {P : Addr} (X : K.In base) (G : base.Ns mainGlobals mg) (h : bmB K P = true) : base.BuiltinsAt mg P ∧ mainGlobals ≠ P := by
  unfold bmB at h
  cases e : PySem.W.nsIn K mainGlobals "__builtins__" with
  | none => rw [e] at h; cases h
  | some r =>
    cases r with
    | none => rw [e] at h; cases h
    | some v =>
      cases v with
      | ref bm =>
        rw [e] at h
        obtain ⟨h1, h⟩ := Bool.and_eq_true_iff.mp h
        obtain ⟨h2, h⟩ := Bool.and_eq_true_iff.mp h
        obtain ⟨h3, h⟩ := Bool.and_eq_true_iff.mp h
        obtain ⟨h4, h⟩ := Bool.and_eq_true_iff.mp h
        cases q : K.lookup bm with
        | none => rw [q] at h; cases h
        | some o =>
          obtain ⟨oc, od, dt, osl⟩ := o
          rw [q] at h
          cases oc with
          | type c =>
            cases od with
            | some d =>
              cases dt with
              | plain =>
                obtain ⟨h5, h6⟩ := Bool.and_eq_true_iff.mp h
                exact ⟨⟨bm, _, PySem.W.mg_of X G e, of_decide_eq_true h1, of_decide_eq_true h2, of_decide_eq_true h3, X _ _ q, congrArg Value.type (of_decide_eq_true h5), congrArg some (of_decide_eq_true h6), rfl⟩, of_decide_eq_true h4⟩
              | _ => cases h
            | none => cases dt <;> cases h
          | _ => cases od <;> cases dt <;> cases h
      | _ => rw [e] at h; cases h
theorem tabZ_ok {K : PySem.W.Frag} {base : Heap} {mg : Str → Option Value} {p : Wh} (X : K.In base) (G : base.Ns mainGlobals mg) (h1 : PySem.W.codeHdIn K (codeZ K p) (tabZ K p) = true) (h2 : bmB K (tabZ K p) = true) : TabB base mg (codeZ K p) (tabZ K p) :=
  let ⟨a, b⟩ := bm_ok X G h2; tabB_of_K X h1 a b
/-! ### facts -/
inductive TgN where
  | non | bl | int | str | tup | lst | dic | ins (C : Str)
def TgN.v (K : PySem.W.Frag) : TgN → Value
  | .non => .type "NoneType"
  | .bl => .type "bool"
  | .int => .type "int"
  | .str => .type "str"
  | .tup => .type "tuple"
  | .lst => .type "list"
  | .dic => .type "dict"
  | .ins C => .ref (He.ga K C)
inductive Fb where
  | a (f : He.Fa) | prop (C m : Str) | stat (C m : Str) | insty (C : Str) | own (C m : Str) | isC (t : TgN) (C : Str) (b : Bool) | isT (t : TgN) (us : List String) (b : Bool) | tne (p q : Wh) | bme (C m : Str)
def insB (K : PySem.W.Frag) (C : Addr) : Bool := He.eqO (PySem.W.findIn K (.ref C) "__class__") (some (some (.builtin "object.__class__"))) && (He.eqO (PySem.W.specialIn K (.builtin "object.__class__") "__get__") (some (some (.builtin "getset_descriptor.__get__"))) &&
  (decide (PySem.W.takesIn K (.builtin "object.__class__") = some true) && decide (PySem.W.mroIn K C (.type "object") = some true)))
def Fb.ok (K : PySem.W.Frag) : Fb → Bool
  | .a f => f.ok K
  | .prop C m => He.eqO (PySem.W.findIn K (.ref (He.ga K C)) m) (some (some (.ref (He.ma K (He.ga K C) m)))) && (He.eqO (PySem.W.specialIn K (.ref (He.ma K (He.ga K C) m)) "__get__") (some (some (.builtin "property.__get__"))) && (decide (PySem.W.takesIn K (.ref (He.ma K (He.ga K C) m)) = some true) &&
    (match PySem.W.recIn K (He.ma K (He.ga K C) m) "property" with
    | some (.ref _ :: _) => true
    | _ => false)))
  | .stat C m => PySem.W.readsIn K (He.ga K C) (.type "type") && (He.eqO (PySem.W.specialIn K (.ref (He.ga K C)) "__getattribute__") (some (some (.builtin "type.__getattribute__"))) && ((match PySem.W.findCls K (.ref (He.ga K C)) (.type "type") m with
    | some (.get (.builtin g) (.ref p) .none (.ref c)) => decide (g = "staticmethod.__get__") && (decide (p = He.ma K (He.ga K C) m) && decide (c = He.ga K C))
    | _ => false) && (match PySem.W.recIn K (He.ma K (He.ga K C) m) "staticmethod" with
    | some (.ref _ :: _) => true
    | _ => false)))
  | .insty C => (He.Fa.cls C).ok K && insB K (He.ga K C)
  | .own C m => He.eqO (PySem.W.findIn K (.ref (He.ga K C)) m) (some (some (.ref (He.ma K (He.ga K C) m)))) && PySem.W.isFn K (.ref (He.ma K (He.ga K C) m))
  | .isC t C b => decide (PySem.W.kitAny K (t.v K) [.ref (He.ga K C)] = some b)
  | .isT t us b => decide (PySem.W.kitAny K (t.v K) (us.map Value.type) = some b)
  | .tne p q => decide (tabZ K p ≠ tabZ K q)
  | .bme C m => He.eqO (PySem.W.specialIn K (.ref (He.ma K (He.ga K C) m)) "__get__") (some (some (.builtin "function.__get__"))) && (decide (PySem.W.takesIn K (.ref (He.ma K (He.ga K C) m)) = some false) && (!PySem.W.copiedNames.contains m && PySem.W.fnIn K (He.ma K (He.ga K C) m)))
section
variable {K : PySem.W.Frag}
theorem prop_ok {C m : Str} (h : (Fb.prop C m).ok K = true) : PropOf K (He.ga K C) m (He.ma K (He.ga K C) m) (fW K (.prop C m)) := by
  obtain ⟨h1, h⟩ := Bool.and_eq_true_iff.mp (show (He.eqO (PySem.W.findIn K (.ref (He.ga K C)) m) (some (some (.ref (He.ma K (He.ga K C) m)))) && _) = true from h)
  obtain ⟨h2, h⟩ := Bool.and_eq_true_iff.mp h
  obtain ⟨h3, h⟩ := Bool.and_eq_true_iff.mp h
  refine ⟨He.eqO_ok h1, He.eqO_ok h2, of_decide_eq_true h3, ?_⟩
  have e0 : fW K (.prop C m) = (match PySem.W.recIn K (He.ma K (He.ga K C) m) "property" with | some (.ref g :: _) => g | _ => 0) := rfl
  cases e : PySem.W.recIn K (He.ma K (He.ga K C) m) "property" with
  | none => rw [e] at h; cases h
  | some vs =>
    rw [e] at h
    cases vs with
    | nil => cases h
    | cons v r => cases v with
      | ref g => rw [e0, e]; exact ⟨r, rfl⟩
      | _ => cases h
theorem stat_ok {C m : Str} (h : (Fb.stat C m).ok K = true) : SMet K (He.ga K C) (.type "type") m (He.ma K (He.ga K C) m) (fW K (.stat C m)) := by
  obtain ⟨h1, h⟩ := Bool.and_eq_true_iff.mp (show (PySem.W.readsIn K (He.ga K C) (.type "type") && _) = true from h)
  obtain ⟨h2, h⟩ := Bool.and_eq_true_iff.mp h
  obtain ⟨h3, h⟩ := Bool.and_eq_true_iff.mp h
  refine ⟨h1, He.eqO_ok h2, ?_, ?_⟩
  · split at h3
    · rename_i g p c e
      obtain ⟨k1, k2⟩ := Bool.and_eq_true_iff.mp h3
      obtain ⟨k2, k3⟩ := Bool.and_eq_true_iff.mp k2
      rw [e, of_decide_eq_true k1, of_decide_eq_true k2, of_decide_eq_true k3]
    · cases h3
  · have e0 : fW K (.stat C m) = (match PySem.W.recIn K (He.ma K (He.ga K C) m) "staticmethod" with | some (.ref g :: _) => g | _ => 0) := rfl
    cases e : PySem.W.recIn K (He.ma K (He.ga K C) m) "staticmethod" with
    | none => rw [e] at h; cases h
    | some vs =>
      rw [e] at h
      cases vs with
      | nil => cases h
      | cons v r => cases v with
        | ref g => rw [e0, e]; exact ⟨r, rfl⟩
        | _ => cases h
theorem insty_ok {C : Str} (h : (Fb.insty C).ok K = true) : InsTy K (He.ga K C) := by
  obtain ⟨h1, h⟩ := Bool.and_eq_true_iff.mp (show ((He.Fa.cls C).ok K && insB K (He.ga K C)) = true from h)
  obtain ⟨h2, h⟩ := Bool.and_eq_true_iff.mp h
  obtain ⟨h3, h⟩ := Bool.and_eq_true_iff.mp h
  obtain ⟨h4, h5⟩ := Bool.and_eq_true_iff.mp h
  exact ⟨He.cls_ok h1, He.eqO_ok h2, He.eqO_ok h3, of_decide_eq_true h4, of_decide_eq_true h5⟩
theorem own_ok {C m : Str} (h : (Fb.own C m).ok K = true) : PySem.W.findIn K (.ref (He.ga K C)) m = some (some (.ref (He.ma K (He.ga K C) m))) ∧ PySem.W.isFn K (.ref (He.ma K (He.ga K C) m)) = true := by
  obtain ⟨h1, h2⟩ := Bool.and_eq_true_iff.mp (show (He.eqO (PySem.W.findIn K (.ref (He.ga K C)) m) (some (some (.ref (He.ma K (He.ga K C) m)))) && PySem.W.isFn K (.ref (He.ma K (He.ga K C) m))) = true from h)
  exact ⟨He.eqO_ok h1, h2⟩
end
/-! ### the Hook -/
/-- what is told of K: its defs, the facts, the tables -/
structure Says (fn : List DefZ) (fb : List Fb) (tf : List Wh) (h : Heap) (K : PySem.W.Frag) : Prop where
  fns : ∀ d ∈ fn, ∃ cdv, FnIs K d cdv
  facts : ∀ f ∈ fb, f.ok K = true
  hd : ∀ p ∈ tf, PySem.W.codeHdIn K (codeZ K p) (tabZ K p) = true ∧ bmB K (tabZ K p) = true
  out : ∀ p ∈ tf, K.lookup (tabZ K p) = none
  empty : ∀ p ∈ tf, h.get? (tabZ K p) = some { cls := .none, data := .fields #[] }
def tabsZ (g : Addr → Option Obj) (tf : List Wh) (K : PySem.W.Frag) : Bool := tf.all fun p => PySem.W.codeHdIn K (codeZ K p) (tabZ K p) && (bmB K (tabZ K p) && (match g (tabZ K p) with
  | some o => He.emptyTab o
  | none => false))
abbrev AlZ : Type := List He.FnW × Bool
def obsK (fn : List DefZ) (fb : List Fb) (tf : List Wh) (g : Addr → Option Obj) (K : PySem.W.Frag) : AlZ := (fn.map fun d => fnZ K d.at_, (fn.all fun d => d.ok K) && ((fb.all fun f => f.ok K) && tabsZ g tf K))
def obsZ (as : List Addr) (fn : List DefZ) (fb : List Fb) (tf : List Wh) (g : Addr → Option Obj) : AlZ := obsK fn fb tf g (He.frT g as)
def valZ (fn : List DefZ) : AlZ := (fn.map DefZ.val, true)
theorem says_of {as : List Addr} {fn : List DefZ} {fb : List Fb} {tf : List Wh} {h : Heap} (e : obsZ as fn fb tf h.get? = valZ fn) : Says fn fb tf h (He.frT h.get? as) := by
  have key : ∀ K, obsK fn fb tf h.get? K = valZ fn → (∀ {a o}, h.get? a = some o → He.emptyTab o = true → K.lookup a = none) → Says fn fb tf h K := fun K e out => by
    have e1 : fn.map (fun d => fnZ K d.at_) = fn.map DefZ.val := congrArg (fun z : AlZ => z.1) e
    have e2 : ((fn.all fun d => d.ok K) && ((fb.all fun f => f.ok K) && tabsZ h.get? tf K)) = true := congrArg (fun z : AlZ => z.2) e
    obtain ⟨h1, h2⟩ := Bool.and_eq_true_iff.mp e2
    obtain ⟨h2, h3⟩ := Bool.and_eq_true_iff.mp h2
    have tb : ∀ p ∈ tf, PySem.W.codeHdIn K (codeZ K p) (tabZ K p) = true ∧ bmB K (tabZ K p) = true ∧ ∃ o, h.get? (tabZ K p) = some o ∧ He.emptyTab o = true := fun p hp => by
      obtain ⟨k1, k2⟩ := Bool.and_eq_true_iff.mp (List.all_eq_true.mp h3 p hp)
      obtain ⟨k2, k3⟩ := Bool.and_eq_true_iff.mp k2
      refine ⟨k1, k2, ?_⟩
      cases q : h.get? (tabZ K p) with
      | none => rw [q] at k3; cases k3
      | some o => rw [q] at k3; exact ⟨o, rfl, k3⟩
    refine ⟨fun d hd => ?_, fun f hf => List.all_eq_true.mp h2 f hf, fun p hp => ⟨(tb p hp).1, (tb p hp).2.1⟩, fun p hp => let ⟨_, _, o, q, z⟩ := tb p hp; out q z, fun p hp => let ⟨_, _, o, q, z⟩ := tb p hp; by rw [q, He.emptyTab_eq z]⟩
    obtain ⟨i, hi, ei⟩ := List.mem_iff_getElem.mp hd
    have e3 : (fn.map fun d => fnZ K d.at_)[i]? = (fn.map DefZ.val)[i]? := by rw [e1]
    rw [List.getElem?_map, List.getElem?_map, List.getElem?_eq_getElem hi, ei] at e3
    exact DefZ.is (Option.some.inj e3) (List.all_eq_true.mp h1 d hd)
  exact key _ e fun q z => He.frT_none q z
def hookZ (as : List Addr) (fn : List DefZ) (fb : List Fb) (tf : List Wh) : PySem.W.Hook where
  α := AlZ
  obs := fun s => obsZ as fn fb tf s.heap.get?
  val := fun _ => valZ fn
  says := fun _ h => ∃ K : PySem.W.Frag, K.In h ∧ Says fn fb tf h K
  of := fun _ _ e => ⟨_, He.frT_in, says_of e⟩
  keeps := fun _ _ _ ⟨K, hK, c⟩ k => ⟨K, PySem.W.Frag.In.keeps hK k, ⟨c.fns, c.facts, c.hd, c.out, fun p hp => k _ _ (c.empty p hp)⟩⟩
theorem obsZ_eq {as : List Addr} {fn : List DefZ} {fb : List Fb} {tf : List Wh} {g : Addr → Option Obj} {s : Shared} (h : ∀ a, g a = s.heap.get? a) : obsZ as fn fb tf g = (hookZ as fn fb tf).obs s := by
  have e : g = s.heap.get? := funext h
  rw [e] <;> rfl
end Zk
end
section
set_option Elab.async false
set_option linter.all false
set_option maxRecDepth 100000
/-! Zk31: small helps for the printed texts. -/
namespace Zk
open PySem PySem.Spec PyProof.Rows L2 NdefX LamX

section
variable {T : Tb} {X : Cx} {W : WX} {k : Nat} {Φ : Dn}
theorem Cal.blk (C : Cal T X W k Φ) {s : Shared} {H : Hp} {scope : Scope} {ce : Env} {fp : List Addr} : Cal T (X.blk s H scope ce fp) noW k Φ := ⟨C.lib, C.ar, takes_no, C.nd, C.kp, C.nr⟩
theorem Cal.no (C : Cal T X W k Φ) : Cal T X noW k Φ := ⟨C.lib, C.ar, takes_no, C.nd, C.kp, C.nr⟩
theorem Cal.nox (C : Cal T X W k Φ) : Cal T X.nox noW k Φ := ⟨C.lib, C.ar, takes_no, C.nd, C.kp, C.nr⟩
end
/-! ### scopes by a Bool -/
def frB (inner outer : List (Str × NameKind)) : Bool := inner.all fun y => !decide (y.2 = .free) || (decide (outer.lookup y.1 = some .cell) || decide (outer.lookup y.1 = some .free))
theorem frB_ok {inner outer : List (Str × NameKind)} (h : frB inner outer = true) : ∀ y ∈ inner, y.2 = .free → outer.lookup y.1 = some .cell ∨ outer.lookup y.1 = some .free := fun y hy e => by
  have q := List.all_eq_true.mp h y hy
  rw [e] at q
  simpa using q
def fsB (inner : List (Str × NameKind)) (cf : List Str) : Bool := inner.all (fun y => !decide (y.2 = .free) || decide (y.1 ∈ cf)) && cf.all fun x => decide ((x, NameKind.free) ∈ inner)
theorem fsB_fr {inner : List (Str × NameKind)} {cf : List Str} (h : fsB inner cf = true) : ∀ y ∈ inner, y.2 = .free → y.1 ∈ cf := fun y hy e => by
  have q := List.all_eq_true.mp (Bool.and_eq_true_iff.mp h).1 y hy
  rw [e] at q
  simpa using q
theorem fsB_frk {inner : List (Str × NameKind)} {cf : List Str} (h : fsB inner cf = true) : ∀ x ∈ cf, (x, NameKind.free) ∈ inner := fun x hx =>
  of_decide_eq_true (List.all_eq_true.mp (Bool.and_eq_true_iff.mp h).2 x hx)
def blkB (N : List Str) (sc scope : Scope) (own : List (Str × Nat)) : Bool := decide (scope.kind = .function) && (scope.names.all (fun y => decide (scope.names.lookup y.1 = some y.2)) && (own.all (fun p => decide (N[p.2]? = some p.1)) && (frB scope.names sc.names &&
  scope.names.all fun y => !(decide (y.2 = .local) || decide (y.2 = .cell)) || (decide (y.1 ∈ own.map (·.1)) || decide (y.1 ∉ N)))))
theorem blk_by {N : List Str} {sc scope : Scope} {own : List (Str × Nat)} (h : blkB N sc scope own = true) : BlkOk N sc scope own := by
  obtain ⟨h1, h⟩ := Bool.and_eq_true_iff.mp h
  obtain ⟨h2, h⟩ := Bool.and_eq_true_iff.mp h
  obtain ⟨h3, h⟩ := Bool.and_eq_true_iff.mp h
  obtain ⟨h4, h5⟩ := Bool.and_eq_true_iff.mp h
  refine ⟨of_decide_eq_true h1, fun y hy => of_decide_eq_true (List.all_eq_true.mp h2 y hy), fun p hp => of_decide_eq_true (List.all_eq_true.mp h3 p hp), frB_ok h4, fun y hy e => ?_⟩
  have q := List.all_eq_true.mp h5 y hy
  have e2 : (decide (y.2 = .local) || decide (y.2 = .cell)) = true := by
    rcases e with e | e <;> rw [e] <;> rfl
  rw [e2] at q
  rcases Bool.or_eq_true_iff.mp (show (decide (y.1 ∈ own.map (·.1)) || decide (y.1 ∉ N)) = true from q) with z | z
  · exact .inl (of_decide_eq_true z)
  · exact .inr (of_decide_eq_true z)
def fnSB (N P : List Str) (sc : Scope) : Bool := decide (sc.kind = .function) && (!sc.isCoroutine && (!sc.isGenerator && (decide N.Nodup && (decide (N.take P.length = P) && ((P.all fun x => decide (sc.names.lookup x = some .local) || decide (sc.names.lookup x = some .cell)) && sc.names.all fun y => !decide (y.2 = .free))))))
theorem fnS_by {N P : List Str} {sc : Scope} (h : fnSB N P sc = true) : FnScope N P sc := by
  obtain ⟨h1, h⟩ := Bool.and_eq_true_iff.mp h
  obtain ⟨h2, h⟩ := Bool.and_eq_true_iff.mp h
  obtain ⟨h3, h⟩ := Bool.and_eq_true_iff.mp h
  obtain ⟨h4, h⟩ := Bool.and_eq_true_iff.mp h
  obtain ⟨h5, h⟩ := Bool.and_eq_true_iff.mp h
  obtain ⟨h6, h7⟩ := Bool.and_eq_true_iff.mp h
  exact ⟨of_decide_eq_true h1, by simpa using h2, by simpa using h3, of_decide_eq_true h4, of_decide_eq_true h5, fun x hx => by simpa using List.all_eq_true.mp h6 x hx, fun y hy => by simpa using List.all_eq_true.mp h7 y hy⟩
/-! ### facts by place -/
structure Fx (fn : List DefZ) (fb : List Fb) (tf : List Wh) (h : Heap) (K : PySem.W.Frag) (mg : Str → Option Value) : Prop where
  S : Says fn fb tf h K
  X : K.In h
  G : h.Ns mainGlobals mg
section
variable {fn : List DefZ} {fb : List Fb} {tf : List Wh} {h : Heap} {K : PySem.W.Frag} {mg : Str → Option Value}
theorem Fx.f (F : Fx fn fb tf h K mg) (i : Nat) {f : Fb} (e : fb[i]? = some f) : f.ok K = true := F.S.facts _ (List.mem_of_getElem? e)
theorem Fx.g (F : Fx fn fb tf h K mg) (i : Nat) {x : Str} (e : fb[i]? = some (.a (.glo x))) : mg x = some (.ref (He.ga K x)) := He.glo_ok F.X F.G (F.f i e)
theorem Fx.no (F : Fx fn fb tf h K mg) (i : Nat) {x : Str} (e : fb[i]? = some (.a (.free x))) : mg x = none := He.free_ok F.X F.G (F.f i e)
theorem Fx.int (F : Fx fn fb tf h K mg) (i : Nat) {x : Str} {z : Int} (e : fb[i]? = some (.a (.int x z))) : ∃ t, mg x = some (.int z t) := He.int_ok F.X F.G (F.f i e)
theorem Fx.str (F : Fx fn fb tf h K mg) (i : Nat) {x z : Str} (e : fb[i]? = some (.a (.str x z))) : ∃ t, mg x = some (.str z t) := He.str_ok F.X F.G (F.f i e)
theorem Fx.cls (F : Fx fn fb tf h K mg) (i : Nat) {x : Str} (e : fb[i]? = some (.a (.cls x))) : Cls K (He.ga K x) := He.cls_ok (F.f i e)
theorem Fx.noat (F : Fx fn fb tf h K mg) (i : Nat) {x f : Str} (e : fb[i]? = some (.a (.noat x f))) : NoAttr K (He.ga K x) f := He.noat_ok (F.f i e)
theorem Fx.meth (F : Fx fn fb tf h K mg) (i : Nat) {x m : Str} (e : fb[i]? = some (.a (.meth x m))) : Meth K (He.ga K x) m (He.ma K (He.ga K x) m) := He.meth_ok (F.f i e)
theorem Fx.mkr (F : Fx fn fb tf h K mg) (i : Nat) {x : Str} (e : fb[i]? = some (.a (.mkr x))) : Mk K (He.ga K x) (He.ma K (He.ga K x) "__init__") := He.mkr_ok (F.f i e)
theorem Fx.prop (F : Fx fn fb tf h K mg) (i : Nat) {x m : Str} (e : fb[i]? = some (.prop x m)) : PropOf K (He.ga K x) m (He.ma K (He.ga K x) m) (fW K (.prop x m)) := prop_ok (F.f i e)
theorem Fx.stat (F : Fx fn fb tf h K mg) (i : Nat) {x m : Str} (e : fb[i]? = some (.stat x m)) : SMet K (He.ga K x) (.type "type") m (He.ma K (He.ga K x) m) (fW K (.stat x m)) := stat_ok (F.f i e)
theorem Fx.own (F : Fx fn fb tf h K mg) (i : Nat) {x m : Str} (e : fb[i]? = some (.own x m)) : PySem.W.findIn K (.ref (He.ga K x)) m = some (some (.ref (He.ma K (He.ga K x) m))) ∧ PySem.W.isFn K (.ref (He.ma K (He.ga K x) m)) = true := own_ok (F.f i e)
theorem Fx.d (F : Fx fn fb tf h K mg) (i : Nat) {d : DefZ} (e : fn[i]? = some d) : ∃ cdv, FnIs K d cdv := F.S.fns _ (List.mem_of_getElem? e)
theorem Fx.tab (F : Fx fn fb tf h K mg) (i : Nat) {p : Wh} (e : tf[i]? = some p) (base : Heap) (X : K.In base) (G : base.Ns mainGlobals mg) : TabB base mg (codeZ K p) (tabZ K p) :=
  let ⟨a, b⟩ := F.S.hd p (List.mem_of_getElem? e); tabZ_ok X G a b
theorem Fx.tabAt (F : Fx fn fb tf h K mg) (i : Nat) {p : Wh} (e : tf[i]? = some p) : h.get? (tabZ K p) = some { cls := .none, data := .fields #[] } ∧ K.lookup (tabZ K p) = none ∧ ∃ c, PySem.W.CodeHd h c (tabZ K p) :=
  ⟨F.S.empty p (List.mem_of_getElem? e), F.S.out p (List.mem_of_getElem? e), _, PySem.W.codeHd_of_K F.X (F.S.hd p (List.mem_of_getElem? e)).1⟩
theorem Fx.tne (F : Fx fn fb tf h K mg) (i : Nat) {p q : Wh} (e : fb[i]? = some (.tne p q)) : tabZ K p ≠ tabZ K q := of_decide_eq_true (F.f i e)
def whZ (fn : List DefZ) (j : Nat) : Wh := match fn[j]? with
  | some d => d.at_
  | none => match fn with
    | d :: _ => d.at_
    | [] => .glo ⟨#[]⟩
theorem Fx.kp (F : Fx fn fb tf h K mg) (h0 : fn ≠ []) (j : Nat) : PySem.W.keepIn K (.ref (fW K (whZ fn j))) = true := by
  unfold whZ
  cases e : fn[j]? with
  | some d => exact let ⟨_, a, _⟩ := F.d j e; a
  | none =>
    cases fn with
    | nil => exact absurd rfl h0
    | cons d r => exact let ⟨_, a, _⟩ := F.d 0 (d := d) rfl; a
end
/-! ### places within a statement -/
def passS : Stmt := .Pass ⟨0, 0, 0, 0⟩
def noE : Expr := .Constant .none 0 ⟨0, 0, 0, 0⟩
def bodyS : Stmt → List Stmt
  | .FunctionDef _ _ b _ _ _ _ _ _ _ => b
  | .ClassDef _ _ _ b _ _ _ _ _ _ _ => b
  | .If _ b _ _ => b
  | .For _ _ b _ _ => b
  | .While _ b _ _ => b
  | .With _ b _ => b
  | .Try b _ _ _ _ => b
  | _ => []
def elseS : Stmt → List Stmt
  | .If _ _ b _ => b
  | .For _ _ _ b _ => b
  | .While _ _ b _ => b
  | .Try _ _ b _ _ => b
  | _ => []
def exprS : Stmt → List Expr
  | .Return (some e) _ => [e]
  | .Expr e _ => [e]
  | .Assign _ e _ => [e]
  | .If e _ _ _ => [e]
  | .While e _ _ _ => [e]
  | _ => []
def exprE : Expr → List Expr
  | .IfExp a b c _ => [a, b, c]
  | .Compare a _ bs _ => a :: bs
  | .Call f as ks _ => f :: (as ++ ks.map fun k => k.value)
  | .Tuple es _ _ => es
  | .List es _ => es
  | .Attribute e _ _ => [e]
  | _ => []
def stS (s : Stmt) (i : Nat) : Stmt := (bodyS s).getD i passS
def stO (s : Stmt) (i : Nat) : Stmt := (elseS s).getD i passS
def stE (s : Stmt) (i : Nat) : Expr := (exprS s).getD i noE
def exE (e : Expr) (i : Nat) : Expr := (exprE e).getD i noE
def laArgs : Expr → Arguments
  | .Lambda a _ _ _ => a
  | _ => ⟨[], [], none, [], [], none, []⟩
def laBody : Expr → Expr
  | .Lambda _ b _ _ => b
  | _ => noE
def laScope : Expr → Scope
  | .Lambda _ _ s _ => s
  | _ => ⟨.function, [], false, false, []⟩
def ownB (N : List Str) (sc : Scope) (own : List Nat) : Bool := own.all fun i => match N[i]? with
  | some x => decide (sc.names.lookup x = some .cell)
  | none => false
theorem own_by {N : List Str} {sc : Scope} {own : List Nat} (h : ownB N sc own = true) : ∀ i ∈ own, ∃ x, N[i]? = some x ∧ sc.names.lookup x = some .cell := fun i hi => by
  have q := List.all_eq_true.mp h i hi
  cases e : N[i]? with
  | none => rw [e] at q; cases q
  | some x => rw [e] at q; exact ⟨x, rfl, of_decide_eq_true q⟩
/-- turns that no loop reaches -/
def FL : Nat := 33554432
end Zk
end
section
set_option Elab.async false
set_option linter.all false
set_option maxRecDepth 100000
/-! Zk32: o.m(e, *y): a bound method is made. -/
namespace Zk
open PySem PySem.Spec PyProof.Rows L2 NdefX LamX

def MthS (T : Tb) (K : PySem.W.Frag) (i : Nat) (tbl : Nat → Option Nat) : Prop := ∀ c j, tbl c = some j → Cls K (T.cA c) ∧ BMeth K (T.cA c) (T.nm i) (T.fA j)
theorem nocls0 (l : Nat) : some l ∉ ([] : List (Option Nat)) := fun z => nomatch z
def bmeB (K : PySem.W.Frag) (g : Addr) (m : Str) : Bool := He.eqO (PySem.W.specialIn K (.ref g) "__get__") (some (some (.builtin "function.__get__"))) && (decide (PySem.W.takesIn K (.ref g) = some false) && (!PySem.W.copiedNames.contains m && PySem.W.fnIn K g))
theorem bmeB_ok {K : PySem.W.Frag} {C g : Addr} {m : Str} (mt : Meth K C m g) (h : bmeB K g m = true) : BMeth K C m g := by
  obtain ⟨h1, h⟩ := Bool.and_eq_true_iff.mp h
  obtain ⟨h2, h⟩ := Bool.and_eq_true_iff.mp h
  obtain ⟨h3, h4⟩ := Bool.and_eq_true_iff.mp h
  exact ⟨mt, He.eqO_ok h1, of_decide_eq_true h2, by simpa using h3, h4⟩
section
variable {T : Tb} {X : Cx} {cls : List (Option Nat)} {W : WX}
theorem s_methS {k i : Nat} {Φ : Dn} (C : Cal T X W k Φ) {tbl : Nat → Option Nat} (hm : MthS T X.K i tbl) {o : Expr} {es : List Expr} {mo : ME} {mk : MAK} {m : Str} {apos pos : Pos} (he : SE T X cls W o mo) (hk : SK T X cls W es [] pos mk) (hn : T.nm i = m)
    (hform : methodCallForm (es.length + ([] : List Keyword).length) (backTo pos (starEach es X.env)) (backToKw pos (keywordEach [] X.env)) = false := by rfl) (hbase : attributeBase o m X.env (eval o X.env) = eval o X.env := by rfl) :
    SE T X cls W (.Call (.Attribute o m apos) es [] pos) (eMeth Φ tbl i mo mk) := by
  subst hn
  refine ⟨fun pins s σ H Q I ⟨ρ, h, L, F, q⟩ => ?_⟩
  unfold eMeth at q
  have hpos : methodCallPos false o X.env apos pos = pure pos := rfl
  have hcal : ∀ ov, calleeOf false o X.env ov (T.nm i) = (getAttr ov (T.nm i) true >>= fun v => pure (v, [])) := fun _ => rfl
  rw [arm_eval_Call, hbase]
  refine wpAny_bind (SE.runs he I F ?_)
  cases e1 : mo L h with
  | err c fs h1 => rw [e1] at q; exact q
  | bad => rw [e1] at q; exact q
  | ok a h1 =>
    rw [e1] at q
    intro ρ1 H1 s1 v u I1 st F1 ru rv
    have q1 : PostE T X cls W ρ1 h1 H1 σ L Q (methA Φ tbl i mk a L h1) := PostE.of st q
    refine wpAny_bind (wpAny_standAt ?_)
    unfold methodCall
    rw [hform, hpos, hcal]
    cases a with
    | ref l =>
      have rv0 := rv
      simp only [RepV] at rv
      obtain ⟨rfl, hl⟩ := rv
      obtain rfl : u = Value.ref (ρ1 l) := ru
      simp only [methA] at q1
      cases eo : h1.get l with
      | none => rw [eo] at q1; exact q1.elim
      | some o' =>
        rw [eo] at q1
        cases o' with
        | ins c fs =>
          simp only at q1
          obtain ⟨dx, ws, ei, rf⟩ := F1.rep eo rfl
          cases ej : tbl c with
          | none => rw [ej] at q1; exact q1.elim
          | some j =>
            rw [ej] at q1
            cases el : fs.lookup i with
            | some b => rw [el] at q1; exact q1.elim
            | none =>
              rw [el] at q1
              have q1 : PostE T X cls W ρ1 h1 H1 σ L Q ((mk L h1).bind fun z h2 => Φ (.fn j) (.ref l :: z.1) z.2 h2) := q1
              obtain ⟨hc, hme⟩ := hm c j ej
              refine wpAny_bind (wpAny_holding (wpAny_bind (getbound_ok I1 ei hc hme (rf.none el) fun p s2 hp I2 => wpAny_pure ?_)))
              refine wpAny_bind (wpAny_pure ?_)
              have F2 := F1.aux (u := .met (T.fA j) (ρ1 l)) hp
              have st2 := step_tup (ρ := ρ1) (h := h1) (u := HO.met (T.fA j) (ρ1 l)) (fun _ _ => F1.lt) hp
              refine callWith_any (hk _ pins s2 σ _ ρ1 h1 L _ I2 F2 ?_)
              have q2 := PostE.of st2 q1
              cases em : mk L h1 with
              | err c fs h2 => rw [em] at q2; exact q2
              | bad => rw [em] at q2; exact q2
              | ok z h2 =>
                rw [em] at q2
                intro ρ3 H3 s3 us ku vs kv I3 st3 F3 ru3 rv3 kk kf
                have hmet : H3 p = some (.met (T.fA j) (ρ1 l)) := st3.keep _ _ upd_same trivial
                have mp := met_P I3 hmet
                refine ⟨fun M => PySem.W.keeps_M (M := M) hme.fi _ mp, wpAny_call (PySem.W.method_call mp.1 ?_)⟩
                have rl := RepV.step (st2.trans st3).wk _ _ rv0
                refine codeAny_mono (run_code (mg := X.mg) (fa := .fn j) (f := T.fA j) (us := .ref (ρ1 l) :: us) (vs := .ref (ρ1 l) :: vs) (as := .ref l :: z.1) C.lib C.ar rfl C.tk C.nd I3 F3 rfl (.cons rfl ru3) ⟨_, vs, rfl, rl, rv3⟩ kk kf (PostE.of st3 q2)) fun rr s' hq => ?_
                cases rr with
                | error e => exact hq
                | ok fl => cases fl with
                  | ret u => exact hq
                  | next => exact hq.elim
                  | brk => exact hq.elim
                  | cont => exact hq.elim
        | lst xs => exact q1.elim
        | rol xs => exact q1.elim
        | dic xs => exact q1.elim
        | dit xs => exact q1.elim
        | cel v => exact q1.elim
        | lok xs => exact q1.elim
        | exc c fs => exact q1.elim
    | _ => exact q1.elim
end
end Zk
end
section
set_option Elab.async false
set_option linter.all false
set_option maxRecDepth 100000
/-! Zk33: turns over a text's signs. -/
namespace Zk
open PySem PySem.Spec PyProof.Rows L2 NdefX LamX

def stP (x : Str) : PItr := fun i _ => some ((x.cps[i]?).map fun c => .str ⟨#[c]⟩)
def iAny (m : ME) : MI := fun L h => match m L h with
  | .ok (.str x) h1 => .ok (stP x) h1
  | _ => iSeq m L h
section
variable {T : Tb} {X : Cx} {cls : List (Option Nat)} {W : WX}
theorem itok_str {K : PySem.W.Frag} {x : Str} {ρ0 : Nat → Addr} {n0 : Nat} {H0 : Hp} : ItOk T K (Its x) (stP x) ρ0 n0 H0 := by
  intro X cls i ρ h L σ H hK F wk fk
  show ItSt T K _ X cls i ρ h L σ H (some ((x.cps[i]?).map fun c => A.str ⟨#[c]⟩))
  cases e : x.cps[i]? with
  | none => exact Array.getElem?_eq_none_iff.mp e
  | some c =>
    refine ⟨(Array.getElem?_eq_some_iff.mp e).1, fun v H' ⟨e1, c', e2, e3⟩ => ?_⟩
    rw [e] at e2
    cases e2
    subst e1 e3
    exact ⟨F.refl, F, rfl⟩
theorem i_any {tg e : Expr} {m : ME} (he : SE T X cls W e m) : SI T X cls W tg e (iAny m) := by
  refine PI.weak (PI.orr (i_seq he) (pi_str he)) fun σ H R ⟨ρ, h, L, F, p⟩ => ?_
  by_cases hs : ∃ x h1, m L h = .ok (.str x) h1
  · obtain ⟨x, h1, em⟩ := hs
    have ei : iAny m L h = .ok (stP x) h1 := by unfold iAny; rw [em]
    rw [ei] at p
    refine .inr ⟨ρ, h, L, F, ?_⟩
    rw [em]
    exact fun ρ' H' v st F' rv => ⟨x, rv, p ρ' H' (Its x) st F' itok_str⟩
  · have ei : iAny m L h = iSeq m L h := by
      unfold iAny
      split
      · rename_i x h1 em; exact absurd ⟨x, h1, em⟩ hs
      · rfl
    rw [ei] at p
    exact .inl ⟨ρ, h, L, F, p⟩
end
end Zk
end
section
set_option Elab.async false
set_option linter.all false
set_option maxRecDepth 100000
set_option maxHeartbeats 0
namespace K95
open PySem PySem.Spec PyProof.Rows L2 NdefX LamX Zk
/-! ### the text -/
def top (i : Nat) : Stmt := PySem.Challenge.pw_dispatchers_k95_rules_and_nodes_replaced.main.body.getD i (.Pass ⟨0, 0, 0, 0⟩)
def sub (i j : Nat) : Stmt := (stBody (top i)).getD j (.Pass ⟨0, 0, 0, 0⟩)
def st_0 : Stmt := (top 18)
def dz_0 : DefZ := .of (.glo "is_simple") "is_simple" st_0
def st_1 : Stmt := (top 31)
def dz_1 : DefZ := .of (.glo "are_same") "are_same" st_1
def st_2 : Stmt := (sub 29 2)
def dz_2 : DefZ := .of (.stat "World" "is_name") "World.is_name" st_2
def st_3 : Stmt := (sub 32 0)
def dz_3 : DefZ := .of (.meth "Node" "__init__") "Node.__init__" st_3
def st_4 : Stmt := (sub 33 0)
def dz_4 : DefZ := .of (.meth "Reader" "__init__") "Reader.__init__" st_4
def st_5 : Stmt := (sub 33 1)
def dz_5 : DefZ := .of (.meth "Reader" "note") "Reader.note" st_5
def st_6 : Stmt := (sub 33 2)
def dz_6 : DefZ := .of (.meth "Reader" "cell") "Reader.cell" st_6
def st_7 : Stmt := (sub 33 3)
def dz_7 : DefZ := .of (.meth "Reader" "call") "Reader.call" st_7
def st_8 : Stmt := (sub 34 0)
def dz_8 : DefZ := .of (.meth "Group" "__init__") "Group.__init__" st_8
def st_9 : Stmt := (sub 34 1)
def dz_9 : DefZ := .of (.meth "Group" "require_name") "Group.require_name" st_9
def st_10 : Stmt := (sub 34 2)
def dz_10 : DefZ := .of (.meth "Group" "put") "Group.put" st_10
def st_11 : Stmt := (sub 34 3)
def dz_11 : DefZ := .of (.meth "Group" "rule") "Group.rule" st_11
def st_12 : Stmt := (sub 34 4)
def dz_12 : DefZ := .of (.meth "Group" "__contains__") "Group.__contains__" st_12
def st_13 : Stmt := (sub 34 5)
def dz_13 : DefZ := .of (.meth "Group" "__len__") "Group.__len__" st_13
def st_14 : Stmt := (sub 34 6)
def dz_14 : DefZ := .of (.meth "Group" "cell") "Group.cell" st_14
def st_15 : Stmt := (sub 34 7)
def dz_15 : DefZ := .of (.meth "Group" "text_of") "Group.text_of" st_15
def st_16 : Stmt := (sub 34 8)
def dz_16 : DefZ := .of (.meth "Group" "is_unchanged") "Group.is_unchanged" st_16
def st_17 : Stmt := (sub 34 9)
def dz_17 : DefZ := .of (.meth "Group" "is_confirmed") "Group.is_confirmed" st_17
def st_18 : Stmt := (sub 34 10)
def dz_18 : DefZ := .of (.meth "Group" "compute") "Group.compute" st_18
def st_19 : Stmt := (sub 34 11)
def dz_19 : DefZ := .of (.meth "Group" "refresh") "Group.refresh" st_19
def st_20 : Stmt := (sub 34 12)
def dz_20 : DefZ := .of (.meth "Group" "call") "Group.call" st_20
def st_21 : Stmt := (sub 34 13)
def dz_21 : DefZ := .of (.meth "Group" "own_node") "Group.own_node" st_21
def st_22 : Stmt := (sub 34 14)
def dz_22 : DefZ := .of (.meth "Group" "uses") "Group.uses" st_22
def st_23 : Stmt := (sub 34 15)
def dz_23 : DefZ := .of (.meth "Group" "is_current") "Group.is_current" st_23
def st_24 : Stmt := (sub 34 16)
def dz_24 : DefZ := .of (.meth "Group" "forget") "Group.forget" st_24
def st_25 : Stmt := (sub 34 19)
def dz_25 : DefZ := .of (.prop "Group" "revision") "Group.revision" st_25
def st_26 : Stmt := (sub 34 20)
def dz_26 : DefZ := .of (.prop "Group" "outdated") "Group.outdated" st_26
def st_27 : Stmt := (top 36)
def dz_27 : DefZ := .of (.glo "_law_begun") "_law_begun" st_27
def st_28 : Stmt := (top 37)
def dz_28 : DefZ := .of (.glo "_law_next") "_law_next" st_28
def st_29 : Stmt := (top 39)
def dz_29 : DefZ := .of (.glo "_law_link") "_law_link" st_29
def st_30 : Stmt := (top 40)
def dz_30 : DefZ := .of (.glo "_law_turn") "_law_turn" st_30
def st_31 : Stmt := (top 41)
def dz_31 : DefZ := .of (.glo "law") "law" st_31
def FN : List DefZ := [dz_0, dz_1, dz_2, dz_3, dz_4, dz_5, dz_6, dz_7, dz_8, dz_9, dz_10, dz_11, dz_12, dz_13, dz_14, dz_15, dz_16, dz_17, dz_18, dz_19, dz_20, dz_21, dz_22, dz_23, dz_24, dz_25, dz_26, dz_27, dz_28, dz_29, dz_30, dz_31]
def TF : List Wh := [(.glo "_law_link"), (.glo "_law_turn")]
def NMS : List Str := (["__len__", "node", "found", "uses_read", "revision_seen", "group", "notes", "cell", "note", "call", "cells", "rules", "known", "busy", "own_revision", "tally", "require_name", "name", "function", "__contains__"] : List Str) ++ (["is_unchanged", "is_confirmed", "compute", "text_of", "refresh", "own_node", "rule", "is_current", "forget", "put", "revision", "outdated", "uses"] : List Str)
def CN : List Str := (["World", "Node", "Reader", "Group"] : List Str)
def ci_0 : NB := ⟨"_law_told", (("_law_link" : Str) ++ ".<locals>." ++ "_law_told"), stArgs (stS st_29 0), .stmts (stBody (stS st_29 0)), stScope (stS st_29 0)⟩
def ci_1 : NB := ⟨"<lambda>", (("_law_turn" : Str) ++ ".<locals>." ++ "<lambda>"), laArgs (exE (exE (exE (stE (stS st_30 4) 0) 0) 0) 2), .expr (laBody (exE (exE (exE (stE (stS st_30 4) 0) 0) 0) 2)), laScope (exE (exE (exE (stE (stS st_30 4) 0) 0) 0) 2)⟩
def CI : Nat → NB
  | 0 => ci_0
  | 1 => ci_1
  | _ => ci_0
def CFR : Nat → List Str
  | 0 => (["_law_extra", "_law_k", "_law_log"] : List Str)
  | 1 => ([] : List Str)
  | _ => []
def nmT_0 : Nat → Nat → Str := fun l c => (("_law_link" : Str) ++ ".<locals>." ++ "_law_told")
def nmT_1 : Nat → Nat → Str := fun l c => (("_law_turn" : Str) ++ ".<locals>." ++ "<lambda>")
def TT (K : PySem.W.Frag) : Tb := ⟨fun j => fW K (whZ FN j), fun c => He.ga K (nmOf CN c), nmOf NMS, CI, CFR, [(tabZ K (.glo "_law_link"), nmT_0), (tabZ K (.glo "_law_turn"), nmT_1)], nm_inj (by kernel_rfl)⟩
/-! ### the plain text -/
def at_notes : Nat → Ak
  | 2 => .fld
  | _ => .no
def at_group : Nat → Ak
  | 2 => .fld
  | _ => .no
def at_busy : Nat → Ak
  | 3 => .fld
  | _ => .no
def at_cells : Nat → Ak
  | 3 => .fld
  | _ => .no
def at_rules : Nat → Ak
  | 3 => .fld
  | _ => .no
def at_known : Nat → Ak
  | 3 => .fld
  | _ => .no
def at_node : Nat → Ak
  | 1 => .fld
  | _ => .no
def at_uses_read : Nat → Ak
  | 1 => .fld
  | _ => .no
def at_own_revision : Nat → Ak
  | 3 => .fld
  | _ => .no
def at_tally : Nat → Ak
  | 3 => .fld
  | _ => .no
def at_found : Nat → Ak
  | 1 => .fld
  | _ => .no
def at_revision_seen : Nat → Ak
  | 1 => .fld
  | _ => .no
def at_revision : Nat → Ak
  | 3 => .prop 25
  | _ => .no
def at_outdated : Nat → Ak
  | 3 => .prop 26
  | _ => .no
def okc_node : Nat → Bool
  | 1 => true
  | _ => false
def okc_found : Nat → Bool
  | 1 => true
  | _ => false
def okc_uses_read : Nat → Bool
  | 1 => true
  | _ => false
def okc_revision_seen : Nat → Bool
  | 1 => true
  | _ => false
def okc_group : Nat → Bool
  | 2 => true
  | _ => false
def okc_notes : Nat → Bool
  | 2 => true
  | _ => false
def okc_cells : Nat → Bool
  | 3 => true
  | _ => false
def okc_rules : Nat → Bool
  | 3 => true
  | _ => false
def okc_known : Nat → Bool
  | 3 => true
  | _ => false
def okc_busy : Nat → Bool
  | 3 => true
  | _ => false
def okc_own_revision : Nat → Bool
  | 3 => true
  | _ => false
def okc_tally : Nat → Bool
  | 3 => true
  | _ => false
def tb_len : Nat → Option Nat
  | 3 => some 13
  | _ => none
def tb_cell : Nat → Option Nat
  | 2 => some 6
  | 3 => some 14
  | _ => none
def tb_note : Nat → Option Nat
  | 2 => some 5
  | _ => none
def tb_call : Nat → Option Nat
  | 2 => some 7
  | 3 => some 20
  | _ => none
def tb_require_name : Nat → Option Nat
  | 3 => some 9
  | _ => none
def tb_contains : Nat → Option Nat
  | 3 => some 12
  | _ => none
def tb_is_unchanged : Nat → Option Nat
  | 3 => some 16
  | _ => none
def tb_is_confirmed : Nat → Option Nat
  | 3 => some 17
  | _ => none
def tb_compute : Nat → Option Nat
  | 3 => some 18
  | _ => none
def tb_text_of : Nat → Option Nat
  | 3 => some 15
  | _ => none
def tb_refresh : Nat → Option Nat
  | 3 => some 19
  | _ => none
def tb_own_node : Nat → Option Nat
  | 3 => some 21
  | _ => none
def tb_rule : Nat → Option Nat
  | 3 => some 11
  | _ => none
def tb_is_current : Nat → Option Nat
  | 3 => some 23
  | _ => none
def tb_forget : Nat → Option Nat
  | 3 => some 24
  | _ => none
def tb_put : Nat → Option Nat
  | 3 => some 10
  | _ => none
def tb_uses : Nat → Option Nat
  | 3 => some 22
  | _ => none
def isi_tuple : Tg → Option Bool
  | .int => some false
  | .str => some false
  | .tup => some true
  | .bl => some false
  | .non => some false
  | _ => none
def isi_int_str : Tg → Option Bool
  | .int => some true
  | .str => some true
  | .tup => some false
  | .bl => some true
  | .non => some false
  | _ => none
def isi_str : Tg → Option Bool
  | .int => some false
  | .str => some true
  | .tup => some false
  | .bl => some false
  | .non => some false
  | _ => none
def NC_0 : List Str := (["_law_reader", "_law_extra", "_law_k", "_law_log"] : List Str)
def DC_0 (Φ : Dn) : List Nat → List A → List (Nat × A) → Hq → Res A := callC 4 (bdKw 1 []) fun _ =>
    (sSeq (sExp (eBM .lst gAppend (eLoc 3) (aCons (eLoc 2) aNil)))
    (sSeq (sRet (e2 oAdd (eLoc 1) (eIf (tB2 (e2 oEq (eLoc 2) (eCon (.int 0)))) (eMeth Φ tb_cell 7 (eLoc 0) (kOf (aCons (eCon (.str "base")) aNil))) (eMeth Φ tb_call 9 (eLoc 0) (kOf (aCons (e2 oAdd (eCon (.str "link")) (eCB (g1 strA) (aCons (e2 oSub (eLoc 2) (eCon (.int 1))) aNil))) aNil))))))
    sNil))
def NC_1 : List Str := (["_law_reader"] : List Str)
def DC_1 (Φ : Dn) : List Nat → List A → List (Nat × A) → Hq → Res A := callC 1 (bdKw 1 []) fun _ =>
    (sRet (eCon (.int 0)))
def N_0 : List Str := (["value", "one"] : List Str)
def D_0 (Φ : Dn) : List A → List (Nat × A) → Hq → Res A := callF 2 (bdKw 1 [])
    (sSeq (sIf (tOfE (eIsi isi_tuple (eLoc 0))) (sSeq (sRet (eCB (g1 allA) (aCons (eLc (iAny (eLoc 0)) (gNm 1) tT (eCallF Φ (.fn 0) (kOf (aCons (eLoc 1) aNil))) [1] FL) aNil)))
    sNil) sNil)
    (sSeq (sRet (eOr (e2 (oIs false) (eLoc 0) (eCon .non)) (eIsi isi_int_str (eLoc 0))))
    sNil))
def N_1 : List Str := (["one", "other"] : List Str)
def D_1 (Φ : Dn) : List A → List (Nat × A) → Hq → Res A := callF 2 (bdKw 2 [])
    (sSeq (sRet (e2 oEq (eCB (g1 reprA) (aCons (eLoc 0) aNil)) (eCB (g1 reprA) (aCons (eLoc 1) aNil))))
    sNil)
def N_2 : List Str := (["value", "sign"] : List Str)
def D_2 (Φ : Dn) : List A → List (Nat × A) → Hq → Res A := callF 2 (bdKw 1 [])
    (sSeq (sIf (tOr (tNot (tOfE (eIsi isi_str (eLoc 0)))) (tOr (tNot (tB2 (eChain oLe oLe (eCon (.int 1)) (eCB (orG (g1 lenA) (orG (g1 lenD) (g1 (lenO Φ tb_len)))) (aCons (eLoc 0) aNil)) (eCon (.int 20))))) (tB2 (e2 (oIn true) (e2 oIx (eLoc 0) (eCon (.int 0))) (eCon (.str "abcdefghijklmnopqrstuvwxyzABCDEFGHIJKLMNOPQRSTUVWXYZ")))))) (sSeq (sRet (eCon (.bl false)))
    sNil) sNil)
    (sSeq (sRet (eCB (g1 allA) (aCons (eLc (iAny (eLoc 0)) (gNm 1) tT (e2 (oIn false) (eLoc 1) (eCon (.str "abcdefghijklmnopqrstuvwxyzABCDEFGHIJKLMNOPQRSTUVWXYZ0123456789_"))) [1] FL) aNil)))
    sNil))
def N_3 : List Str := (["self", "node", "found", "uses", "revision"] : List Str)
def D_3 (Φ : Dn) : List A → List (Nat × A) → Hq → Res A := callF 5 (bdKw 5 [])
    (sSeq (sSetA okc_node 1 (eLoc 0) (eLoc 1))
    (sSeq (sSetA okc_found 2 (eLoc 0) (eLoc 2))
    (sSeq (sSetA okc_uses_read 3 (eLoc 0) (eLoc 3))
    (sSeq (sSetA okc_revision_seen 4 (eLoc 0) (eLoc 4))
    sNil))))
def N_4 : List Str := (["self", "group"] : List Str)
def D_4 (Φ : Dn) : List A → List (Nat × A) → Hq → Res A := callF 2 (bdKw 2 [])
    (sSeq (sSetA okc_group 5 (eLoc 0) (eLoc 1))
    (sSeq (sSetA okc_notes 6 (eLoc 0) eD0)
    sNil))
def N_5 : List Str := (["self", "word", "target", "value"] : List Str)
def D_5 (Φ : Dn) : List A → List (Nat × A) → Hq → Res A := callF 4 (bdKw 4 [])
    (sSeq (sExp (eBM .dic gSetd (eAttr Φ at_notes 6 (eLoc 0)) (aCons (eCB (g1 reprA) (aCons (eTup (aCons (eLoc 1) (aCons (eLoc 2) aNil))) aNil)) (aCons (eTup (aCons (eLoc 1) (aCons (eLoc 2) (aCons (eLoc 3) aNil)))) aNil))))
    sNil)
def N_6 : List Str := (["self", "name", "found"] : List Str)
def D_6 (Φ : Dn) : List A → List (Nat × A) → Hq → Res A := callF 3 (bdKw 2 [])
    (sSeq (sAsg (gNm 2) (eMeth Φ tb_cell 7 (eAttr Φ at_group 5 (eLoc 0)) (kOf (aCons (eLoc 1) aNil))))
    (sSeq (sExp (eMeth Φ tb_note 8 (eLoc 0) (kOf (aCons (eCon (.str "cell")) (aCons (eLoc 1) (aCons (eLoc 2) aNil))))))
    (sSeq (sRet (eLoc 2))
    sNil)))
def N_7 : List Str := (["self", "rule", "parts", "found"] : List Str)
def D_7 (Φ : Dn) : List A → List (Nat × A) → Hq → Res A := callF 4 (bdStar 2)
    (sSeq (sAsg (gNm 3) (eMeth Φ tb_call 9 (eAttr Φ at_group 5 (eLoc 0)) (kOf (aCons (eLoc 1) (aStar (eLoc 2) aNil)))))
    (sSeq (sExp (eMeth Φ tb_note 8 (eLoc 0) (kOf (aCons (eCon (.str "node")) (aCons (eTup (aCons (eLoc 1) (aCons (eLoc 2) aNil))) (aCons (eLoc 3) aNil))))))
    (sSeq (sRet (eLoc 3))
    sNil)))
def N_8 : List Str := (["self"] : List Str)
def D_8 (Φ : Dn) : List A → List (Nat × A) → Hq → Res A := callF 1 (bdKw 1 [])
    (sSeq (sSetA okc_cells 10 (eLoc 0) eD0)
    (sSeq (sSetA okc_rules 11 (eLoc 0) eD0)
    (sSeq (sSetA okc_known 12 (eLoc 0) eD0)
    (sSeq (sSetA okc_busy 13 (eLoc 0) (eLst aNil))
    (sSeq (sSetA okc_own_revision 14 (eLoc 0) (eCon (.int 0)))
    (sSeq (sSetA okc_tally 15 (eLoc 0) (eLst (aCons (eCon (.int 0)) (aCons (eCon (.int 0)) (aCons (eCon (.int 0)) (aCons (eCon (.int 0)) aNil))))))
    sNil))))))
def N_9 : List Str := (["self", "name"] : List Str)
def D_9 (Φ : Dn) : List A → List (Nat × A) → Hq → Res A := callF 2 (bdKw 2 [])
    (sSeq (sIf (tNot (tOfE (eCallF Φ (.fn 2) (kOf (aCons (eLoc 1) aNil))))) sBad sNil)
    sNil)
def N_10 : List Str := (["self", "name", "value"] : List Str)
def D_10 (Φ : Dn) : List A → List (Nat × A) → Hq → Res A := callF 3 (bdKw 3 [])
    (sSeq (sExp (eMeth Φ tb_require_name 16 (eLoc 0) (kOf (aCons (eLoc 1) aNil))))
    (sSeq (sIf (tNot (tOfE (eCallF Φ (.fn 0) (kOf (aCons (eLoc 2) aNil))))) sBad sNil)
    (sSeq (sIf (tB2 (e2 oNe (eAttr Φ at_busy 13 (eLoc 0)) (eLst aNil))) sBad sNil)
    (sSeq (sIf (tAnd (tB2 (e2 (oIn false) (eLoc 1) (eAttr Φ at_cells 10 (eLoc 0)))) (tOfE (eCallF Φ (.fn 1) (kOf (aCons (e2 oIx (eAttr Φ at_cells 10 (eLoc 0)) (eLoc 1)) (aCons (eLoc 2) aNil)))))) (sSeq (sRet (eCon (.bl false)))
    sNil) sNil)
    (sSeq (sSetI (eAttr Φ at_cells 10 (eLoc 0)) (eLoc 1) (eLoc 2))
    (sSeq (sAugA oAddI okc_own_revision 14 (eLoc 0) (eCon (.int 1)))
    (sSeq (sRet (eCon (.bl true)))
    sNil)))))))
def N_11 : List Str := (["self", "name", "function", "text", "one"] : List Str)
def D_11 (Φ : Dn) : List A → List (Nat × A) → Hq → Res A := callF 5 (bdOr (bdKw 3 []) (bdKw 1 [17, 18]))
    (sSeq (sExp (eMeth Φ tb_require_name 16 (eLoc 0) (kOf (aCons (eLoc 1) aNil))))
    (sSeq (sIf (tB2 (e2 oNe (eAttr Φ at_busy 13 (eLoc 0)) (eLst aNil))) sBad sNil)
    (sSeq (sSetI (eAttr Φ at_rules 11 (eLoc 0)) (eLoc 1) (eLoc 2))
    (sSeq (sSetA okc_known 12 (eLoc 0) (eLock (eAttr Φ at_known 12 (eLoc 0)) (eDc (iIs (eAttr Φ at_known 12 (eLoc 0))) (gTupA 2 (gsCons (gNm 3) (gsCons (gNm 4) gsNil))) (tB2 (e2 oNe (e2 oIx (eAttr Φ at_node 1 (eLoc 4)) (eCon (.int 0))) (eLoc 1))) (eLoc 3) (eLoc 4) [3, 4] FL)))
    (sSeq (sAugA oAddI okc_own_revision 14 (eLoc 0) (eCon (.int 1)))
    sNil)))))
def N_12 : List Str := (["self", "value"] : List Str)
def D_12 (Φ : Dn) : List A → List (Nat × A) → Hq → Res A := callF 2 (bdKw 2 [])
    (sSeq (sRet (eAnd (eIsi isi_str (eLoc 1)) (e2 (oIn false) (eLoc 1) (eAttr Φ at_cells 10 (eLoc 0)))))
    sNil)
def N_13 : List Str := (["self"] : List Str)
def D_13 (Φ : Dn) : List A → List (Nat × A) → Hq → Res A := callF 1 (bdKw 1 [])
    (sSeq (sRet (eCB (orG (g1 lenA) (orG (g1 lenD) (g1 (lenO Φ tb_len)))) (aCons (eAttr Φ at_known 12 (eLoc 0)) aNil)))
    sNil)
def N_14 : List Str := (["self", "name"] : List Str)
def D_14 (Φ : Dn) : List A → List (Nat × A) → Hq → Res A := callF 2 (bdKw 2 [])
    (sSeq (sIf (tB2 (e2 (orE (oInO Φ tb_contains true) (oIn true)) (eLoc 1) (eLoc 0))) sBad sNil)
    (sSeq (sRet (e2 oIx (eAttr Φ at_cells 10 (eLoc 0)) (eLoc 1)))
    sNil))
def N_15 : List Str := (["self", "rule", "parts", "index", "part"] : List Str)
def D_15 (Φ : Dn) : List A → List (Nat × A) → Hq → Res A := callF 5 (bdKw 3 [])
    (sSeq (sIf (tOr (tNot (tOfE (eIsi isi_str (eLoc 1)))) (tB2 (e2 (oIn true) (eLoc 1) (eAttr Φ at_rules 11 (eLoc 0))))) sBad sNil)
    (sSeq (sFor (iEnT (eLoc 2)) (gTupA 2 (gsCons (gNm 3) (gsCons (gNm 4) gsNil)))
    (sSeq (sIf (tNot (tOfE (eCallF Φ (.fn 0) (kOf (aCons (eLoc 4) aNil))))) sBad sNil)
    sNil) FL)
    (sSeq (sRet (eCB (g1 reprA) (aCons (eTup (aCons (eLoc 1) (aCons (eLoc 2) aNil))) aNil)))
    sNil)))
def N_16 : List Str := (["self", "use", "word", "target", "value", "rule", "parts"] : List Str)
def D_16 (Φ : Dn) : List A → List (Nat × A) → Hq → Res A := callF 7 (bdKw 2 [])
    (sSeq (sAsg (gTupA 3 (gsCons (gNm 2) (gsCons (gNm 3) (gsCons (gNm 4) gsNil)))) (eLoc 1))
    (sSeq (sIf (tB2 (e2 oEq (eLoc 2) (eCon (.str "cell")))) (sSeq (sRet (eCallF Φ (.fn 1) (kOf (aCons (eMeth Φ tb_cell 7 (eLoc 0) (kOf (aCons (eLoc 3) aNil))) (aCons (eLoc 4) aNil)))))
    sNil) sNil)
    (sSeq (sAsg (gTupA 2 (gsCons (gNm 5) (gsCons (gNm 6) gsNil))) (eLoc 3))
    (sSeq (sRet (eCallF Φ (.fn 1) (kOf (aCons (eMeth Φ tb_call 9 (eLoc 0) (kOf (aCons (eLoc 5) (aStar (eLoc 6) aNil)))) (aCons (eLoc 4) aNil)))))
    sNil))))
def N_17 : List Str := (["self", "node", "use"] : List Str)
def D_17 (Φ : Dn) : List A → List (Nat × A) → Hq → Res A := callF 3 (bdKw 2 [])
    (sSeq (sFor (iAny (eAttr Φ at_uses_read 3 (eLoc 1))) (gNm 2)
    (sSeq (sIf (tNot (tOfE (eMeth Φ tb_is_unchanged 20 (eLoc 0) (kOf (aCons (eLoc 2) aNil))))) (sSeq (sRet (eCon (.bl false)))
    sNil) sNil)
    sNil) FL)
    (sSeq (sRet (eCon (.bl true)))
    sNil))
def N_18 : List Str := (["self", "rule", "parts", "reader", "function", "found"] : List Str)
def D_18 (Φ : Dn) : List A → List (Nat × A) → Hq → Res A := callF 6 (bdKw 3 [])
    (sSeq (sPar [3, 4] (aCons (eMake Φ 2 4 (kOf (aCons (eLoc 0) aNil))) (aCons (e2 oIx (eAttr Φ at_rules 11 (eLoc 0)) (eLoc 1)) aNil)))
    (sSeq (sAsg (gNm 5) (eCallL Φ 4 (kOf (aCons (eLoc 3) (aStar (eLoc 2) aNil)))))
    (sSeq (sIf (tNot (tOfE (eCallF Φ (.fn 0) (kOf (aCons (eLoc 5) aNil))))) sBad sNil)
    (sSeq (sRet (eMake Φ 1 3 (kOf (aCons (eTup (aCons (eLoc 1) (aCons (eLoc 2) aNil))) (aCons (eLoc 5) (aCons (eTupV (eAttr Φ at_notes 6 (eLoc 3))) (aCons (eAttr Φ at_own_revision 14 (eLoc 0)) aNil)))))))
    sNil))))
def N_19 : List Str := (["self", "text", "rule", "parts", "node", "place"] : List Str)
def D_19 (Φ : Dn) : List A → List (Nat × A) → Hq → Res A := callF 6 (bdKw 4 [])
    (sSeq (sPar [4, 5] (aCons (eBM .dic gPopD (eAttr Φ at_known 12 (eLoc 0)) (aCons (eLoc 1) (aCons (eCon .non) aNil))) (aCons (eCon (.int 3)) aNil)))
    (sSeq (sIf (tB2 (e2 (oIs true) (eLoc 4) (eCon .non))) (sSeq (sAsg (gNm 5) (eIf (tOfE (eMeth Φ tb_is_confirmed 21 (eLoc 0) (kOf (aCons (eLoc 4) aNil)))) (eCon (.int 1)) (eCon (.int 2))))
    sNil) sNil)
    (sSeq (sIf (tB2 (e2 oEq (eLoc 5) (eCon (.int 1)))) (sSeq (sSetA okc_revision_seen 4 (eLoc 4) (eAttr Φ at_own_revision 14 (eLoc 0)))
    sNil) (sSeq (sAsg (gNm 4) (eMeth Φ tb_compute 22 (eLoc 0) (kOf (aCons (eLoc 2) (aCons (eLoc 3) aNil)))))
    sNil))
    (sSeq (sSetI (eAttr Φ at_known 12 (eLoc 0)) (eLoc 1) (eLoc 4))
    (sSeq (sAugI oAddI (eAttr Φ at_tally 15 (eLoc 0)) (eLoc 5) (eCon (.int 1)))
    (sSeq (sRet (eAttr Φ at_found 2 (eLoc 4)))
    sNil))))))
def N_20 : List Str := (["self", "rule", "parts", "text", "outer", "found"] : List Str)
def D_20 (Φ : Dn) : List A → List (Nat × A) → Hq → Res A := callF 6 (bdStar 2)
    (sSeq (sAsg (gNm 3) (eMeth Φ tb_text_of 23 (eLoc 0) (kOf (aCons (eLoc 1) (aCons (eLoc 2) aNil)))))
    (sSeq (sIf (tB2 (e2 (oIn false) (eLoc 3) (eAttr Φ at_busy 13 (eLoc 0)))) sBad sNil)
    (sSeq (sIf (tAnd (tB2 (e2 (oIn false) (eLoc 3) (eAttr Φ at_known 12 (eLoc 0)))) (tB2 (e2 oEq (eAttr Φ at_revision_seen 4 (e2 oIx (eAttr Φ at_known 12 (eLoc 0)) (eLoc 3))) (eAttr Φ at_own_revision 14 (eLoc 0))))) (sSeq (sAugI oAddI (eAttr Φ at_tally 15 (eLoc 0)) (eCon (.int 0)) (eCon (.int 1)))
    (sSeq (sRet (eAttr Φ at_found 2 (e2 oIx (eAttr Φ at_known 12 (eLoc 0)) (eLoc 3))))
    sNil)) sNil)
    (sSeq (sAsg (gNm 4) (eAttr Φ at_busy 13 (eLoc 0)))
    (sSeq (sSetA okc_busy 13 (eLoc 0) (e2 oAdd (eLoc 4) (eLst (aCons (eLoc 3) aNil))))
    (sSeq (sFin (sSeq (sAsg (gNm 5) (eMeth Φ tb_refresh 24 (eLoc 0) (kOf (aCons (eLoc 3) (aCons (eLoc 1) (aCons (eLoc 2) aNil))))))
    sNil) (sSeq (sSetA okc_busy 13 (eLoc 0) (eLoc 4))
    sNil))
    (sSeq (sRet (eLoc 5))
    sNil)))))))
def N_21 : List Str := (["self", "rule", "parts"] : List Str)
def D_21 (Φ : Dn) : List A → List (Nat × A) → Hq → Res A := callF 3 (bdKw 3 [])
    (sSeq (sRet (eBM .dic gGet (eAttr Φ at_known 12 (eLoc 0)) (aCons (eMeth Φ tb_text_of 23 (eLoc 0) (kOf (aCons (eLoc 1) (aCons (eLoc 2) aNil)))) aNil)))
    sNil)
def N_22 : List Str := (["self", "rule", "parts", "node"] : List Str)
def D_22 (Φ : Dn) : List A → List (Nat × A) → Hq → Res A := callF 4 (bdStar 2)
    (sSeq (sAsg (gNm 3) (eMeth Φ tb_own_node 25 (eLoc 0) (kOf (aCons (eLoc 1) (aCons (eLoc 2) aNil)))))
    (sSeq (sRet (eIf (tB2 (e2 (oIs false) (eLoc 3) (eCon .non))) (eCon .non) (eAttr Φ at_uses_read 3 (eLoc 3))))
    sNil))
def N_23 : List Str := (["self", "rule", "parts", "node"] : List Str)
def D_23 (Φ : Dn) : List A → List (Nat × A) → Hq → Res A := callF 4 (bdStar 2)
    (sSeq (sAsg (gNm 3) (eMeth Φ tb_own_node 25 (eLoc 0) (kOf (aCons (eLoc 1) (aCons (eLoc 2) aNil)))))
    (sSeq (sRet (eAnd (e2 (oIs true) (eLoc 3) (eCon .non)) (e2 oEq (eAttr Φ at_revision_seen 4 (eLoc 3)) (eAttr Φ at_own_revision 14 (eLoc 0)))))
    sNil))
def N_24 : List Str := (["self", "rule", "parts", "text"] : List Str)
def D_24 (Φ : Dn) : List A → List (Nat × A) → Hq → Res A := callF 4 (bdStar 2)
    (sSeq (sAsg (gNm 3) (eMeth Φ tb_text_of 23 (eLoc 0) (kOf (aCons (eLoc 1) (aCons (eLoc 2) aNil)))))
    (sSeq (sIf (tB2 (e2 oNe (eAttr Φ at_busy 13 (eLoc 0)) (eLst aNil))) sBad sNil)
    (sSeq (sRet (e2 (oIs true) (eBM .dic gPopD (eAttr Φ at_known 12 (eLoc 0)) (aCons (eLoc 3) (aCons (eCon .non) aNil))) (eCon .non)))
    sNil)))
def N_25 : List Str := (["self"] : List Str)
def D_25 (Φ : Dn) : List A → List (Nat × A) → Hq → Res A := callF 1 (bdKw 1 [])
    (sSeq (sRet (eAttr Φ at_own_revision 14 (eLoc 0)))
    sNil)
def N_26 : List Str := (["self", "one"] : List Str)
def D_26 (Φ : Dn) : List A → List (Nat × A) → Hq → Res A := callF 2 (bdKw 1 [])
    (sSeq (sRet (eCB (orG (g1 lenA) (orG (g1 lenD) (g1 (lenO Φ tb_len)))) (aCons (eLock (eAttr Φ at_known 12 (eLoc 0)) (eLc (iVs (eAttr Φ at_known 12 (eLoc 0))) (gNm 1) (tB2 (e2 oNe (eAttr Φ at_revision_seen 4 (eLoc 1)) (eAttr Φ at_own_revision 14 (eLoc 0)))) (eLoc 1) [1] FL)) aNil)))
    sNil)
def N_27 : List Str := (["_law_script"] : List Str)
def D_27 (Φ : Dn) : List A → List (Nat × A) → Hq → Res A := callF 1 (bdKw 1 [])
    (sSeq (sRet (eDisp (pCons (eCon (.str "script")) (eLoc 0) (pCons (eCon (.str "at")) (eCon (.int 0)) (pCons (eCon (.str "left")) (eCon (.int 0)) pNil)))))
    sNil)
def N_28 : List Str := (["_law_m", "_law_total", "_law_found", "_law_k", "_law_cell", "_law_mixed"] : List Str)
def D_28 (Φ : Dn) : List A → List (Nat × A) → Hq → Res A := callF 6 (bdKw 2 [])
    (sSeq (sIf (tB2 (e2 oGt (e2 oIx (eLoc 0) (eCon (.str "left"))) (eCon (.int 0)))) (sSeq (sAsg (gNm 2) (e2 oMod (e2 oIx (eLoc 0) (eCon (.str "left"))) (eLoc 1)))
    (sSeq (sSetI (eLoc 0) (eCon (.str "left")) (e2 oDiv (e2 oIx (eLoc 0) (eCon (.str "left"))) (eLoc 1)))
    (sSeq (sRet (eLoc 2))
    sNil))) sNil)
    (sSeq (sAsg (gNm 3) (e2 oIx (eLoc 0) (eCon (.str "at"))))
    (sSeq (sSetI (eLoc 0) (eCon (.str "at")) (e2 oAdd (eLoc 3) (eCon (.int 1))))
    (sSeq (sAsg (gNm 4) (eIf (tB2 (e2 oNe (e2 oIx (eLoc 0) (eCon (.str "script"))) (eLst aNil))) (e2 oIx (e2 oIx (eLoc 0) (eCon (.str "script"))) (e2 oMod (eLoc 3) (eCB (orG (g1 lenA) (orG (g1 lenD) (g1 (lenO Φ tb_len)))) (aCons (e2 oIx (eLoc 0) (eCon (.str "script"))) aNil)))) (eCon (.int 0))))
    (sSeq (sIf (tAnd (tB2 (e2 oGe (eLoc 4) (e2 oPow (eCon (.int 10)) (eCon (.int 18))))) (tB2 (e2 oLt (eLoc 3) (eCB (orG (g1 lenA) (orG (g1 lenD) (g1 (lenO Φ tb_len)))) (aCons (e2 oIx (eLoc 0) (eCon (.str "script"))) aNil))))) (sSeq (sSetI (eLoc 0) (eCon (.str "left")) (e2 oDiv (eLoc 4) (eLoc 1)))
    (sSeq (sRet (e2 oMod (eLoc 4) (eLoc 1)))
    sNil)) sNil)
    (sSeq (sAsg (gNm 5) (e2 oAdd (e2 oMul (e2 oMod (eLoc 4) (eCon (.int 1000003))) (eCon (.int 48271))) (e2 oMod (e2 oDiv (eLoc 4) (eCon (.int 1000003))) (eCon (.int 1000003)))))
    (sSeq (sAsg (gNm 5) (e2 oMod (e2 oAdd (e2 oAdd (e2 oAdd (eLoc 5) (e2 oMul (e2 oMul (eCon (.int 7919)) (eLoc 3)) (eLoc 3))) (e2 oMul (eCon (.int 104729)) (eLoc 3))) (eCon (.int 61))) (eCon (.int 2147483647))))
    (sSeq (sRet (e2 oMod (e2 oDiv (e2 oMod (e2 oMul (e2 oMod (e2 oMul (eLoc 5) (eLoc 5)) (eCon (.int 2147483629))) (eCon (.int 69621))) (eCon (.int 2147483587))) (eCon (.int 7))) (eLoc 1)))
    sNil))))))))
def N_29 : List Str := (["_law_k", "_law_extra", "_law_log", "_law_told"] : List Str)
def D_29 (Φ : Dn) : List A → List (Nat × A) → Hq → Res A := callD 4 [0, 1, 2] (bdKw 3 []) fun n =>
    (sSeq (sNdef 3 0 [n + 1, n + 0, n + 2])
    (sSeq (sRet (eLoc 3))
    sNil))
def N_30 : List Str := (["_law_m", "_law_group", "_law_log", "_law_extras", "_law_k", "_law_times", "_law_extra", "_law_way", "_law_link_here", "_law_due", "_law_told_here"] : List Str)
def D_30 (Φ : Dn) : List A → List (Nat × A) → Hq → Res A := callF 11 (bdKw 6 [])
    (sSeq (sPar [6, 7, 8] (aCons (eCallF Φ (.fn 28) (kOf (aCons (eLoc 0) (aCons (eCon (.int 5)) aNil)))) (aCons (eCallF Φ (.fn 28) (kOf (aCons (eLoc 0) (aCons (eCon (.int 4)) aNil)))) (aCons (e2 oAdd (eCon (.str "link")) (eCB (g1 strA) (aCons (eLoc 4) aNil))) aNil))))
    (sSeq (sIf (tB2 (e2 oEq (eLoc 7) (eCon (.int 0)))) (sSeq (sAsg (gNm 9) (eIf (tB2 (e2 oNe (eLoc 6) (e2 oIx (eLoc 3) (eLoc 4)))) (eLr2 (eLoc 4) (eCB (orG (g1 lenA) (orG (g1 lenD) (g1 (lenO Φ tb_len)))) (aCons (eLoc 3) aNil))) (eLst (aCons (eLoc 4) aNil))))
    (sSeq (sSetI (eLoc 3) (eLoc 4) (eLoc 6))
    (sSeq (sAsg (gNm 10) (eMeth Φ tb_rule 26 (eLoc 1) (kOf (aCons (eLoc 8) (aCons (eCallF Φ (.fn 29) (kOf (aCons (eLoc 4) (aCons (eLoc 6) (aCons (eLoc 2) aNil))))) aNil)))))
    (sSeq (sRet (eIf (tAnd (tB2 (e2 (oIs false) (eLoc 10) (eCon .non))) (tB2 (e2 oEq (eCB (orG (g1 lenA) (orG (g1 lenD) (g1 (lenO Φ tb_len)))) (aCons (eLoc 1) aNil)) (e2 oSub (eCB (orG (g1 lenA) (orG (g1 lenD) (g1 (lenO Φ tb_len)))) (aCons (eLoc 3) aNil)) (eCon (.int 1)))))) (eTup (aCons (eLoc 7) (aCons (eLoc 9) aNil))) (eCon .non)))
    sNil)))) sNil)
    (sSeq (sIf (tB2 (e2 oEq (eLoc 7) (eCon (.int 1)))) (sSeq (sAsg (gNm 10) (eLst (aCons (eMeth Φ tb_forget 28 (eLoc 1) (kOf (aCons (eLoc 8) aNil))) (aCons (eMeth Φ tb_forget 28 (eLoc 1) (kOf (aCons (eLoc 8) aNil))) (aCons (eMeth Φ tb_is_current 27 (eLoc 1) (kOf (aCons (eLoc 8) aNil))) aNil)))))
    (sSeq (sRet (eIf (tB2 (e2 oEq (eLoc 10) (eLst (aCons (eCon (.bl true)) (aCons (eCon (.bl false)) (aCons (eCon (.bl false)) aNil)))))) (eTup (aCons (eLoc 7) (aCons (eIf (tB2 (e2 oEq (eLoc 4) (e2 oSub (eCB (orG (g1 lenA) (orG (g1 lenD) (g1 (lenO Φ tb_len)))) (aCons (eLoc 3) aNil)) (eCon (.int 1))))) (eLst (aCons (eLoc 4) aNil)) (eLst aNil)) aNil))) (eCon .non)))
    sNil)) sNil)
    (sSeq (sIf (tB2 (e2 oEq (eLoc 7) (eCon (.int 2)))) (sSeq (sRet (eIf (tOfE (eMeth Φ tb_put 29 (eLoc 1) (kOf (aCons (e2 oAdd (eCon (.str "cell")) (eCB (g1 strA) (aCons (eLoc 5) aNil))) (aCons (eCon (.int 0)) aNil))))) (eTup (aCons (eLoc 7) (aCons (eLst aNil) aNil))) (eCon .non)))
    sNil) sNil)
    (sSeq (sRet (eIf (tB2 (e2 (oIs false) (eMeth Φ tb_rule 26 (eLoc 1) (kOf (aCons (e2 oAdd (eCon (.str "other")) (eCB (g1 strA) (aCons (eLoc 5) aNil))) (aCons (eClo 1 []) aNil)))) (eCon .non))) (eTup (aCons (eLoc 7) (aCons (eLst aNil) aNil))) (eCon .non)))
    sNil)))))
def N_31 : List Str := (["_law_script", "_law_m", "_law_turn_here", "_law_group", "_law_log", "_law_count", "_law_k", "_law_extras", "_law_top", "_law_times", "_law_before", "_law_told_here"] : List Str)
def D_31 (Φ : Dn) : List A → List (Nat × A) → Hq → Res A := callF 12 (bdKw 1 [])
    (sSeq (sAsg (gNm 1) (eCallF Φ (.fn 27) (kOf (aCons (eLoc 0) aNil))))
    (sSeq (sFor (iRg1 (e2 oAdd (eCon (.int 2)) (eCB (g2 minA) (aCons (eCon (.int 6)) (aCons (eCB (orG (g1 lenA) (orG (g1 lenD) (g1 (lenO Φ tb_len)))) (aCons (eLoc 0) aNil)) aNil))))) (gNm 2)
    (sSeq (sPar [3, 4, 5] (aCons (eMake Φ 3 8 (kOf aNil)) (aCons (eLst aNil) (aCons (e2 oAdd (eCon (.int 1)) (eCallF Φ (.fn 28) (kOf (aCons (eLoc 1) (aCons (eCon (.int 6)) aNil))))) aNil))))
    (sSeq (sPar [7, 8] (aCons (eLc (iRg1 (eLoc 5)) (gNm 6) tT (eCallF Φ (.fn 28) (kOf (aCons (eLoc 1) (aCons (eCon (.int 5)) aNil)))) [6] FL) (aCons (e2 oAdd (eCon (.str "link")) (eCB (g1 strA) (aCons (e2 oSub (eLoc 5) (eCon (.int 1))) aNil))) aNil)))
    (sSeq (sExp (eMeth Φ tb_put 29 (eLoc 3) (kOf (aCons (eCon (.str "base")) (aCons (eCon (.int 10)) aNil)))))
    (sSeq (sFor (iRg1 (eLoc 5)) (gNm 6)
    (sSeq (sExp (eMeth Φ tb_rule 26 (eLoc 3) (kKw aNil [17, 18] (aCons (e2 oAdd (eCon (.str "link")) (eCB (g1 strA) (aCons (eLoc 6) aNil))) (aCons (eCallF Φ (.fn 29) (kOf (aCons (eLoc 6) (aCons (e2 oIx (eLoc 7) (eLoc 6)) (aCons (eLoc 4) aNil))))) aNil)))))
    sNil) FL)
    (sSeq (sIf (tOr (tB2 (e2 oNe (eMeth Φ tb_call 9 (eLoc 3) (kOf (aCons (eLoc 8) aNil))) (e2 oAdd (eCon (.int 10)) (eCB (g1 sumA) (aCons (eLoc 7) aNil))))) (tB2 (e2 oNe (eLoc 4) (eRev (eLr1 (eLoc 5)))))) (sSeq (sRet (eCon (.bl false)))
    sNil) sNil)
    (sSeq (sFor (iRg1 (eCon (.int 4))) (gNm 9)
    (sSeq (sPar [6, 10] (aCons (eCallF Φ (.fn 28) (kOf (aCons (eLoc 1) (aCons (eLoc 5) aNil)))) (aCons (eAttr Φ at_revision 30 (eLoc 3)) aNil)))
    (sSeq (sExp (eBM .lst gClear (eLoc 4) aNil))
    (sSeq (sAsg (gNm 11) (eCallF Φ (.fn 30) (kOf (aCons (eLoc 1) (aCons (eLoc 3) (aCons (eLoc 4) (aCons (eLoc 7) (aCons (eLoc 6) (aCons (eLoc 9) aNil)))))))))
    (sSeq (sIf (tOr (tB2 (e2 (oIs false) (eLoc 11) (eCon .non))) (tB2 (e2 oNe (eAttr Φ at_revision 30 (eLoc 3)) (e2 oAdd (eLoc 10) (eCB (g1 intA) (aCons (e2 oNe (e2 oIx (eLoc 11) (eCon (.int 0))) (eCon (.int 1))) aNil)))))) (sSeq (sRet (eCon (.bl false)))
    sNil) sNil)
    (sSeq (sIf (tB2 (e2 oNe (eAttr Φ at_outdated 31 (eLoc 3)) (eIf (tB2 (e2 oEq (e2 oIx (eLoc 11) (eCon (.int 0))) (eCon (.int 1)))) (eCon (.int 0)) (eCB (orG (g1 lenA) (orG (g1 lenD) (g1 (lenO Φ tb_len)))) (aCons (eLoc 3) aNil))))) (sSeq (sRet (eCon (.bl false)))
    sNil) sNil)
    (sSeq (sIf (tOr (tB2 (e2 oNe (eMeth Φ tb_call 9 (eLoc 3) (kOf (aCons (eLoc 8) aNil))) (e2 oAdd (eCon (.int 10)) (eCB (g1 sumA) (aCons (eLoc 7) aNil))))) (tOr (tB2 (e2 oNe (eLoc 4) (e2 oIx (eLoc 11) (eCon (.int 1))))) (tB2 (e2 oNe (eAttr Φ at_outdated 31 (eLoc 3)) (eCon (.int 0)))))) (sSeq (sRet (eCon (.bl false)))
    sNil) sNil)
    (sSeq (sIf (tAnd (tB2 (e2 oEq (e2 oIx (eLoc 11) (eCon (.int 0))) (eCon (.int 1)))) (tAnd (tB2 (e2 oLt (eLoc 6) (e2 oSub (eLoc 5) (eCon (.int 1))))) (tOr (tB2 (e2 oNe (eCB (orG (g1 lenA) (orG (g1 lenD) (g1 (lenO Φ tb_len)))) (aCons (eLoc 3) aNil)) (e2 oSub (eLoc 5) (eCon (.int 1))))) (tB2 (e2 (oIs true) (eMeth Φ tb_uses 32 (eLoc 3) (kOf (aCons (e2 oAdd (eCon (.str "link")) (eCB (g1 strA) (aCons (eLoc 6) aNil))) aNil))) (eCon .non)))))) (sSeq (sRet (eCon (.bl false)))
    sNil) sNil)
    (sSeq (sIf (tAnd (tB2 (e2 oEq (e2 oIx (eLoc 11) (eCon (.int 0))) (eCon (.int 1)))) (tB2 (e2 oNe (eMeth Φ tb_call 9 (eLoc 3) (kOf (aCons (e2 oAdd (eCon (.str "link")) (eCB (g1 strA) (aCons (eLoc 6) aNil))) aNil))) (e2 oAdd (eCon (.int 10)) (eCB (g1 sumA) (aCons (eSl (eLoc 7) oNo (oSome (e2 oAdd (eLoc 6) (eCon (.int 1))))) aNil)))))) (sSeq (sRet (eCon (.bl false)))
    sNil) sNil)
    sNil)))))))) FL)
    sNil)))))) FL)
    (sSeq (sRet (eCon (.bl true)))
    sNil)))
def DFS : List DF := [D_0, D_1, D_2, D_3, D_4, D_5, D_6, D_7, D_8, D_9, D_10, D_11, D_12, D_13, D_14, D_15, D_16, D_17, D_18, D_19, D_20, D_21, D_22, D_23, D_24, D_25, D_26, D_27, D_28, D_29, D_30, D_31]
def CFS : List CF := [DC_0, DC_1]
/-! ### facts -/
def FB : List Fb := ([.a (.free "isinstance"), .a (.free "tuple"), .a (.glo "is_simple"), .a (.free "all"), .a (.free "str"), .a (.free "int"), .a (.free "repr"), .a (.free "len"), .a (.int "MOST_NAME" 20), .a (.str "LETTERS" "abcdefghijklmnopqrstuvwxyzABCDEFGHIJKLMNOPQRSTUVWXYZ"), .a (.str "SIGNS" "abcdefghijklmnopqrstuvwxyzABCDEFGHIJKLMNOPQRSTUVWXYZ0123456789_"), .stat "World" "is_name", .a (.glo "World"), .a (.glo "are_same"), .a (.free "enumerate"), .a (.mkr "Reader"), .a (.glo "Reader"), .a (.mkr "Node"), .a (.glo "Node"), .a (.glo "_law_next")] : List Fb) ++ ([.a (.free "list"), .a (.free "range"), .a (.glo "_law_link"), .a (.glo "_law_begun"), .a (.free "min"), .a (.mkr "Group"), .a (.glo "Group"), .a (.free "sum"), .a (.glo "_law_turn"), .a (.cls "Reader"), .a (.noat "Reader" "notes"), .a (.noat "Reader" "group"), .a (.cls "Group"), .a (.noat "Group" "busy"), .a (.noat "Group" "cells"), .a (.noat "Group" "rules"), .a (.noat "Group" "known"), .a (.cls "Node"), .a (.noat "Node" "node"), .a (.noat "Node" "uses_read")] : List Fb) ++ ([.a (.noat "Group" "own_revision"), .a (.noat "Group" "tally"), .a (.noat "Node" "found"), .a (.noat "Node" "revision_seen"), .prop "Group" "revision", .prop "Group" "outdated", .own "Group" "__len__", .a (.meth "Reader" "cell"), .a (.meth "Group" "cell"), .a (.meth "Reader" "note"), .a (.meth "Reader" "call"), .a (.meth "Group" "call"), .bme "Reader" "call", .bme "Group" "call", .a (.meth "Group" "require_name"), .own "Group" "__contains__", .a (.meth "Group" "is_unchanged"), .a (.meth "Group" "is_confirmed"), .a (.meth "Group" "compute"), .a (.meth "Group" "text_of")] : List Fb) ++ ([.a (.meth "Group" "refresh"), .a (.meth "Group" "own_node"), .a (.meth "Group" "rule"), .a (.meth "Group" "is_current"), .a (.meth "Group" "forget"), .a (.meth "Group" "put"), .a (.meth "Group" "uses"), .isT .non ["tuple"] false, .isT .bl ["tuple"] false, .isT .int ["tuple"] false, .isT .str ["tuple"] false, .isT .tup ["tuple"] true, .isT .non ["int", "str"] false, .isT .bl ["int", "str"] true, .isT .int ["int", "str"] true, .isT .str ["int", "str"] true, .isT .tup ["int", "str"] false, .isT .non ["str"] false, .isT .bl ["str"] false, .isT .int ["str"] false] : List Fb) ++ ([.isT .str ["str"] true, .isT .tup ["str"] false, .tne (.glo "_law_turn") (.glo "_law_link"), .tne (.glo "_law_link") (.glo "_law_turn"), .a (.glo "law")] : List Fb)
theorem bb_all : bootBuiltins "all" = some (.builtin "all") := by decide +kernel
theorem bb_int : bootBuiltins "int" = some (.type "int") := by decide +kernel
theorem bb_len : bootBuiltins "len" = some (.builtin "len") := by decide +kernel
theorem bb_min : bootBuiltins "min" = some (.builtin "min") := by decide +kernel
theorem bb_repr : bootBuiltins "repr" = some (.builtin "repr") := by decide +kernel
theorem bb_str : bootBuiltins "str" = some (.type "str") := by decide +kernel
theorem bb_sum : bootBuiltins "sum" = some (.builtin "sum") := by decide +kernel
theorem bb_tuple : bootBuiltins "tuple" = some (.type "tuple") := by decide +kernel
section
variable {P : Program} {w : World} {K : PySem.W.Frag} {mg : Str → Option Value} {h : Heap}
abbrev FX (K : PySem.W.Frag) (h : Heap) (mg : Str → Option Value) : Prop := Fx FN FB TF h K mg
theorem at_notes_ok (F : FX K h mg) : AkOk (TT K) K 6 at_notes := fun c => match c with | 0 => trivial | 1 => trivial | 2 => ⟨F.cls 29 rfl, F.noat 30 rfl⟩ | 3 => trivial | _ + 4 => trivial
theorem at_group_ok (F : FX K h mg) : AkOk (TT K) K 5 at_group := fun c => match c with | 0 => trivial | 1 => trivial | 2 => ⟨F.cls 29 rfl, F.noat 31 rfl⟩ | 3 => trivial | _ + 4 => trivial
theorem at_busy_ok (F : FX K h mg) : AkOk (TT K) K 13 at_busy := fun c => match c with | 0 => trivial | 1 => trivial | 2 => trivial | 3 => ⟨F.cls 32 rfl, F.noat 33 rfl⟩ | _ + 4 => trivial
theorem at_cells_ok (F : FX K h mg) : AkOk (TT K) K 10 at_cells := fun c => match c with | 0 => trivial | 1 => trivial | 2 => trivial | 3 => ⟨F.cls 32 rfl, F.noat 34 rfl⟩ | _ + 4 => trivial
theorem at_rules_ok (F : FX K h mg) : AkOk (TT K) K 11 at_rules := fun c => match c with | 0 => trivial | 1 => trivial | 2 => trivial | 3 => ⟨F.cls 32 rfl, F.noat 35 rfl⟩ | _ + 4 => trivial
theorem at_known_ok (F : FX K h mg) : AkOk (TT K) K 12 at_known := fun c => match c with | 0 => trivial | 1 => trivial | 2 => trivial | 3 => ⟨F.cls 32 rfl, F.noat 36 rfl⟩ | _ + 4 => trivial
theorem at_node_ok (F : FX K h mg) : AkOk (TT K) K 1 at_node := fun c => match c with | 0 => trivial | 1 => ⟨F.cls 37 rfl, F.noat 38 rfl⟩ | 2 => trivial | 3 => trivial | _ + 4 => trivial
theorem at_uses_read_ok (F : FX K h mg) : AkOk (TT K) K 3 at_uses_read := fun c => match c with | 0 => trivial | 1 => ⟨F.cls 37 rfl, F.noat 39 rfl⟩ | 2 => trivial | 3 => trivial | _ + 4 => trivial
theorem at_own_revision_ok (F : FX K h mg) : AkOk (TT K) K 14 at_own_revision := fun c => match c with | 0 => trivial | 1 => trivial | 2 => trivial | 3 => ⟨F.cls 32 rfl, F.noat 40 rfl⟩ | _ + 4 => trivial
theorem at_tally_ok (F : FX K h mg) : AkOk (TT K) K 15 at_tally := fun c => match c with | 0 => trivial | 1 => trivial | 2 => trivial | 3 => ⟨F.cls 32 rfl, F.noat 41 rfl⟩ | _ + 4 => trivial
theorem at_found_ok (F : FX K h mg) : AkOk (TT K) K 2 at_found := fun c => match c with | 0 => trivial | 1 => ⟨F.cls 37 rfl, F.noat 42 rfl⟩ | 2 => trivial | 3 => trivial | _ + 4 => trivial
theorem at_revision_seen_ok (F : FX K h mg) : AkOk (TT K) K 4 at_revision_seen := fun c => match c with | 0 => trivial | 1 => ⟨F.cls 37 rfl, F.noat 43 rfl⟩ | 2 => trivial | 3 => trivial | _ + 4 => trivial
theorem at_revision_ok (F : FX K h mg) : AkOk (TT K) K 30 at_revision := fun c => match c with | 0 => trivial | 1 => trivial | 2 => trivial | 3 => ⟨F.cls 32 rfl, _, F.prop 44 rfl⟩ | _ + 4 => trivial
theorem at_outdated_ok (F : FX K h mg) : AkOk (TT K) K 31 at_outdated := fun c => match c with | 0 => trivial | 1 => trivial | 2 => trivial | 3 => ⟨F.cls 32 rfl, _, F.prop 45 rfl⟩ | _ + 4 => trivial
theorem okc_node_ok (F : FX K h mg) : AtOk (TT K) K 1 okc_node := fun c z => match c, z with | 0, z => nomatch z | 1, _ => ⟨F.cls 37 rfl, F.noat 38 rfl⟩ | 2, z => nomatch z | 3, z => nomatch z | _ + 4, z => nomatch z
theorem okc_found_ok (F : FX K h mg) : AtOk (TT K) K 2 okc_found := fun c z => match c, z with | 0, z => nomatch z | 1, _ => ⟨F.cls 37 rfl, F.noat 42 rfl⟩ | 2, z => nomatch z | 3, z => nomatch z | _ + 4, z => nomatch z
theorem okc_uses_read_ok (F : FX K h mg) : AtOk (TT K) K 3 okc_uses_read := fun c z => match c, z with | 0, z => nomatch z | 1, _ => ⟨F.cls 37 rfl, F.noat 39 rfl⟩ | 2, z => nomatch z | 3, z => nomatch z | _ + 4, z => nomatch z
theorem okc_revision_seen_ok (F : FX K h mg) : AtOk (TT K) K 4 okc_revision_seen := fun c z => match c, z with | 0, z => nomatch z | 1, _ => ⟨F.cls 37 rfl, F.noat 43 rfl⟩ | 2, z => nomatch z | 3, z => nomatch z | _ + 4, z => nomatch z
theorem okc_group_ok (F : FX K h mg) : AtOk (TT K) K 5 okc_group := fun c z => match c, z with | 0, z => nomatch z | 1, z => nomatch z | 2, _ => ⟨F.cls 29 rfl, F.noat 31 rfl⟩ | 3, z => nomatch z | _ + 4, z => nomatch z
theorem okc_notes_ok (F : FX K h mg) : AtOk (TT K) K 6 okc_notes := fun c z => match c, z with | 0, z => nomatch z | 1, z => nomatch z | 2, _ => ⟨F.cls 29 rfl, F.noat 30 rfl⟩ | 3, z => nomatch z | _ + 4, z => nomatch z
theorem okc_cells_ok (F : FX K h mg) : AtOk (TT K) K 10 okc_cells := fun c z => match c, z with | 0, z => nomatch z | 1, z => nomatch z | 2, z => nomatch z | 3, _ => ⟨F.cls 32 rfl, F.noat 34 rfl⟩ | _ + 4, z => nomatch z
theorem okc_rules_ok (F : FX K h mg) : AtOk (TT K) K 11 okc_rules := fun c z => match c, z with | 0, z => nomatch z | 1, z => nomatch z | 2, z => nomatch z | 3, _ => ⟨F.cls 32 rfl, F.noat 35 rfl⟩ | _ + 4, z => nomatch z
theorem okc_known_ok (F : FX K h mg) : AtOk (TT K) K 12 okc_known := fun c z => match c, z with | 0, z => nomatch z | 1, z => nomatch z | 2, z => nomatch z | 3, _ => ⟨F.cls 32 rfl, F.noat 36 rfl⟩ | _ + 4, z => nomatch z
theorem okc_busy_ok (F : FX K h mg) : AtOk (TT K) K 13 okc_busy := fun c z => match c, z with | 0, z => nomatch z | 1, z => nomatch z | 2, z => nomatch z | 3, _ => ⟨F.cls 32 rfl, F.noat 33 rfl⟩ | _ + 4, z => nomatch z
theorem okc_own_revision_ok (F : FX K h mg) : AtOk (TT K) K 14 okc_own_revision := fun c z => match c, z with | 0, z => nomatch z | 1, z => nomatch z | 2, z => nomatch z | 3, _ => ⟨F.cls 32 rfl, F.noat 40 rfl⟩ | _ + 4, z => nomatch z
theorem okc_tally_ok (F : FX K h mg) : AtOk (TT K) K 15 okc_tally := fun c z => match c, z with | 0, z => nomatch z | 1, z => nomatch z | 2, z => nomatch z | 3, _ => ⟨F.cls 32 rfl, F.noat 41 rfl⟩ | _ + 4, z => nomatch z
theorem tb_len_own (F : FX K h mg) : OwnOk (TT K) K "__len__" tb_len := fun c j z => match c, j, z with | 0, _, z => nomatch z | 1, _, z => nomatch z | 2, _, z => nomatch z | 3, _, z => by cases z; exact F.own 46 rfl | _ + 4, _, z => nomatch z
theorem tb_cell_ok (F : FX K h mg) : MthOk (TT K) K 7 tb_cell := fun c j z => match c, j, z with | 0, _, z => nomatch z | 1, _, z => nomatch z | 2, _, z => by cases z; exact ⟨F.cls 29 rfl, F.meth 47 rfl⟩ | 3, _, z => by cases z; exact ⟨F.cls 32 rfl, F.meth 48 rfl⟩ | _ + 4, _, z => nomatch z
theorem tb_note_ok (F : FX K h mg) : MthOk (TT K) K 8 tb_note := fun c j z => match c, j, z with | 0, _, z => nomatch z | 1, _, z => nomatch z | 2, _, z => by cases z; exact ⟨F.cls 29 rfl, F.meth 49 rfl⟩ | 3, _, z => nomatch z | _ + 4, _, z => nomatch z
theorem tb_call_ok (F : FX K h mg) : MthOk (TT K) K 9 tb_call := fun c j z => match c, j, z with | 0, _, z => nomatch z | 1, _, z => nomatch z | 2, _, z => by cases z; exact ⟨F.cls 29 rfl, F.meth 50 rfl⟩ | 3, _, z => by cases z; exact ⟨F.cls 32 rfl, F.meth 51 rfl⟩ | _ + 4, _, z => nomatch z
theorem tb_call_okS (F : FX K h mg) : MthS (TT K) K 9 tb_call := fun c j z => match c, j, z with | 0, _, z => nomatch z | 1, _, z => nomatch z | 2, _, z => by cases z; exact ⟨F.cls 29 rfl, bmeB_ok (F.meth 50 rfl) (F.f 52 (f := .bme "Reader" "call") rfl)⟩ | 3, _, z => by cases z; exact ⟨F.cls 32 rfl, bmeB_ok (F.meth 51 rfl) (F.f 53 (f := .bme "Group" "call") rfl)⟩ | _ + 4, _, z => nomatch z
theorem tb_require_name_ok (F : FX K h mg) : MthOk (TT K) K 16 tb_require_name := fun c j z => match c, j, z with | 0, _, z => nomatch z | 1, _, z => nomatch z | 2, _, z => nomatch z | 3, _, z => by cases z; exact ⟨F.cls 32 rfl, F.meth 54 rfl⟩ | _ + 4, _, z => nomatch z
theorem tb_contains_own (F : FX K h mg) : OwnOk (TT K) K "__contains__" tb_contains := fun c j z => match c, j, z with | 0, _, z => nomatch z | 1, _, z => nomatch z | 2, _, z => nomatch z | 3, _, z => by cases z; exact F.own 55 rfl | _ + 4, _, z => nomatch z
theorem tb_is_unchanged_ok (F : FX K h mg) : MthOk (TT K) K 20 tb_is_unchanged := fun c j z => match c, j, z with | 0, _, z => nomatch z | 1, _, z => nomatch z | 2, _, z => nomatch z | 3, _, z => by cases z; exact ⟨F.cls 32 rfl, F.meth 56 rfl⟩ | _ + 4, _, z => nomatch z
theorem tb_is_confirmed_ok (F : FX K h mg) : MthOk (TT K) K 21 tb_is_confirmed := fun c j z => match c, j, z with | 0, _, z => nomatch z | 1, _, z => nomatch z | 2, _, z => nomatch z | 3, _, z => by cases z; exact ⟨F.cls 32 rfl, F.meth 57 rfl⟩ | _ + 4, _, z => nomatch z
theorem tb_compute_ok (F : FX K h mg) : MthOk (TT K) K 22 tb_compute := fun c j z => match c, j, z with | 0, _, z => nomatch z | 1, _, z => nomatch z | 2, _, z => nomatch z | 3, _, z => by cases z; exact ⟨F.cls 32 rfl, F.meth 58 rfl⟩ | _ + 4, _, z => nomatch z
theorem tb_text_of_ok (F : FX K h mg) : MthOk (TT K) K 23 tb_text_of := fun c j z => match c, j, z with | 0, _, z => nomatch z | 1, _, z => nomatch z | 2, _, z => nomatch z | 3, _, z => by cases z; exact ⟨F.cls 32 rfl, F.meth 59 rfl⟩ | _ + 4, _, z => nomatch z
theorem tb_refresh_ok (F : FX K h mg) : MthOk (TT K) K 24 tb_refresh := fun c j z => match c, j, z with | 0, _, z => nomatch z | 1, _, z => nomatch z | 2, _, z => nomatch z | 3, _, z => by cases z; exact ⟨F.cls 32 rfl, F.meth 60 rfl⟩ | _ + 4, _, z => nomatch z
theorem tb_own_node_ok (F : FX K h mg) : MthOk (TT K) K 25 tb_own_node := fun c j z => match c, j, z with | 0, _, z => nomatch z | 1, _, z => nomatch z | 2, _, z => nomatch z | 3, _, z => by cases z; exact ⟨F.cls 32 rfl, F.meth 61 rfl⟩ | _ + 4, _, z => nomatch z
theorem tb_rule_ok (F : FX K h mg) : MthOk (TT K) K 26 tb_rule := fun c j z => match c, j, z with | 0, _, z => nomatch z | 1, _, z => nomatch z | 2, _, z => nomatch z | 3, _, z => by cases z; exact ⟨F.cls 32 rfl, F.meth 62 rfl⟩ | _ + 4, _, z => nomatch z
theorem tb_is_current_ok (F : FX K h mg) : MthOk (TT K) K 27 tb_is_current := fun c j z => match c, j, z with | 0, _, z => nomatch z | 1, _, z => nomatch z | 2, _, z => nomatch z | 3, _, z => by cases z; exact ⟨F.cls 32 rfl, F.meth 63 rfl⟩ | _ + 4, _, z => nomatch z
theorem tb_forget_ok (F : FX K h mg) : MthOk (TT K) K 28 tb_forget := fun c j z => match c, j, z with | 0, _, z => nomatch z | 1, _, z => nomatch z | 2, _, z => nomatch z | 3, _, z => by cases z; exact ⟨F.cls 32 rfl, F.meth 64 rfl⟩ | _ + 4, _, z => nomatch z
theorem tb_put_ok (F : FX K h mg) : MthOk (TT K) K 29 tb_put := fun c j z => match c, j, z with | 0, _, z => nomatch z | 1, _, z => nomatch z | 2, _, z => nomatch z | 3, _, z => by cases z; exact ⟨F.cls 32 rfl, F.meth 65 rfl⟩ | _ + 4, _, z => nomatch z
theorem tb_uses_ok (F : FX K h mg) : MthOk (TT K) K 32 tb_uses := fun c j z => match c, j, z with | 0, _, z => nomatch z | 1, _, z => nomatch z | 2, _, z => nomatch z | 3, _, z => by cases z; exact ⟨F.cls 32 rfl, F.meth 66 rfl⟩ | _ + 4, _, z => nomatch z
theorem isi_tuple_ok (F : FX K h mg) : IsOk (TT K) K [.type "tuple"] isi_tuple := fun tg b z => match tg, b, z with | .non, _, z => by cases z; exact ⟨of_decide_eq_true (F.f 67 (f := .isT .non ["tuple"] false) rfl), trivial⟩ | .bl, _, z => by cases z; exact ⟨of_decide_eq_true (F.f 68 (f := .isT .bl ["tuple"] false) rfl), trivial⟩ | .int, _, z => by cases z; exact ⟨of_decide_eq_true (F.f 69 (f := .isT .int ["tuple"] false) rfl), trivial⟩ | .str, _, z => by cases z; exact ⟨of_decide_eq_true (F.f 70 (f := .isT .str ["tuple"] false) rfl), trivial⟩ | .tup, _, z => by cases z; exact ⟨of_decide_eq_true (F.f 71 (f := .isT .tup ["tuple"] true) rfl), trivial⟩ | .lst, _, z => nomatch z | .dic, _, z => nomatch z | .ins _, _, z => nomatch z | .exc _, _, z => nomatch z
theorem isi_int_str_ok (F : FX K h mg) : IsOk (TT K) K [.type "int", .type "str"] isi_int_str := fun tg b z => match tg, b, z with | .non, _, z => by cases z; exact ⟨of_decide_eq_true (F.f 72 (f := .isT .non ["int", "str"] false) rfl), trivial⟩ | .bl, _, z => by cases z; exact ⟨of_decide_eq_true (F.f 73 (f := .isT .bl ["int", "str"] true) rfl), trivial⟩ | .int, _, z => by cases z; exact ⟨of_decide_eq_true (F.f 74 (f := .isT .int ["int", "str"] true) rfl), trivial⟩ | .str, _, z => by cases z; exact ⟨of_decide_eq_true (F.f 75 (f := .isT .str ["int", "str"] true) rfl), trivial⟩ | .tup, _, z => by cases z; exact ⟨of_decide_eq_true (F.f 76 (f := .isT .tup ["int", "str"] false) rfl), trivial⟩ | .lst, _, z => nomatch z | .dic, _, z => nomatch z | .ins _, _, z => nomatch z | .exc _, _, z => nomatch z
theorem isi_str_ok (F : FX K h mg) : IsOk (TT K) K [.type "str"] isi_str := fun tg b z => match tg, b, z with | .non, _, z => by cases z; exact ⟨of_decide_eq_true (F.f 77 (f := .isT .non ["str"] false) rfl), trivial⟩ | .bl, _, z => by cases z; exact ⟨of_decide_eq_true (F.f 78 (f := .isT .bl ["str"] false) rfl), trivial⟩ | .int, _, z => by cases z; exact ⟨of_decide_eq_true (F.f 79 (f := .isT .int ["str"] false) rfl), trivial⟩ | .str, _, z => by cases z; exact ⟨of_decide_eq_true (F.f 80 (f := .isT .str ["str"] true) rfl), trivial⟩ | .tup, _, z => by cases z; exact ⟨of_decide_eq_true (F.f 81 (f := .isT .tup ["str"] false) rfl), trivial⟩ | .lst, _, z => nomatch z | .dic, _, z => nomatch z | .ins _, _, z => nomatch z | .exc _, _, z => nomatch z
theorem tt_u0 (F : FX K h mg) (p : NTab) (hp : p ∈ (TT K).tt) (e : p.1 = tabZ K (.glo "_law_link")) : p.2 = nmT_0 := by
  have hp : p ∈ [(tabZ K (.glo "_law_link"), nmT_0), (tabZ K (.glo "_law_turn"), nmT_1)] := hp
  exact (match List.mem_cons.mp hp with | .inl q => (by cases q; exact rfl) | .inr hp => (match List.mem_cons.mp hp with | .inl q => (by cases q; exact absurd e (F.tne 82 rfl)) | .inr hp => (by cases hp)))
theorem tt_u1 (F : FX K h mg) (p : NTab) (hp : p ∈ (TT K).tt) (e : p.1 = tabZ K (.glo "_law_turn")) : p.2 = nmT_1 := by
  have hp : p ∈ [(tabZ K (.glo "_law_link"), nmT_0), (tabZ K (.glo "_law_turn"), nmT_1)] := hp
  exact (match List.mem_cons.mp hp with | .inl q => (by cases q; exact absurd e (F.tne 83 rfl)) | .inr hp => (match List.mem_cons.mp hp with | .inl q => (by cases q; exact rfl) | .inr hp => (by cases hp)))
theorem tabs_at (F : FX K h mg) (p : NTab) (hp : p ∈ (TT K).tt) : h.get? p.1 = some { cls := .none, data := .fields #[] } ∧ K.lookup p.1 = none ∧ ∃ c, PySem.W.CodeHd h c p.1 := by
  have hp : p ∈ [(tabZ K (.glo "_law_link"), nmT_0), (tabZ K (.glo "_law_turn"), nmT_1)] := hp
  exact (match List.mem_cons.mp hp with | .inl q => (by cases q; exact F.tabAt 0 rfl) | .inr hp => (match List.mem_cons.mp hp with | .inl q => (by cases q; exact F.tabAt 1 rfl) | .inr hp => (by cases hp)))
theorem law_at (F : FX K h mg) : mg "law" = some (.ref ((TT K).fA 31)) := (F.g 84 rfl)
/-! ### each def does what its plain text says -/
theorem S_0 : FnScope N_0 (["value"] : List Str) dz_0.scope := fnS_by (by kernel_rfl)
theorem d_0 (F : FX K h mg) {k : Nat} {Φ : Dn} (y : Hyp (TT K) P w K mg k Φ) : COk (TT K) P w K mg (k + 2) ((TT K).fA 0) (D_0 Φ) := by
  obtain ⟨cdv, f0⟩ := F.d 0 (d := dz_0) rfl
  have hcc := f0.code
  obtain ⟨kp, oc, od, doc, pm, an, ct, osl, lk, hcd0⟩ := f0
  have hcd := And.intro hcd0 hcc
  have S_nd : N_0.Nodup := S_0.nd
  refine fn_def (N := N_0) lk hcd.1 S_0 (bo_pos (n := 1) (fun us hl => match us, hl with | [_], _ => rfl) rfl) fun base B outer s H E ar => ?_
  have C : Cal (TT K) (xD P w K mg base N_0 dz_0.qual dz_0.scope ((TT K).fA 0) cdv B outer s H E) (wD E) (k + 1) Φ := y.cal ar takes_xD S_nd
  exact (b_cons (s_if (t_val (s_isi (isi_tuple_ok F) (s_loc (i := 0) rfl (.inl rfl)) (pe_bltn (v := .ty "tuple") rfl (F.no 1 rfl) bb_tuple rfl) (.ty _) rfl (F.no 0 rfl))) (b_cons (s_ret (s_callB (cb_all rfl) (a_cons (s_lc (own := [("one", 1)]) (fuel := FL) rfl S_nd nocls0 (i_any (s_loc (i := 0) rfl (.inl rfl))) (blk_by (by kernel_rfl)) rfl (tg_nm nocls0 (show 1 < N_0.length from by decide) (by decide)) (fun _ _ _ _ _ => (pg_name S_nd rfl (.inl rfl))) (fun _ _ _ _ _ => ts_nil) (fun _ _ _ _ _ => (s_callG (j := 0) C.blk (k_pos (a_cons (s_loc (i := 1) rfl (.inl rfl)) a_nil)) rfl (F.g 2 rfl)))) a_nil) rfl (F.no 3 rfl) bb_all))
    b_nil) b_nil)
    (b_cons (s_ret (s_or (s_cmpv c_is (s_loc (i := 0) rfl (.inl rfl)) s_non) (s_one (s_isiT (cvs := [.ty "int", .ty "str"]) (isi_int_str_ok F) (s_loc (i := 0) rfl (.inl rfl)) (pa_cons (pe_bltn (v := .ty "int") (by rfl) (F.no 5 rfl) bb_int rfl) (pa_cons (pe_bltn (v := .ty "str") (by rfl) (F.no 4 rfl) bb_str rfl) pa_nil)) (by decide) (.cons (.ty _) (.cons (.ty _) .nil)) rfl (F.no 0 rfl)))))
    b_nil))
theorem S_1 : FnScope N_1 (["one", "other"] : List Str) dz_1.scope := fnS_by (by kernel_rfl)
theorem d_1 (F : FX K h mg) {k : Nat} {Φ : Dn} (y : Hyp (TT K) P w K mg k Φ) : COk (TT K) P w K mg (k + 2) ((TT K).fA 1) (D_1 Φ) := by
  obtain ⟨cdv, f0⟩ := F.d 1 (d := dz_1) rfl
  have hcc := f0.code
  obtain ⟨kp, oc, od, doc, pm, an, ct, osl, lk, hcd0⟩ := f0
  have hcd := And.intro hcd0 hcc
  have S_nd : N_1.Nodup := S_1.nd
  refine fn_def (N := N_1) lk hcd.1 S_1 (bo_pos (n := 2) (fun us hl => match us, hl with | [_, _], _ => rfl) rfl) fun base B outer s H E ar => ?_
  have C : Cal (TT K) (xD P w K mg base N_1 dz_1.qual dz_1.scope ((TT K).fA 1) cdv B outer s H E) (wD E) (k + 1) Φ := y.cal ar takes_xD S_nd
  exact (b_cons (s_ret (s_cmpv (c_eq C.ar) (s_callB (cb_repr C.ar) (a_cons (s_loc (i := 0) rfl (.inl rfl)) a_nil) rfl (F.no 6 rfl) bb_repr) (s_callB (cb_repr C.ar) (a_cons (s_loc (i := 1) rfl (.inl rfl)) a_nil) rfl (F.no 6 rfl) bb_repr)))
    b_nil)
theorem S_2 : FnScope N_2 (["value"] : List Str) dz_2.scope := fnS_by (by kernel_rfl)
theorem d_2 (F : FX K h mg) {k : Nat} {Φ : Dn} (y : Hyp (TT K) P w K mg k Φ) : COk (TT K) P w K mg (k + 2) ((TT K).fA 2) (D_2 Φ) := by
  obtain ⟨cdv, f0⟩ := F.d 2 (d := dz_2) rfl
  have hcc := f0.code
  obtain ⟨kp, oc, od, doc, pm, an, ct, osl, lk, hcd0⟩ := f0
  have hcd := And.intro hcd0 hcc
  have S_nd : N_2.Nodup := S_2.nd
  refine fn_def (N := N_2) lk hcd.1 S_2 (bo_pos (n := 1) (fun us hl => match us, hl with | [_], _ => rfl) rfl) fun base B outer s H E ar => ?_
  have C : Cal (TT K) (xD P w K mg base N_2 dz_2.qual dz_2.scope ((TT K).fA 2) cdv B outer s H E) (wD E) (k + 1) Φ := y.cal ar takes_xD S_nd
  exact (b_cons (s_if (PW.pt (w_or (t_not (t_val (s_isi (isi_str_ok F) (s_loc (i := 0) rfl (.inl rfl)) (pe_bltn (v := .ty "str") rfl (F.no 4 rfl) bb_str rfl) (.ty _) rfl (F.no 0 rfl)))) (w_or (t_not (t_chain c_le c_le s_int (s_callB (cb_len.or (cb_lenD.or (cb_lenO C y.lib (tb_len_own F)))) (a_cons (s_loc (i := 0) rfl (.inl rfl)) a_nil) rfl (F.no 7 rfl) bb_len) (s_gint rfl (F.int 8 rfl).choose_spec))) (w_or1 (t_cmpv (c_nin C.ar) (s_idx C.ar (s_loc (i := 0) rfl (.inl rfl)) s_int) (s_gstr rfl (F.str 9 rfl).choose_spec)))))) (b_cons (s_ret s_bl)
    b_nil) b_nil)
    (b_cons (s_ret (s_callB (cb_all rfl) (a_cons (s_lc (own := [("sign", 1)]) (fuel := FL) rfl S_nd nocls0 (i_any (s_loc (i := 0) rfl (.inl rfl))) (blk_by (by kernel_rfl)) rfl (tg_nm nocls0 (show 1 < N_2.length from by decide) (by decide)) (fun _ _ _ _ _ => (pg_name S_nd rfl (.inl rfl))) (fun _ _ _ _ _ => ts_nil) (fun _ _ _ _ _ => (s_cmpv (c_in C.blk.ar) (s_loc (i := 1) rfl (.inl rfl)) (s_gstr rfl (F.str 10 rfl).choose_spec)))) a_nil) rfl (F.no 3 rfl) bb_all))
    b_nil))
theorem S_3 : FnScope N_3 (["self", "node", "found", "uses", "revision"] : List Str) dz_3.scope := fnS_by (by kernel_rfl)
theorem d_3 (F : FX K h mg) {k : Nat} {Φ : Dn} (y : Hyp (TT K) P w K mg k Φ) : COk (TT K) P w K mg (k + 2) ((TT K).fA 3) (D_3 Φ) := by
  obtain ⟨cdv, f0⟩ := F.d 3 (d := dz_3) rfl
  have hcc := f0.code
  obtain ⟨kp, oc, od, doc, pm, an, ct, osl, lk, hcd0⟩ := f0
  have hcd := And.intro hcd0 hcc
  have S_nd : N_3.Nodup := S_3.nd
  refine fn_def (N := N_3) lk hcd.1 S_3 (bo_pos (n := 5) (fun us hl => match us, hl with | [_, _, _, _, _], _ => rfl) rfl) fun base B outer s H E ar => ?_
  have C : Cal (TT K) (xD P w K mg base N_3 dz_3.qual dz_3.scope ((TT K).fA 3) cdv B outer s H E) (wD E) (k + 1) Φ := y.cal ar takes_xD S_nd
  exact (b_cons (s_setA (okc_node_ok F) (s_loc (i := 0) rfl (.inl rfl)) (s_loc (i := 1) rfl (.inl rfl)) rfl)
    (b_cons (s_setA (okc_found_ok F) (s_loc (i := 0) rfl (.inl rfl)) (s_loc (i := 2) rfl (.inl rfl)) rfl)
    (b_cons (s_setA (okc_uses_read_ok F) (s_loc (i := 0) rfl (.inl rfl)) (s_loc (i := 3) rfl (.inl rfl)) rfl)
    (b_cons (s_setA (okc_revision_seen_ok F) (s_loc (i := 0) rfl (.inl rfl)) (s_loc (i := 4) rfl (.inl rfl)) rfl)
    b_nil))))
theorem S_4 : FnScope N_4 (["self", "group"] : List Str) dz_4.scope := fnS_by (by kernel_rfl)
theorem d_4 (F : FX K h mg) {k : Nat} {Φ : Dn} (y : Hyp (TT K) P w K mg k Φ) : COk (TT K) P w K mg (k + 2) ((TT K).fA 4) (D_4 Φ) := by
  obtain ⟨cdv, f0⟩ := F.d 4 (d := dz_4) rfl
  have hcc := f0.code
  obtain ⟨kp, oc, od, doc, pm, an, ct, osl, lk, hcd0⟩ := f0
  have hcd := And.intro hcd0 hcc
  have S_nd : N_4.Nodup := S_4.nd
  refine fn_def (N := N_4) lk hcd.1 S_4 (bo_pos (n := 2) (fun us hl => match us, hl with | [_, _], _ => rfl) rfl) fun base B outer s H E ar => ?_
  have C : Cal (TT K) (xD P w K mg base N_4 dz_4.qual dz_4.scope ((TT K).fA 4) cdv B outer s H E) (wD E) (k + 1) Φ := y.cal ar takes_xD S_nd
  exact (b_cons (s_setA (okc_group_ok F) (s_loc (i := 0) rfl (.inl rfl)) (s_loc (i := 1) rfl (.inl rfl)) rfl)
    (b_cons (s_setA (okc_notes_ok F) (s_loc (i := 0) rfl (.inl rfl)) e_dic0 rfl)
    b_nil))
theorem S_5 : FnScope N_5 (["self", "word", "target", "value"] : List Str) dz_5.scope := fnS_by (by kernel_rfl)
theorem d_5 (F : FX K h mg) {k : Nat} {Φ : Dn} (y : Hyp (TT K) P w K mg k Φ) : COk (TT K) P w K mg (k + 2) ((TT K).fA 5) (D_5 Φ) := by
  obtain ⟨cdv, f0⟩ := F.d 5 (d := dz_5) rfl
  have hcc := f0.code
  obtain ⟨kp, oc, od, doc, pm, an, ct, osl, lk, hcd0⟩ := f0
  have hcd := And.intro hcd0 hcc
  have S_nd : N_5.Nodup := S_5.nd
  refine fn_def (N := N_5) lk hcd.1 S_5 (bo_pos (n := 4) (fun us hl => match us, hl with | [_, _, _, _], _ => rfl) rfl) fun base B outer s H E ar => ?_
  have C : Cal (TT K) (xD P w K mg base N_5 dz_5.qual dz_5.scope ((TT K).fA 5) cdv B outer s H E) (wD E) (k + 1) Φ := y.cal ar takes_xD S_nd
  exact (b_cons (s_exp (s_bm (t := .dic) PySem.F.plainAttrs_dict PySem.F.slot_dict_setdefault rfl mb_setd (s_attr C y.lib (at_notes_ok F) (s_loc (i := 0) rfl (.inl rfl)) rfl) (a_cons (s_callB (cb_repr C.ar) (a_cons (s_tup (a_cons (s_loc (i := 1) rfl (.inl rfl)) (a_cons (s_loc (i := 2) rfl (.inl rfl)) a_nil))) a_nil) rfl (F.no 6 rfl) bb_repr) (a_cons (s_tup (a_cons (s_loc (i := 1) rfl (.inl rfl)) (a_cons (s_loc (i := 2) rfl (.inl rfl)) (a_cons (s_loc (i := 3) rfl (.inl rfl)) a_nil)))) a_nil))))
    b_nil)
theorem S_6 : FnScope N_6 (["self", "name"] : List Str) dz_6.scope := fnS_by (by kernel_rfl)
theorem d_6 (F : FX K h mg) {k : Nat} {Φ : Dn} (y : Hyp (TT K) P w K mg k Φ) : COk (TT K) P w K mg (k + 2) ((TT K).fA 6) (D_6 Φ) := by
  obtain ⟨cdv, f0⟩ := F.d 6 (d := dz_6) rfl
  have hcc := f0.code
  obtain ⟨kp, oc, od, doc, pm, an, ct, osl, lk, hcd0⟩ := f0
  have hcd := And.intro hcd0 hcc
  have S_nd : N_6.Nodup := S_6.nd
  refine fn_def (N := N_6) lk hcd.1 S_6 (bo_pos (n := 2) (fun us hl => match us, hl with | [_, _], _ => rfl) rfl) fun base B outer s H E ar => ?_
  have C : Cal (TT K) (xD P w K mg base N_6 dz_6.qual dz_6.scope ((TT K).fA 6) cdv B outer s H E) (wD E) (k + 1) Φ := y.cal ar takes_xD S_nd
  exact (b_cons (s_asg (s_meth C (tb_cell_ok F) (s_attr C y.lib (at_group_ok F) (s_loc (i := 0) rfl (.inl rfl)) rfl) (k_pos (a_cons (s_loc (i := 1) rfl (.inl rfl)) a_nil)) rfl) (g_nm S_nd rfl rfl) nx_nm)
    (b_cons (s_exp (s_meth C (tb_note_ok F) (s_loc (i := 0) rfl (.inl rfl)) (k_pos (a_cons s_str (a_cons (s_loc (i := 1) rfl (.inl rfl)) (a_cons (s_loc (i := 2) rfl (.inl rfl)) a_nil)))) rfl))
    (b_cons (s_ret (s_loc (i := 2) rfl (.inl rfl)))
    b_nil)))
theorem S_7 : FnScope N_7 (["self", "rule", "parts"] : List Str) dz_7.scope := fnS_by (by kernel_rfl)
theorem d_7 (F : FX K h mg) {k : Nat} {Φ : Dn} (y : Hyp (TT K) P w K mg k Φ) : COk (TT K) P w K mg (k + 2) ((TT K).fA 7) (D_7 Φ) := by
  obtain ⟨cdv, f0⟩ := F.d 7 (d := dz_7) rfl
  have hcc := f0.code
  obtain ⟨kp, oc, od, doc, pm, an, ct, osl, lk, hcd0⟩ := f0
  have hcd := And.intro hcd0 hcc
  have S_nd : N_7.Nodup := S_7.nd
  refine fn_def (N := N_7) lk hcd.1 S_7 (bo_star (ps := (["self", "rule"] : List Str)) (n := 2) (fun us rest hl => match us, hl, rest with | [_, _], _, [] => rfl | [_, _], _, _ :: _ => rfl) rfl) fun base B outer s H E ar => ?_
  have C : Cal (TT K) (xD P w K mg base N_7 dz_7.qual dz_7.scope ((TT K).fA 7) cdv B outer s H E) (wD E) (k + 1) Φ := y.cal ar takes_xD S_nd
  exact (b_cons (s_asg (s_methS C (tb_call_okS F) (s_attr C y.lib (at_group_ok F) (s_loc (i := 0) rfl (.inl rfl)) rfl) (k_pos (a_cons (s_loc (i := 1) rfl (.inl rfl)) (a_star (s_loc (i := 2) rfl (.inl rfl)) a_nil))) rfl) (g_nm S_nd rfl rfl) nx_nm)
    (b_cons (s_exp (s_meth C (tb_note_ok F) (s_loc (i := 0) rfl (.inl rfl)) (k_pos (a_cons s_str (a_cons (s_tup (a_cons (s_loc (i := 1) rfl (.inl rfl)) (a_cons (s_loc (i := 2) rfl (.inl rfl)) a_nil))) (a_cons (s_loc (i := 3) rfl (.inl rfl)) a_nil)))) rfl))
    (b_cons (s_ret (s_loc (i := 3) rfl (.inl rfl)))
    b_nil)))
theorem S_8 : FnScope N_8 (["self"] : List Str) dz_8.scope := fnS_by (by kernel_rfl)
theorem d_8 (F : FX K h mg) {k : Nat} {Φ : Dn} (y : Hyp (TT K) P w K mg k Φ) : COk (TT K) P w K mg (k + 2) ((TT K).fA 8) (D_8 Φ) := by
  obtain ⟨cdv, f0⟩ := F.d 8 (d := dz_8) rfl
  have hcc := f0.code
  obtain ⟨kp, oc, od, doc, pm, an, ct, osl, lk, hcd0⟩ := f0
  have hcd := And.intro hcd0 hcc
  have S_nd : N_8.Nodup := S_8.nd
  refine fn_def (N := N_8) lk hcd.1 S_8 (bo_pos (n := 1) (fun us hl => match us, hl with | [_], _ => rfl) rfl) fun base B outer s H E ar => ?_
  have C : Cal (TT K) (xD P w K mg base N_8 dz_8.qual dz_8.scope ((TT K).fA 8) cdv B outer s H E) (wD E) (k + 1) Φ := y.cal ar takes_xD S_nd
  exact (b_cons (s_setA (okc_cells_ok F) (s_loc (i := 0) rfl (.inl rfl)) e_dic0 rfl)
    (b_cons (s_setA (okc_rules_ok F) (s_loc (i := 0) rfl (.inl rfl)) e_dic0 rfl)
    (b_cons (s_setA (okc_known_ok F) (s_loc (i := 0) rfl (.inl rfl)) e_dic0 rfl)
    (b_cons (s_setA (okc_busy_ok F) (s_loc (i := 0) rfl (.inl rfl)) (s_lst a_nil) rfl)
    (b_cons (s_setA (okc_own_revision_ok F) (s_loc (i := 0) rfl (.inl rfl)) s_int rfl)
    (b_cons (s_setA (okc_tally_ok F) (s_loc (i := 0) rfl (.inl rfl)) (s_lst (a_cons s_int (a_cons s_int (a_cons s_int (a_cons s_int a_nil))))) rfl)
    b_nil))))))
theorem S_9 : FnScope N_9 (["self", "name"] : List Str) dz_9.scope := fnS_by (by kernel_rfl)
theorem d_9 (F : FX K h mg) {k : Nat} {Φ : Dn} (y : Hyp (TT K) P w K mg k Φ) : COk (TT K) P w K mg (k + 2) ((TT K).fA 9) (D_9 Φ) := by
  obtain ⟨cdv, f0⟩ := F.d 9 (d := dz_9) rfl
  have hcc := f0.code
  obtain ⟨kp, oc, od, doc, pm, an, ct, osl, lk, hcd0⟩ := f0
  have hcd := And.intro hcd0 hcc
  have S_nd : N_9.Nodup := S_9.nd
  refine fn_def (N := N_9) lk hcd.1 S_9 (bo_pos (n := 2) (fun us hl => match us, hl with | [_, _], _ => rfl) rfl) fun base B outer s H E ar => ?_
  have C : Cal (TT K) (xD P w K mg base N_9 dz_9.qual dz_9.scope ((TT K).fA 9) cdv B outer s H E) (wD E) (k + 1) Φ := y.cal ar takes_xD S_nd
  exact (b_cons (s_if (t_not (t_val (s_static (j := 2) C (F.stat 11 rfl) (k_pos (a_cons (s_loc (i := 1) rfl (.inl rfl)) a_nil)) rfl (F.g 12 rfl)))) b_bad b_nil)
    b_nil)
theorem S_10 : FnScope N_10 (["self", "name", "value"] : List Str) dz_10.scope := fnS_by (by kernel_rfl)
theorem d_10 (F : FX K h mg) {k : Nat} {Φ : Dn} (y : Hyp (TT K) P w K mg k Φ) : COk (TT K) P w K mg (k + 2) ((TT K).fA 10) (D_10 Φ) := by
  obtain ⟨cdv, f0⟩ := F.d 10 (d := dz_10) rfl
  have hcc := f0.code
  obtain ⟨kp, oc, od, doc, pm, an, ct, osl, lk, hcd0⟩ := f0
  have hcd := And.intro hcd0 hcc
  have S_nd : N_10.Nodup := S_10.nd
  refine fn_def (N := N_10) lk hcd.1 S_10 (bo_pos (n := 3) (fun us hl => match us, hl with | [_, _, _], _ => rfl) rfl) fun base B outer s H E ar => ?_
  have C : Cal (TT K) (xD P w K mg base N_10 dz_10.qual dz_10.scope ((TT K).fA 10) cdv B outer s H E) (wD E) (k + 1) Φ := y.cal ar takes_xD S_nd
  exact (b_cons (s_exp (s_meth C (tb_require_name_ok F) (s_loc (i := 0) rfl (.inl rfl)) (k_pos (a_cons (s_loc (i := 1) rfl (.inl rfl)) a_nil)) rfl))
    (b_cons (s_if (t_not (t_val (s_callG (j := 0) C (k_pos (a_cons (s_loc (i := 2) rfl (.inl rfl)) a_nil)) rfl (F.g 2 rfl)))) b_bad b_nil)
    (b_cons (s_if (t_cmpv (c_ne C.ar) (s_attr C y.lib (at_busy_ok F) (s_loc (i := 0) rfl (.inl rfl)) rfl) (s_lst a_nil)) b_bad b_nil)
    (b_cons (s_if (PW.pt (w_and (t_cmpv (c_in C.ar) (s_loc (i := 1) rfl (.inl rfl)) (s_attr C y.lib (at_cells_ok F) (s_loc (i := 0) rfl (.inl rfl)) rfl)) (w_and1 (t_val (s_callG (j := 1) C (k_pos (a_cons (s_idx C.ar (s_attr C y.lib (at_cells_ok F) (s_loc (i := 0) rfl (.inl rfl)) rfl) (s_loc (i := 1) rfl (.inl rfl))) (a_cons (s_loc (i := 2) rfl (.inl rfl)) a_nil))) rfl (F.g 13 rfl)))))) (b_cons (s_ret s_bl)
    b_nil) b_nil)
    (b_cons (s_setI C.ar (s_attr C y.lib (at_cells_ok F) (s_loc (i := 0) rfl (.inl rfl)) rfl) (s_loc (i := 1) rfl (.inl rfl)) (s_loc (i := 2) rfl (.inl rfl)))
    (b_cons (s_augA ip_addI (okc_own_revision_ok F) (s_loc (i := 0) rfl (.inl rfl)) s_int rfl)
    (b_cons (s_ret s_bl)
    b_nil)))))))
theorem S_11 : FnScope N_11 (["self", "name", "function"] : List Str) dz_11.scope := fnS_by (by kernel_rfl)
theorem d_11 (F : FX K h mg) {k : Nat} {Φ : Dn} (y : Hyp (TT K) P w K mg k Φ) : COk (TT K) P w K mg (k + 2) ((TT K).fA 11) (D_11 Φ) := by
  obtain ⟨cdv, f0⟩ := F.d 11 (d := dz_11) rfl
  have hcc := f0.code
  obtain ⟨kp, oc, od, doc, pm, an, ct, osl, lk, hcd0⟩ := f0
  have hcd := And.intro hcd0 hcc
  have S_nd : N_11.Nodup := S_11.nd
  refine fn_def (N := N_11) lk hcd.1 S_11 (bo_or (bo_pos (n := 3) (fun us hl => match us, hl with | [_, _, _], _ => rfl) rfl) (bo_kw (n := 1) (ns := [17, 18]) (fun us ws hl hm => match us, hl, ws, hm with | [_], _, [_, _], _ => rfl) rfl)) fun base B outer s H E ar => ?_
  have C : Cal (TT K) (xD P w K mg base N_11 dz_11.qual dz_11.scope ((TT K).fA 11) cdv B outer s H E) (wD E) (k + 1) Φ := y.cal ar takes_xD S_nd
  exact (b_cons (s_exp (s_meth C (tb_require_name_ok F) (s_loc (i := 0) rfl (.inl rfl)) (k_pos (a_cons (s_loc (i := 1) rfl (.inr (.inl rfl))) a_nil)) rfl))
    (b_cons (s_if (t_cmpv (c_ne C.ar) (s_attr C y.lib (at_busy_ok F) (s_loc (i := 0) rfl (.inl rfl)) rfl) (s_lst a_nil)) b_bad b_nil)
    (b_cons (s_setI C.ar (s_attr C y.lib (at_rules_ok F) (s_loc (i := 0) rfl (.inl rfl)) rfl) (s_loc (i := 1) rfl (.inr (.inl rfl))) (s_loc (i := 2) rfl (.inl rfl)))
    (b_cons (s_setA (okc_known_ok F) (s_loc (i := 0) rfl (.inl rfl)) (s_lock (s_dc (own := [("text", 3), ("one", 4)]) (fuel := FL) rfl S_nd nocls0 (i_items (s_attr C.no y.lib (at_known_ok F) (s_loc (i := 0) rfl (.inl rfl)) rfl)) (blk_by (by kernel_rfl)) rfl (tg_tup (tgs_cons (tg_nm nocls0 (show 3 < N_11.length from by decide) (by decide)) (tgs_cons (tg_nm nocls0 (show 4 < N_11.length from by decide) (by decide)) tgs_nil))) (fun _ _ _ _ _ => (pg_tup rfl (pgs_cons (pg_name S_nd rfl (.inl rfl)) (pgs_cons (pg_name S_nd rfl (.inl rfl)) pgs_nil)) rfl)) (fun _ _ _ _ _ => (ts_one (t_cmpv (c_ne C.no.blk.ar) (s_idx C.no.blk.ar (s_attr C.no.blk y.lib (at_node_ok F) (s_loc (i := 4) rfl (.inl rfl)) rfl) s_int) (s_loc (i := 1) rfl (.inr (.inl rfl)))))) (fun _ _ _ _ _ => (s_loc (i := 3) rfl (.inl rfl))) (fun _ _ _ _ _ => (s_loc (i := 4) rfl (.inl rfl))))) rfl)
    (b_cons (s_augA ip_addI (okc_own_revision_ok F) (s_loc (i := 0) rfl (.inl rfl)) s_int rfl)
    b_nil)))))
theorem S_12 : FnScope N_12 (["self", "value"] : List Str) dz_12.scope := fnS_by (by kernel_rfl)
theorem d_12 (F : FX K h mg) {k : Nat} {Φ : Dn} (y : Hyp (TT K) P w K mg k Φ) : COk (TT K) P w K mg (k + 2) ((TT K).fA 12) (D_12 Φ) := by
  obtain ⟨cdv, f0⟩ := F.d 12 (d := dz_12) rfl
  have hcc := f0.code
  obtain ⟨kp, oc, od, doc, pm, an, ct, osl, lk, hcd0⟩ := f0
  have hcd := And.intro hcd0 hcc
  have S_nd : N_12.Nodup := S_12.nd
  refine fn_def (N := N_12) lk hcd.1 S_12 (bo_pos (n := 2) (fun us hl => match us, hl with | [_, _], _ => rfl) rfl) fun base B outer s H E ar => ?_
  have C : Cal (TT K) (xD P w K mg base N_12 dz_12.qual dz_12.scope ((TT K).fA 12) cdv B outer s H E) (wD E) (k + 1) Φ := y.cal ar takes_xD S_nd
  exact (b_cons (s_ret (s_and (s_isi (isi_str_ok F) (s_loc (i := 1) rfl (.inl rfl)) (pe_bltn (v := .ty "str") rfl (F.no 4 rfl) bb_str rfl) (.ty _) rfl (F.no 0 rfl)) (s_one (s_cmpv (c_in C.ar) (s_loc (i := 1) rfl (.inl rfl)) (s_attr C y.lib (at_cells_ok F) (s_loc (i := 0) rfl (.inl rfl)) rfl)))))
    b_nil)
theorem S_13 : FnScope N_13 (["self"] : List Str) dz_13.scope := fnS_by (by kernel_rfl)
theorem d_13 (F : FX K h mg) {k : Nat} {Φ : Dn} (y : Hyp (TT K) P w K mg k Φ) : COk (TT K) P w K mg (k + 2) ((TT K).fA 13) (D_13 Φ) := by
  obtain ⟨cdv, f0⟩ := F.d 13 (d := dz_13) rfl
  have hcc := f0.code
  obtain ⟨kp, oc, od, doc, pm, an, ct, osl, lk, hcd0⟩ := f0
  have hcd := And.intro hcd0 hcc
  have S_nd : N_13.Nodup := S_13.nd
  refine fn_def (N := N_13) lk hcd.1 S_13 (bo_pos (n := 1) (fun us hl => match us, hl with | [_], _ => rfl) rfl) fun base B outer s H E ar => ?_
  have C : Cal (TT K) (xD P w K mg base N_13 dz_13.qual dz_13.scope ((TT K).fA 13) cdv B outer s H E) (wD E) (k + 1) Φ := y.cal ar takes_xD S_nd
  exact (b_cons (s_ret (s_callB (cb_len.or (cb_lenD.or (cb_lenO C y.lib (tb_len_own F)))) (a_cons (s_attr C y.lib (at_known_ok F) (s_loc (i := 0) rfl (.inl rfl)) rfl) a_nil) rfl (F.no 7 rfl) bb_len))
    b_nil)
theorem S_14 : FnScope N_14 (["self", "name"] : List Str) dz_14.scope := fnS_by (by kernel_rfl)
theorem d_14 (F : FX K h mg) {k : Nat} {Φ : Dn} (y : Hyp (TT K) P w K mg k Φ) : COk (TT K) P w K mg (k + 2) ((TT K).fA 14) (D_14 Φ) := by
  obtain ⟨cdv, f0⟩ := F.d 14 (d := dz_14) rfl
  have hcc := f0.code
  obtain ⟨kp, oc, od, doc, pm, an, ct, osl, lk, hcd0⟩ := f0
  have hcd := And.intro hcd0 hcc
  have S_nd : N_14.Nodup := S_14.nd
  refine fn_def (N := N_14) lk hcd.1 S_14 (bo_pos (n := 2) (fun us hl => match us, hl with | [_, _], _ => rfl) rfl) fun base B outer s H E ar => ?_
  have C : Cal (TT K) (xD P w K mg base N_14 dz_14.qual dz_14.scope ((TT K).fA 14) cdv B outer s H E) (wD E) (k + 1) Φ := y.cal ar takes_xD S_nd
  exact (b_cons (s_if (t_cmpv (c_ninOwn C (tb_contains_own F)) (s_loc (i := 1) rfl (.inl rfl)) (s_loc (i := 0) rfl (.inl rfl))) b_bad b_nil)
    (b_cons (s_ret (s_idx C.ar (s_attr C y.lib (at_cells_ok F) (s_loc (i := 0) rfl (.inl rfl)) rfl) (s_loc (i := 1) rfl (.inl rfl))))
    b_nil))
theorem S_15 : FnScope N_15 (["self", "rule", "parts"] : List Str) dz_15.scope := fnS_by (by kernel_rfl)
theorem d_15 (F : FX K h mg) {k : Nat} {Φ : Dn} (y : Hyp (TT K) P w K mg k Φ) : COk (TT K) P w K mg (k + 2) ((TT K).fA 15) (D_15 Φ) := by
  obtain ⟨cdv, f0⟩ := F.d 15 (d := dz_15) rfl
  have hcc := f0.code
  obtain ⟨kp, oc, od, doc, pm, an, ct, osl, lk, hcd0⟩ := f0
  have hcd := And.intro hcd0 hcc
  have S_nd : N_15.Nodup := S_15.nd
  refine fn_def (N := N_15) lk hcd.1 S_15 (bo_pos (n := 3) (fun us hl => match us, hl with | [_, _, _], _ => rfl) rfl) fun base B outer s H E ar => ?_
  have C : Cal (TT K) (xD P w K mg base N_15 dz_15.qual dz_15.scope ((TT K).fA 15) cdv B outer s H E) (wD E) (k + 1) Φ := y.cal ar takes_xD S_nd
  exact (b_cons (s_if (PW.pt (w_or (t_not (t_val (s_isi (isi_str_ok F) (s_loc (i := 1) rfl (.inl rfl)) (pe_bltn (v := .ty "str") rfl (F.no 4 rfl) bb_str rfl) (.ty _) rfl (F.no 0 rfl)))) (w_or1 (t_cmpv (c_nin C.ar) (s_loc (i := 1) rfl (.inl rfl)) (s_attr C y.lib (at_rules_ok F) (s_loc (i := 0) rfl (.inl rfl)) rfl))))) b_bad b_nil)
    (b_cons (s_for passes_xD rfl (i_enumT rfl (F.no 14 rfl) (s_loc (i := 2) rfl (.inl rfl))) (g_tup rfl (gs_cons (g_nm S_nd rfl rfl) nx_nm (gs_cons (g_nm S_nd rfl rfl) nx_nm gs_nil))) (nx_tup (nx_cons nx_nm (nx_cons nx_nm nx_nil)))
    (b_cons (s_if (t_not (t_val (s_callG (j := 0) C (k_pos (a_cons (s_loc (i := 4) rfl (.inl rfl)) a_nil)) rfl (F.g 2 rfl)))) b_bad b_nil)
    b_nil))
    (b_cons (s_ret (s_callB (cb_repr C.ar) (a_cons (s_tup (a_cons (s_loc (i := 1) rfl (.inl rfl)) (a_cons (s_loc (i := 2) rfl (.inl rfl)) a_nil))) a_nil) rfl (F.no 6 rfl) bb_repr))
    b_nil)))
theorem S_16 : FnScope N_16 (["self", "use"] : List Str) dz_16.scope := fnS_by (by kernel_rfl)
theorem d_16 (F : FX K h mg) {k : Nat} {Φ : Dn} (y : Hyp (TT K) P w K mg k Φ) : COk (TT K) P w K mg (k + 2) ((TT K).fA 16) (D_16 Φ) := by
  obtain ⟨cdv, f0⟩ := F.d 16 (d := dz_16) rfl
  have hcc := f0.code
  obtain ⟨kp, oc, od, doc, pm, an, ct, osl, lk, hcd0⟩ := f0
  have hcd := And.intro hcd0 hcc
  have S_nd : N_16.Nodup := S_16.nd
  refine fn_def (N := N_16) lk hcd.1 S_16 (bo_pos (n := 2) (fun us hl => match us, hl with | [_, _], _ => rfl) rfl) fun base B outer s H E ar => ?_
  have C : Cal (TT K) (xD P w K mg base N_16 dz_16.qual dz_16.scope ((TT K).fA 16) cdv B outer s H E) (wD E) (k + 1) Φ := y.cal ar takes_xD S_nd
  exact (b_cons (s_asg (s_loc (i := 1) rfl (.inl rfl)) (g_tup rfl (gs_cons (g_nm S_nd rfl rfl) nx_nm (gs_cons (g_nm S_nd rfl rfl) nx_nm (gs_cons (g_nm S_nd rfl rfl) nx_nm gs_nil)))) (nx_tup (nx_cons nx_nm (nx_cons nx_nm (nx_cons nx_nm nx_nil)))))
    (b_cons (s_if (t_cmpv (c_eq C.ar) (s_loc (i := 2) rfl (.inl rfl)) s_str) (b_cons (s_ret (s_callG (j := 1) C (k_pos (a_cons (s_meth C (tb_cell_ok F) (s_loc (i := 0) rfl (.inl rfl)) (k_pos (a_cons (s_loc (i := 3) rfl (.inl rfl)) a_nil)) rfl) (a_cons (s_loc (i := 4) rfl (.inl rfl)) a_nil))) rfl (F.g 13 rfl)))
    b_nil) b_nil)
    (b_cons (s_asg (s_loc (i := 3) rfl (.inl rfl)) (g_tup rfl (gs_cons (g_nm S_nd rfl rfl) nx_nm (gs_cons (g_nm S_nd rfl rfl) nx_nm gs_nil))) (nx_tup (nx_cons nx_nm (nx_cons nx_nm nx_nil))))
    (b_cons (s_ret (s_callG (j := 1) C (k_pos (a_cons (s_methS C (tb_call_okS F) (s_loc (i := 0) rfl (.inl rfl)) (k_pos (a_cons (s_loc (i := 5) rfl (.inl rfl)) (a_star (s_loc (i := 6) rfl (.inl rfl)) a_nil))) rfl) (a_cons (s_loc (i := 4) rfl (.inl rfl)) a_nil))) rfl (F.g 13 rfl)))
    b_nil))))
theorem S_17 : FnScope N_17 (["self", "node"] : List Str) dz_17.scope := fnS_by (by kernel_rfl)
theorem d_17 (F : FX K h mg) {k : Nat} {Φ : Dn} (y : Hyp (TT K) P w K mg k Φ) : COk (TT K) P w K mg (k + 2) ((TT K).fA 17) (D_17 Φ) := by
  obtain ⟨cdv, f0⟩ := F.d 17 (d := dz_17) rfl
  have hcc := f0.code
  obtain ⟨kp, oc, od, doc, pm, an, ct, osl, lk, hcd0⟩ := f0
  have hcd := And.intro hcd0 hcc
  have S_nd : N_17.Nodup := S_17.nd
  refine fn_def (N := N_17) lk hcd.1 S_17 (bo_pos (n := 2) (fun us hl => match us, hl with | [_, _], _ => rfl) rfl) fun base B outer s H E ar => ?_
  have C : Cal (TT K) (xD P w K mg base N_17 dz_17.qual dz_17.scope ((TT K).fA 17) cdv B outer s H E) (wD E) (k + 1) Φ := y.cal ar takes_xD S_nd
  exact (b_cons (s_for passes_xD rfl (i_any (s_attr C y.lib (at_uses_read_ok F) (s_loc (i := 1) rfl (.inl rfl)) rfl)) (g_nm S_nd rfl rfl) nx_nm
    (b_cons (s_if (t_not (t_val (s_meth C (tb_is_unchanged_ok F) (s_loc (i := 0) rfl (.inl rfl)) (k_pos (a_cons (s_loc (i := 2) rfl (.inl rfl)) a_nil)) rfl))) (b_cons (s_ret s_bl)
    b_nil) b_nil)
    b_nil))
    (b_cons (s_ret s_bl)
    b_nil))
theorem S_18 : FnScope N_18 (["self", "rule", "parts"] : List Str) dz_18.scope := fnS_by (by kernel_rfl)
theorem d_18 (F : FX K h mg) {k : Nat} {Φ : Dn} (y : Hyp (TT K) P w K mg k Φ) : COk (TT K) P w K mg (k + 2) ((TT K).fA 18) (D_18 Φ) := by
  obtain ⟨cdv, f0⟩ := F.d 18 (d := dz_18) rfl
  have hcc := f0.code
  obtain ⟨kp, oc, od, doc, pm, an, ct, osl, lk, hcd0⟩ := f0
  have hcd := And.intro hcd0 hcc
  have S_nd : N_18.Nodup := S_18.nd
  refine fn_def (N := N_18) lk hcd.1 S_18 (bo_pos (n := 3) (fun us hl => match us, hl with | [_, _, _], _ => rfl) rfl) fun base B outer s H E ar => ?_
  have C : Cal (TT K) (xD P w K mg base N_18 dz_18.qual dz_18.scope ((TT K).fA 18) cdv B outer s H E) (wD E) (k + 1) Φ := y.cal ar takes_xD S_nd
  exact (b_cons (s_par2 (i := 3) (j := 4) rfl S_nd rfl rfl (by decide) rfl rfl (a_cons (s_make (c := 2) (j := 4) C y.lib (F.mkr 15 rfl) (k_pos (a_cons (s_loc (i := 0) rfl (.inl rfl)) a_nil)) rfl (F.g 16 rfl)) (a_cons (s_idx C.ar (s_attr C y.lib (at_rules_ok F) (s_loc (i := 0) rfl (.inl rfl)) rfl) (s_loc (i := 1) rfl (.inl rfl))) a_nil)) rfl)
    (b_cons (s_asg (s_callL (i := 4) C (k_pos (a_cons (s_loc (i := 3) rfl (.inl rfl)) (a_star (s_loc (i := 2) rfl (.inl rfl)) a_nil))) rfl (.inl rfl)) (g_nm S_nd rfl rfl) nx_nm)
    (b_cons (s_if (t_not (t_val (s_callG (j := 0) C (k_pos (a_cons (s_loc (i := 5) rfl (.inl rfl)) a_nil)) rfl (F.g 2 rfl)))) b_bad b_nil)
    (b_cons (s_ret (s_make (c := 1) (j := 3) C y.lib (F.mkr 17 rfl) (k_pos (a_cons (s_tup (a_cons (s_loc (i := 1) rfl (.inl rfl)) (a_cons (s_loc (i := 2) rfl (.inl rfl)) a_nil))) (a_cons (s_loc (i := 5) rfl (.inl rfl)) (a_cons (e_tupV rfl (s_attr C y.lib (at_notes_ok F) (s_loc (i := 3) rfl (.inl rfl)) rfl) rfl (F.no 1 rfl)) (a_cons (s_attr C y.lib (at_own_revision_ok F) (s_loc (i := 0) rfl (.inl rfl)) rfl) a_nil))))) rfl (F.g 18 rfl)))
    b_nil))))
theorem S_19 : FnScope N_19 (["self", "text", "rule", "parts"] : List Str) dz_19.scope := fnS_by (by kernel_rfl)
theorem d_19 (F : FX K h mg) {k : Nat} {Φ : Dn} (y : Hyp (TT K) P w K mg k Φ) : COk (TT K) P w K mg (k + 2) ((TT K).fA 19) (D_19 Φ) := by
  obtain ⟨cdv, f0⟩ := F.d 19 (d := dz_19) rfl
  have hcc := f0.code
  obtain ⟨kp, oc, od, doc, pm, an, ct, osl, lk, hcd0⟩ := f0
  have hcd := And.intro hcd0 hcc
  have S_nd : N_19.Nodup := S_19.nd
  refine fn_def (N := N_19) lk hcd.1 S_19 (bo_pos (n := 4) (fun us hl => match us, hl with | [_, _, _, _], _ => rfl) rfl) fun base B outer s H E ar => ?_
  have C : Cal (TT K) (xD P w K mg base N_19 dz_19.qual dz_19.scope ((TT K).fA 19) cdv B outer s H E) (wD E) (k + 1) Φ := y.cal ar takes_xD S_nd
  exact (b_cons (s_par2 (i := 4) (j := 5) rfl S_nd rfl rfl (by decide) rfl rfl (a_cons (s_bm (t := .dic) PySem.F.plainAttrs_dict PySem.F.slot_dict_pop rfl mb_popD (s_attr C y.lib (at_known_ok F) (s_loc (i := 0) rfl (.inl rfl)) rfl) (a_cons (s_loc (i := 1) rfl (.inl rfl)) (a_cons s_non a_nil))) (a_cons s_int a_nil)) rfl)
    (b_cons (s_if (t_cmpv c_isnot (s_loc (i := 4) rfl (.inl rfl)) s_non) (b_cons (s_asg (s_ifx (t_val (s_meth C (tb_is_confirmed_ok F) (s_loc (i := 0) rfl (.inl rfl)) (k_pos (a_cons (s_loc (i := 4) rfl (.inl rfl)) a_nil)) rfl)) s_int s_int) (g_nm S_nd rfl rfl) nx_nm)
    b_nil) b_nil)
    (b_cons (s_if (t_cmpv (c_eq C.ar) (s_loc (i := 5) rfl (.inl rfl)) s_int) (b_cons (s_setA (okc_revision_seen_ok F) (s_loc (i := 4) rfl (.inl rfl)) (s_attr C y.lib (at_own_revision_ok F) (s_loc (i := 0) rfl (.inl rfl)) rfl) rfl)
    b_nil) (b_cons (s_asg (s_meth C (tb_compute_ok F) (s_loc (i := 0) rfl (.inl rfl)) (k_pos (a_cons (s_loc (i := 2) rfl (.inl rfl)) (a_cons (s_loc (i := 3) rfl (.inl rfl)) a_nil))) rfl) (g_nm S_nd rfl rfl) nx_nm)
    b_nil))
    (b_cons (s_setI C.ar (s_attr C y.lib (at_known_ok F) (s_loc (i := 0) rfl (.inl rfl)) rfl) (s_loc (i := 1) rfl (.inl rfl)) (s_loc (i := 4) rfl (.inl rfl)))
    (b_cons (s_augI C.ar ip_addI (s_attr C y.lib (at_tally_ok F) (s_loc (i := 0) rfl (.inl rfl)) rfl) (s_loc (i := 5) rfl (.inl rfl)) s_int)
    (b_cons (s_ret (s_attr C y.lib (at_found_ok F) (s_loc (i := 4) rfl (.inl rfl)) rfl))
    b_nil))))))
theorem S_20 : FnScope N_20 (["self", "rule", "parts"] : List Str) dz_20.scope := fnS_by (by kernel_rfl)
theorem d_20 (F : FX K h mg) {k : Nat} {Φ : Dn} (y : Hyp (TT K) P w K mg k Φ) : COk (TT K) P w K mg (k + 2) ((TT K).fA 20) (D_20 Φ) := by
  obtain ⟨cdv, f0⟩ := F.d 20 (d := dz_20) rfl
  have hcc := f0.code
  obtain ⟨kp, oc, od, doc, pm, an, ct, osl, lk, hcd0⟩ := f0
  have hcd := And.intro hcd0 hcc
  have S_nd : N_20.Nodup := S_20.nd
  refine fn_def (N := N_20) lk hcd.1 S_20 (bo_star (ps := (["self", "rule"] : List Str)) (n := 2) (fun us rest hl => match us, hl, rest with | [_, _], _, [] => rfl | [_, _], _, _ :: _ => rfl) rfl) fun base B outer s H E ar => ?_
  have C : Cal (TT K) (xD P w K mg base N_20 dz_20.qual dz_20.scope ((TT K).fA 20) cdv B outer s H E) (wD E) (k + 1) Φ := y.cal ar takes_xD S_nd
  exact (b_cons (s_asg (s_meth C (tb_text_of_ok F) (s_loc (i := 0) rfl (.inl rfl)) (k_pos (a_cons (s_loc (i := 1) rfl (.inl rfl)) (a_cons (s_loc (i := 2) rfl (.inl rfl)) a_nil))) rfl) (g_nm S_nd rfl rfl) nx_nm)
    (b_cons (s_if (t_cmpv (c_in C.ar) (s_loc (i := 3) rfl (.inl rfl)) (s_attr C y.lib (at_busy_ok F) (s_loc (i := 0) rfl (.inl rfl)) rfl)) b_bad b_nil)
    (b_cons (s_if (PW.pt (w_and (t_cmpv (c_in C.ar) (s_loc (i := 3) rfl (.inl rfl)) (s_attr C y.lib (at_known_ok F) (s_loc (i := 0) rfl (.inl rfl)) rfl)) (w_and1 (t_cmpv (c_eq C.ar) (s_attr C y.lib (at_revision_seen_ok F) (s_idx C.ar (s_attr C y.lib (at_known_ok F) (s_loc (i := 0) rfl (.inl rfl)) rfl) (s_loc (i := 3) rfl (.inl rfl))) rfl) (s_attr C y.lib (at_own_revision_ok F) (s_loc (i := 0) rfl (.inl rfl)) rfl))))) (b_cons (s_augI C.ar ip_addI (s_attr C y.lib (at_tally_ok F) (s_loc (i := 0) rfl (.inl rfl)) rfl) s_int s_int)
    (b_cons (s_ret (s_attr C y.lib (at_found_ok F) (s_idx C.ar (s_attr C y.lib (at_known_ok F) (s_loc (i := 0) rfl (.inl rfl)) rfl) (s_loc (i := 3) rfl (.inl rfl))) rfl))
    b_nil)) b_nil)
    (b_cons (s_asg (s_attr C y.lib (at_busy_ok F) (s_loc (i := 0) rfl (.inl rfl)) rfl) (g_nm S_nd rfl rfl) nx_nm)
    (b_cons (s_setA (okc_busy_ok F) (s_loc (i := 0) rfl (.inl rfl)) (s_add (s_loc (i := 4) rfl (.inl rfl)) (s_lst (a_cons (s_loc (i := 3) rfl (.inl rfl)) a_nil))) rfl)
    (b_cons (s_fin (b_cons (s_asg (s_meth C.nox (tb_refresh_ok F) (s_loc (i := 0) rfl (.inl rfl)) (k_pos (a_cons (s_loc (i := 3) rfl (.inl rfl)) (a_cons (s_loc (i := 1) rfl (.inl rfl)) (a_cons (s_loc (i := 2) rfl (.inl rfl)) a_nil)))) rfl) (g_nm S_nd rfl rfl) nx_nm)
    b_nil) (b_cons (s_setA (okc_busy_ok F) (s_loc (i := 0) rfl (.inl rfl)) (s_loc (i := 4) rfl (.inl rfl)) rfl)
    b_nil))
    (b_cons (s_ret (s_loc (i := 5) rfl (.inl rfl)))
    b_nil)))))))
theorem S_21 : FnScope N_21 (["self", "rule", "parts"] : List Str) dz_21.scope := fnS_by (by kernel_rfl)
theorem d_21 (F : FX K h mg) {k : Nat} {Φ : Dn} (y : Hyp (TT K) P w K mg k Φ) : COk (TT K) P w K mg (k + 2) ((TT K).fA 21) (D_21 Φ) := by
  obtain ⟨cdv, f0⟩ := F.d 21 (d := dz_21) rfl
  have hcc := f0.code
  obtain ⟨kp, oc, od, doc, pm, an, ct, osl, lk, hcd0⟩ := f0
  have hcd := And.intro hcd0 hcc
  have S_nd : N_21.Nodup := S_21.nd
  refine fn_def (N := N_21) lk hcd.1 S_21 (bo_pos (n := 3) (fun us hl => match us, hl with | [_, _, _], _ => rfl) rfl) fun base B outer s H E ar => ?_
  have C : Cal (TT K) (xD P w K mg base N_21 dz_21.qual dz_21.scope ((TT K).fA 21) cdv B outer s H E) (wD E) (k + 1) Φ := y.cal ar takes_xD S_nd
  exact (b_cons (s_ret (s_bm (t := .dic) PySem.F.plainAttrs_dict PySem.F.slot_dict_get rfl (mb_get C.ar) (s_attr C y.lib (at_known_ok F) (s_loc (i := 0) rfl (.inl rfl)) rfl) (a_cons (s_meth C (tb_text_of_ok F) (s_loc (i := 0) rfl (.inl rfl)) (k_pos (a_cons (s_loc (i := 1) rfl (.inl rfl)) (a_cons (s_loc (i := 2) rfl (.inl rfl)) a_nil))) rfl) a_nil)))
    b_nil)
theorem S_22 : FnScope N_22 (["self", "rule", "parts"] : List Str) dz_22.scope := fnS_by (by kernel_rfl)
theorem d_22 (F : FX K h mg) {k : Nat} {Φ : Dn} (y : Hyp (TT K) P w K mg k Φ) : COk (TT K) P w K mg (k + 2) ((TT K).fA 22) (D_22 Φ) := by
  obtain ⟨cdv, f0⟩ := F.d 22 (d := dz_22) rfl
  have hcc := f0.code
  obtain ⟨kp, oc, od, doc, pm, an, ct, osl, lk, hcd0⟩ := f0
  have hcd := And.intro hcd0 hcc
  have S_nd : N_22.Nodup := S_22.nd
  refine fn_def (N := N_22) lk hcd.1 S_22 (bo_star (ps := (["self", "rule"] : List Str)) (n := 2) (fun us rest hl => match us, hl, rest with | [_, _], _, [] => rfl | [_, _], _, _ :: _ => rfl) rfl) fun base B outer s H E ar => ?_
  have C : Cal (TT K) (xD P w K mg base N_22 dz_22.qual dz_22.scope ((TT K).fA 22) cdv B outer s H E) (wD E) (k + 1) Φ := y.cal ar takes_xD S_nd
  exact (b_cons (s_asg (s_meth C (tb_own_node_ok F) (s_loc (i := 0) rfl (.inl rfl)) (k_pos (a_cons (s_loc (i := 1) rfl (.inl rfl)) (a_cons (s_loc (i := 2) rfl (.inl rfl)) a_nil))) rfl) (g_nm S_nd rfl rfl) nx_nm)
    (b_cons (s_ret (s_ifx (t_cmpv c_is (s_loc (i := 3) rfl (.inl rfl)) s_non) s_non (s_attr C y.lib (at_uses_read_ok F) (s_loc (i := 3) rfl (.inl rfl)) rfl)))
    b_nil))
theorem S_23 : FnScope N_23 (["self", "rule", "parts"] : List Str) dz_23.scope := fnS_by (by kernel_rfl)
theorem d_23 (F : FX K h mg) {k : Nat} {Φ : Dn} (y : Hyp (TT K) P w K mg k Φ) : COk (TT K) P w K mg (k + 2) ((TT K).fA 23) (D_23 Φ) := by
  obtain ⟨cdv, f0⟩ := F.d 23 (d := dz_23) rfl
  have hcc := f0.code
  obtain ⟨kp, oc, od, doc, pm, an, ct, osl, lk, hcd0⟩ := f0
  have hcd := And.intro hcd0 hcc
  have S_nd : N_23.Nodup := S_23.nd
  refine fn_def (N := N_23) lk hcd.1 S_23 (bo_star (ps := (["self", "rule"] : List Str)) (n := 2) (fun us rest hl => match us, hl, rest with | [_, _], _, [] => rfl | [_, _], _, _ :: _ => rfl) rfl) fun base B outer s H E ar => ?_
  have C : Cal (TT K) (xD P w K mg base N_23 dz_23.qual dz_23.scope ((TT K).fA 23) cdv B outer s H E) (wD E) (k + 1) Φ := y.cal ar takes_xD S_nd
  exact (b_cons (s_asg (s_meth C (tb_own_node_ok F) (s_loc (i := 0) rfl (.inl rfl)) (k_pos (a_cons (s_loc (i := 1) rfl (.inl rfl)) (a_cons (s_loc (i := 2) rfl (.inl rfl)) a_nil))) rfl) (g_nm S_nd rfl rfl) nx_nm)
    (b_cons (s_ret (s_and (s_cmpv c_isnot (s_loc (i := 3) rfl (.inl rfl)) s_non) (s_one (s_cmpv (c_eq C.ar) (s_attr C y.lib (at_revision_seen_ok F) (s_loc (i := 3) rfl (.inl rfl)) rfl) (s_attr C y.lib (at_own_revision_ok F) (s_loc (i := 0) rfl (.inl rfl)) rfl)))))
    b_nil))
theorem S_24 : FnScope N_24 (["self", "rule", "parts"] : List Str) dz_24.scope := fnS_by (by kernel_rfl)
theorem d_24 (F : FX K h mg) {k : Nat} {Φ : Dn} (y : Hyp (TT K) P w K mg k Φ) : COk (TT K) P w K mg (k + 2) ((TT K).fA 24) (D_24 Φ) := by
  obtain ⟨cdv, f0⟩ := F.d 24 (d := dz_24) rfl
  have hcc := f0.code
  obtain ⟨kp, oc, od, doc, pm, an, ct, osl, lk, hcd0⟩ := f0
  have hcd := And.intro hcd0 hcc
  have S_nd : N_24.Nodup := S_24.nd
  refine fn_def (N := N_24) lk hcd.1 S_24 (bo_star (ps := (["self", "rule"] : List Str)) (n := 2) (fun us rest hl => match us, hl, rest with | [_, _], _, [] => rfl | [_, _], _, _ :: _ => rfl) rfl) fun base B outer s H E ar => ?_
  have C : Cal (TT K) (xD P w K mg base N_24 dz_24.qual dz_24.scope ((TT K).fA 24) cdv B outer s H E) (wD E) (k + 1) Φ := y.cal ar takes_xD S_nd
  exact (b_cons (s_asg (s_meth C (tb_text_of_ok F) (s_loc (i := 0) rfl (.inl rfl)) (k_pos (a_cons (s_loc (i := 1) rfl (.inl rfl)) (a_cons (s_loc (i := 2) rfl (.inl rfl)) a_nil))) rfl) (g_nm S_nd rfl rfl) nx_nm)
    (b_cons (s_if (t_cmpv (c_ne C.ar) (s_attr C y.lib (at_busy_ok F) (s_loc (i := 0) rfl (.inl rfl)) rfl) (s_lst a_nil)) b_bad b_nil)
    (b_cons (s_ret (s_cmpv c_isnot (s_bm (t := .dic) PySem.F.plainAttrs_dict PySem.F.slot_dict_pop rfl mb_popD (s_attr C y.lib (at_known_ok F) (s_loc (i := 0) rfl (.inl rfl)) rfl) (a_cons (s_loc (i := 3) rfl (.inl rfl)) (a_cons s_non a_nil))) s_non))
    b_nil)))
theorem S_25 : FnScope N_25 (["self"] : List Str) dz_25.scope := fnS_by (by kernel_rfl)
theorem d_25 (F : FX K h mg) {k : Nat} {Φ : Dn} (y : Hyp (TT K) P w K mg k Φ) : COk (TT K) P w K mg (k + 2) ((TT K).fA 25) (D_25 Φ) := by
  obtain ⟨cdv, f0⟩ := F.d 25 (d := dz_25) rfl
  have hcc := f0.code
  obtain ⟨kp, oc, od, doc, pm, an, ct, osl, lk, hcd0⟩ := f0
  have hcd := And.intro hcd0 hcc
  have S_nd : N_25.Nodup := S_25.nd
  refine fn_def (N := N_25) lk hcd.1 S_25 (bo_pos (n := 1) (fun us hl => match us, hl with | [_], _ => rfl) rfl) fun base B outer s H E ar => ?_
  have C : Cal (TT K) (xD P w K mg base N_25 dz_25.qual dz_25.scope ((TT K).fA 25) cdv B outer s H E) (wD E) (k + 1) Φ := y.cal ar takes_xD S_nd
  exact (b_cons (s_ret (s_attr C y.lib (at_own_revision_ok F) (s_loc (i := 0) rfl (.inl rfl)) rfl))
    b_nil)
theorem S_26 : FnScope N_26 (["self"] : List Str) dz_26.scope := fnS_by (by kernel_rfl)
theorem d_26 (F : FX K h mg) {k : Nat} {Φ : Dn} (y : Hyp (TT K) P w K mg k Φ) : COk (TT K) P w K mg (k + 2) ((TT K).fA 26) (D_26 Φ) := by
  obtain ⟨cdv, f0⟩ := F.d 26 (d := dz_26) rfl
  have hcc := f0.code
  obtain ⟨kp, oc, od, doc, pm, an, ct, osl, lk, hcd0⟩ := f0
  have hcd := And.intro hcd0 hcc
  have S_nd : N_26.Nodup := S_26.nd
  refine fn_def (N := N_26) lk hcd.1 S_26 (bo_pos (n := 1) (fun us hl => match us, hl with | [_], _ => rfl) rfl) fun base B outer s H E ar => ?_
  have C : Cal (TT K) (xD P w K mg base N_26 dz_26.qual dz_26.scope ((TT K).fA 26) cdv B outer s H E) (wD E) (k + 1) Φ := y.cal ar takes_xD S_nd
  exact (b_cons (s_ret (s_callB (cb_len.or (cb_lenD.or (cb_lenO C y.lib (tb_len_own F)))) (a_cons (s_lock (s_lc (own := [("one", 1)]) (fuel := FL) rfl S_nd nocls0 (i_vals (s_attr C.no y.lib (at_known_ok F) (s_loc (i := 0) rfl (.inr (.inl rfl))) rfl)) (blk_by (by kernel_rfl)) rfl (tg_nm nocls0 (show 1 < N_26.length from by decide) (by decide)) (fun _ _ _ _ _ => (pg_name S_nd rfl (.inl rfl))) (fun _ _ _ _ _ => (ts_one (t_cmpv (c_ne C.no.blk.ar) (s_attr C.no.blk y.lib (at_revision_seen_ok F) (s_loc (i := 1) rfl (.inl rfl)) rfl) (s_attr C.no.blk y.lib (at_own_revision_ok F) (s_loc (i := 0) rfl (.inr (.inl rfl))) rfl)))) (fun _ _ _ _ _ => (s_loc (i := 1) rfl (.inl rfl))))) a_nil) rfl (F.no 7 rfl) bb_len))
    b_nil)
theorem S_27 : FnScope N_27 (["_law_script"] : List Str) dz_27.scope := fnS_by (by kernel_rfl)
theorem d_27 (F : FX K h mg) {k : Nat} {Φ : Dn} (y : Hyp (TT K) P w K mg k Φ) : COk (TT K) P w K mg (k + 2) ((TT K).fA 27) (D_27 Φ) := by
  obtain ⟨cdv, f0⟩ := F.d 27 (d := dz_27) rfl
  have hcc := f0.code
  obtain ⟨kp, oc, od, doc, pm, an, ct, osl, lk, hcd0⟩ := f0
  have hcd := And.intro hcd0 hcc
  have S_nd : N_27.Nodup := S_27.nd
  refine fn_def (N := N_27) lk hcd.1 S_27 (bo_pos (n := 1) (fun us hl => match us, hl with | [_], _ => rfl) rfl) fun base B outer s H E ar => ?_
  have C : Cal (TT K) (xD P w K mg base N_27 dz_27.qual dz_27.scope ((TT K).fA 27) cdv B outer s H E) (wD E) (k + 1) Φ := y.cal ar takes_xD S_nd
  exact (b_cons (s_ret (e_disp (pp_cons s_str (s_loc (i := 0) rfl (.inl rfl)) (pp_cons s_str s_int (pp_cons s_str s_int pp_nil))) rfl rfl (fun h => nomatch h) (by decide)))
    b_nil)
theorem S_28 : FnScope N_28 (["_law_m", "_law_total"] : List Str) dz_28.scope := fnS_by (by kernel_rfl)
theorem d_28 (F : FX K h mg) {k : Nat} {Φ : Dn} (y : Hyp (TT K) P w K mg k Φ) : COk (TT K) P w K mg (k + 2) ((TT K).fA 28) (D_28 Φ) := by
  obtain ⟨cdv, f0⟩ := F.d 28 (d := dz_28) rfl
  have hcc := f0.code
  obtain ⟨kp, oc, od, doc, pm, an, ct, osl, lk, hcd0⟩ := f0
  have hcd := And.intro hcd0 hcc
  have S_nd : N_28.Nodup := S_28.nd
  refine fn_def (N := N_28) lk hcd.1 S_28 (bo_pos (n := 2) (fun us hl => match us, hl with | [_, _], _ => rfl) rfl) fun base B outer s H E ar => ?_
  have C : Cal (TT K) (xD P w K mg base N_28 dz_28.qual dz_28.scope ((TT K).fA 28) cdv B outer s H E) (wD E) (k + 1) Φ := y.cal ar takes_xD S_nd
  exact (b_cons (s_if (t_cmpv c_gt (s_idx C.ar (s_loc (i := 0) rfl (.inl rfl)) s_str) s_int) (b_cons (s_asg (s_mod (s_idx C.ar (s_loc (i := 0) rfl (.inl rfl)) s_str) (s_loc (i := 1) rfl (.inl rfl))) (g_nm S_nd rfl rfl) nx_nm)
    (b_cons (s_setI C.ar (s_loc (i := 0) rfl (.inl rfl)) s_str (s_div (s_idx C.ar (s_loc (i := 0) rfl (.inl rfl)) s_str) (s_loc (i := 1) rfl (.inl rfl))))
    (b_cons (s_ret (s_loc (i := 2) rfl (.inl rfl)))
    b_nil))) b_nil)
    (b_cons (s_asg (s_idx C.ar (s_loc (i := 0) rfl (.inl rfl)) s_str) (g_nm S_nd rfl rfl) nx_nm)
    (b_cons (s_setI C.ar (s_loc (i := 0) rfl (.inl rfl)) s_str (s_add (s_loc (i := 3) rfl (.inl rfl)) s_int))
    (b_cons (s_asg (s_ifx (t_cmpv (c_ne C.ar) (s_idx C.ar (s_loc (i := 0) rfl (.inl rfl)) s_str) (s_lst a_nil)) (s_idx C.ar (s_idx C.ar (s_loc (i := 0) rfl (.inl rfl)) s_str) (s_mod (s_loc (i := 3) rfl (.inl rfl)) (s_callB (cb_len.or (cb_lenD.or (cb_lenO C y.lib (tb_len_own F)))) (a_cons (s_idx C.ar (s_loc (i := 0) rfl (.inl rfl)) s_str) a_nil) rfl (F.no 7 rfl) bb_len))) s_int) (g_nm S_nd rfl rfl) nx_nm)
    (b_cons (s_if (PW.pt (w_and (t_cmpv c_ge (s_loc (i := 4) rfl (.inl rfl)) (s_pow s_int s_int)) (w_and1 (t_cmpv c_lt (s_loc (i := 3) rfl (.inl rfl)) (s_callB (cb_len.or (cb_lenD.or (cb_lenO C y.lib (tb_len_own F)))) (a_cons (s_idx C.ar (s_loc (i := 0) rfl (.inl rfl)) s_str) a_nil) rfl (F.no 7 rfl) bb_len))))) (b_cons (s_setI C.ar (s_loc (i := 0) rfl (.inl rfl)) s_str (s_div (s_loc (i := 4) rfl (.inl rfl)) (s_loc (i := 1) rfl (.inl rfl))))
    (b_cons (s_ret (s_mod (s_loc (i := 4) rfl (.inl rfl)) (s_loc (i := 1) rfl (.inl rfl))))
    b_nil)) b_nil)
    (b_cons (s_asg (s_add (s_mul (s_mod (s_loc (i := 4) rfl (.inl rfl)) s_int) s_int) (s_mod (s_div (s_loc (i := 4) rfl (.inl rfl)) s_int) s_int)) (g_nm S_nd rfl rfl) nx_nm)
    (b_cons (s_asg (s_mod (s_add (s_add (s_add (s_loc (i := 5) rfl (.inl rfl)) (s_mul (s_mul s_int (s_loc (i := 3) rfl (.inl rfl))) (s_loc (i := 3) rfl (.inl rfl)))) (s_mul s_int (s_loc (i := 3) rfl (.inl rfl)))) s_int) s_int) (g_nm S_nd rfl rfl) nx_nm)
    (b_cons (s_ret (s_mod (s_div (s_mod (s_mul (s_mod (s_mul (s_loc (i := 5) rfl (.inl rfl)) (s_loc (i := 5) rfl (.inl rfl))) s_int) s_int) s_int) s_int) (s_loc (i := 1) rfl (.inl rfl))))
    b_nil))))))))
theorem S_29 : FnScope N_29 (["_law_k", "_law_extra", "_law_log"] : List Str) dz_29.scope := fnS_by (by kernel_rfl)
theorem d_29 (F : FX K h mg) {k : Nat} {Φ : Dn} (y : Hyp (TT K) P w K mg k Φ) : COk (TT K) P w K mg (k + 2) ((TT K).fA 29) (D_29 Φ) := by
  obtain ⟨cdv, f0⟩ := F.d 29 (d := dz_29) rfl
  have hcc := f0.code
  obtain ⟨kp, oc, od, doc, pm, an, ct, osl, lk, hcd0⟩ := f0
  have hcd := And.intro hcd0 hcc
  have S_nd : N_29.Nodup := S_29.nd
  refine fn_defC (N := N_29) (own := [0, 1, 2]) lk hcd.1 S_29 ⟨by decide, fun i hi => own_by (by kernel_rfl) i hi⟩ (bo_pos (n := 3) (fun us hl => match us, hl with | [_, _, _], _ => rfl) rfl) fun base B outer s H E n ar => ?_
  have C : Cal (TT K) (xD P w K mg base N_29 dz_29.qual dz_29.scope ((TT K).fA 29) cdv B outer s H E) (wD E) (k + 1) Φ := y.cal ar takes_xD S_nd
  exact (b_cons (s_ndef (k := 0) ⟨⟨codeZ K (.glo "_law_link"), tabZ K (.glo "_law_link"), nmT_0, F.tab 0 rfl, hcd.2, List.mem_cons_self, rfl, tt_u0 F⟩, frB_ok (by kernel_rfl), fsB_fr (by kernel_rfl), fsB_frk (by kernel_rfl), rfl, fun i x z => match i, z with | 0, z => by cases z; exact ⟨1, n + 1, rfl, rfl, rfl⟩ | 1, z => by cases z; exact ⟨0, n + 0, rfl, rfl, rfl⟩ | 2, z => by cases z; exact ⟨2, n + 2, rfl, rfl, rfl⟩ | _ + 3, z => nomatch z⟩ rfl rfl rfl rfl S_nd rfl rfl)
    (b_cons (s_ret (s_loc (i := 3) rfl (.inl rfl)))
    b_nil))
theorem S_30 : FnScope N_30 (["_law_m", "_law_group", "_law_log", "_law_extras", "_law_k", "_law_times"] : List Str) dz_30.scope := fnS_by (by kernel_rfl)
theorem d_30 (F : FX K h mg) {k : Nat} {Φ : Dn} (y : Hyp (TT K) P w K mg k Φ) : COk (TT K) P w K mg (k + 2) ((TT K).fA 30) (D_30 Φ) := by
  obtain ⟨cdv, f0⟩ := F.d 30 (d := dz_30) rfl
  have hcc := f0.code
  obtain ⟨kp, oc, od, doc, pm, an, ct, osl, lk, hcd0⟩ := f0
  have hcd := And.intro hcd0 hcc
  have S_nd : N_30.Nodup := S_30.nd
  refine fn_def (N := N_30) lk hcd.1 S_30 (bo_pos (n := 6) (fun us hl => match us, hl with | [_, _, _, _, _, _], _ => rfl) rfl) fun base B outer s H E ar => ?_
  have C : Cal (TT K) (xD P w K mg base N_30 dz_30.qual dz_30.scope ((TT K).fA 30) cdv B outer s H E) (wD E) (k + 1) Φ := y.cal ar takes_xD S_nd
  exact (b_cons (s_par3 (i := 6) (j := 7) (l := 8) rfl S_nd rfl rfl rfl (by decide) (by decide) (by decide) rfl rfl rfl (a_cons (s_callG (j := 28) C (k_pos (a_cons (s_loc (i := 0) rfl (.inl rfl)) (a_cons s_int a_nil))) rfl (F.g 19 rfl)) (a_cons (s_callG (j := 28) C (k_pos (a_cons (s_loc (i := 0) rfl (.inl rfl)) (a_cons s_int a_nil))) rfl (F.g 19 rfl)) (a_cons (s_add s_str (s_callTy cb_str (a_cons (s_loc (i := 4) rfl (.inl rfl)) a_nil) rfl (F.no 4 rfl) bb_str)) a_nil))) rfl)
    (b_cons (s_if (t_cmpv (c_eq C.ar) (s_loc (i := 7) rfl (.inl rfl)) s_int) (b_cons (s_asg (s_ifx (t_cmpv (c_ne C.ar) (s_loc (i := 6) rfl (.inl rfl)) (s_idx C.ar (s_loc (i := 3) rfl (.inl rfl)) (s_loc (i := 4) rfl (.inl rfl)))) (e_listR2 rfl rfl (F.no 20 rfl) rfl (F.no 21 rfl) (s_loc (i := 4) rfl (.inl rfl)) (s_callB (cb_len.or (cb_lenD.or (cb_lenO C y.lib (tb_len_own F)))) (a_cons (s_loc (i := 3) rfl (.inl rfl)) a_nil) rfl (F.no 7 rfl) bb_len)) (s_lst (a_cons (s_loc (i := 4) rfl (.inl rfl)) a_nil))) (g_nm S_nd rfl rfl) nx_nm)
    (b_cons (s_setI C.ar (s_loc (i := 3) rfl (.inl rfl)) (s_loc (i := 4) rfl (.inl rfl)) (s_loc (i := 6) rfl (.inl rfl)))
    (b_cons (s_asg (s_meth C (tb_rule_ok F) (s_loc (i := 1) rfl (.inl rfl)) (k_pos (a_cons (s_loc (i := 8) rfl (.inl rfl)) (a_cons (s_callG (j := 29) C (k_pos (a_cons (s_loc (i := 4) rfl (.inl rfl)) (a_cons (s_loc (i := 6) rfl (.inl rfl)) (a_cons (s_loc (i := 2) rfl (.inl rfl)) a_nil)))) rfl (F.g 22 rfl)) a_nil))) rfl) (g_nm S_nd rfl rfl) nx_nm)
    (b_cons (s_ret (s_ifx (PW.pt (w_and (t_cmpv c_is (s_loc (i := 10) rfl (.inl rfl)) s_non) (w_and1 (t_cmpv (c_eq C.ar) (s_callB (cb_len.or (cb_lenD.or (cb_lenO C y.lib (tb_len_own F)))) (a_cons (s_loc (i := 1) rfl (.inl rfl)) a_nil) rfl (F.no 7 rfl) bb_len) (s_sub (s_callB (cb_len.or (cb_lenD.or (cb_lenO C y.lib (tb_len_own F)))) (a_cons (s_loc (i := 3) rfl (.inl rfl)) a_nil) rfl (F.no 7 rfl) bb_len) s_int))))) (s_tup (a_cons (s_loc (i := 7) rfl (.inl rfl)) (a_cons (s_loc (i := 9) rfl (.inl rfl)) a_nil))) s_non))
    b_nil)))) b_nil)
    (b_cons (s_if (t_cmpv (c_eq C.ar) (s_loc (i := 7) rfl (.inl rfl)) s_int) (b_cons (s_asg (s_lst (a_cons (s_meth C (tb_forget_ok F) (s_loc (i := 1) rfl (.inl rfl)) (k_pos (a_cons (s_loc (i := 8) rfl (.inl rfl)) a_nil)) rfl) (a_cons (s_meth C (tb_forget_ok F) (s_loc (i := 1) rfl (.inl rfl)) (k_pos (a_cons (s_loc (i := 8) rfl (.inl rfl)) a_nil)) rfl) (a_cons (s_meth C (tb_is_current_ok F) (s_loc (i := 1) rfl (.inl rfl)) (k_pos (a_cons (s_loc (i := 8) rfl (.inl rfl)) a_nil)) rfl) a_nil)))) (g_nm S_nd rfl rfl) nx_nm)
    (b_cons (s_ret (s_ifx (t_cmpv (c_eq C.ar) (s_loc (i := 10) rfl (.inl rfl)) (s_lst (a_cons s_bl (a_cons s_bl (a_cons s_bl a_nil))))) (s_tup (a_cons (s_loc (i := 7) rfl (.inl rfl)) (a_cons (s_ifx (t_cmpv (c_eq C.ar) (s_loc (i := 4) rfl (.inl rfl)) (s_sub (s_callB (cb_len.or (cb_lenD.or (cb_lenO C y.lib (tb_len_own F)))) (a_cons (s_loc (i := 3) rfl (.inl rfl)) a_nil) rfl (F.no 7 rfl) bb_len) s_int)) (s_lst (a_cons (s_loc (i := 4) rfl (.inl rfl)) a_nil)) (s_lst a_nil)) a_nil))) s_non))
    b_nil)) b_nil)
    (b_cons (s_if (t_cmpv (c_eq C.ar) (s_loc (i := 7) rfl (.inl rfl)) s_int) (b_cons (s_ret (s_ifx (t_val (s_meth C (tb_put_ok F) (s_loc (i := 1) rfl (.inl rfl)) (k_pos (a_cons (s_add s_str (s_callTy cb_str (a_cons (s_loc (i := 5) rfl (.inl rfl)) a_nil) rfl (F.no 4 rfl) bb_str)) (a_cons s_int a_nil))) rfl)) (s_tup (a_cons (s_loc (i := 7) rfl (.inl rfl)) (a_cons (s_lst a_nil) a_nil))) s_non))
    b_nil) b_nil)
    (b_cons (s_ret (s_ifx (t_cmpv c_is (s_meth C (tb_rule_ok F) (s_loc (i := 1) rfl (.inl rfl)) (k_pos (a_cons (s_add s_str (s_callTy cb_str (a_cons (s_loc (i := 5) rfl (.inl rfl)) a_nil) rfl (F.no 4 rfl) bb_str)) (a_cons (s_lam (k := 1) ⟨⟨codeZ K (.glo "_law_turn"), tabZ K (.glo "_law_turn"), nmT_1, F.tab 1 rfl, hcd.2, List.mem_cons_of_mem _ (List.mem_cons_self), rfl, tt_u1 F⟩, frB_ok (by kernel_rfl), fsB_fr (by kernel_rfl), fsB_frk (by kernel_rfl), rfl, fun i x z => match i, z with | _, z => nomatch z⟩ rfl rfl) a_nil))) rfl) s_non) (s_tup (a_cons (s_loc (i := 7) rfl (.inl rfl)) (a_cons (s_lst a_nil) a_nil))) s_non))
    b_nil)))))
theorem S_31 : FnScope N_31 (["_law_script"] : List Str) dz_31.scope := fnS_by (by kernel_rfl)
theorem d_31 (F : FX K h mg) {k : Nat} {Φ : Dn} (y : Hyp (TT K) P w K mg k Φ) : COk (TT K) P w K mg (k + 2) ((TT K).fA 31) (D_31 Φ) := by
  obtain ⟨cdv, f0⟩ := F.d 31 (d := dz_31) rfl
  have hcc := f0.code
  obtain ⟨kp, oc, od, doc, pm, an, ct, osl, lk, hcd0⟩ := f0
  have hcd := And.intro hcd0 hcc
  have S_nd : N_31.Nodup := S_31.nd
  refine fn_def (N := N_31) lk hcd.1 S_31 (bo_pos (n := 1) (fun us hl => match us, hl with | [_], _ => rfl) rfl) fun base B outer s H E ar => ?_
  have C : Cal (TT K) (xD P w K mg base N_31 dz_31.qual dz_31.scope ((TT K).fA 31) cdv B outer s H E) (wD E) (k + 1) Φ := y.cal ar takes_xD S_nd
  exact (b_cons (s_asg (s_callG (j := 27) C (k_pos (a_cons (s_loc (i := 0) rfl (.inl rfl)) a_nil)) rfl (F.g 23 rfl)) (g_nmX S_nd rfl rfl rfl (fun _ z => nomatch z)) nx_nm)
    (b_cons (s_for passes_xD rfl (i_rg1 rfl (F.no 21 rfl) (s_add s_int (s_callB (cb_min rfl) (a_cons s_int (a_cons (s_callB (cb_len.or (cb_lenD.or (cb_lenO C y.lib (tb_len_own F)))) (a_cons (s_loc (i := 0) rfl (.inl rfl)) a_nil) rfl (F.no 7 rfl) bb_len) a_nil)) rfl (F.no 24 rfl) bb_min))) (g_nm S_nd rfl rfl) nx_nm
    (b_cons (s_par3 (i := 3) (j := 4) (l := 5) rfl S_nd rfl rfl rfl (by decide) (by decide) (by decide) rfl rfl rfl (a_cons (s_make (c := 3) (j := 8) C y.lib (F.mkr 25 rfl) k_nil rfl (F.g 26 rfl)) (a_cons (s_lst a_nil) (a_cons (s_add s_int (s_callG (j := 28) C (k_pos (a_cons (s_loc (i := 1) rfl (.inr (.inl rfl))) (a_cons s_int a_nil))) rfl (F.g 19 rfl))) a_nil))) rfl)
    (b_cons (s_par2 (i := 7) (j := 8) rfl S_nd rfl rfl (by decide) rfl rfl (a_cons (s_lc (own := [("_law_k", 6)]) (fuel := FL) rfl S_nd nocls0 (i_rg1 rfl (F.no 21 rfl) (s_loc (i := 5) rfl (.inl rfl))) (blk_by (by kernel_rfl)) rfl (tg_nm nocls0 (show 6 < N_31.length from by decide) (by decide)) (fun _ _ _ _ _ => (pg_name S_nd rfl (.inl rfl))) (fun _ _ _ _ _ => ts_nil) (fun _ _ _ _ _ => (s_callG (j := 28) C.blk (k_pos (a_cons (s_loc (i := 1) rfl (.inr (.inl rfl))) (a_cons s_int a_nil))) rfl (F.g 19 rfl)))) (a_cons (s_add s_str (s_callTy cb_str (a_cons (s_sub (s_loc (i := 5) rfl (.inl rfl)) s_int) a_nil) rfl (F.no 4 rfl) bb_str)) a_nil)) rfl)
    (b_cons (s_exp (s_meth C (tb_put_ok F) (s_loc (i := 3) rfl (.inl rfl)) (k_pos (a_cons s_str (a_cons s_int a_nil))) rfl))
    (b_cons (s_for passes_xD rfl (i_rg1 rfl (F.no 21 rfl) (s_loc (i := 5) rfl (.inl rfl))) (g_nm S_nd rfl rfl) nx_nm
    (b_cons (s_exp (s_meth C (tb_rule_ok F) (s_loc (i := 3) rfl (.inl rfl)) (k_kw0 (ks := [17, 18]) (kw_cons (s_add s_str (s_callTy cb_str (a_cons (s_loc (i := 6) rfl (.inl rfl)) a_nil) rfl (F.no 4 rfl) bb_str)) (kw_cons (s_callG (j := 29) C (k_pos (a_cons (s_loc (i := 6) rfl (.inl rfl)) (a_cons (s_idx C.ar (s_loc (i := 7) rfl (.inl rfl)) (s_loc (i := 6) rfl (.inl rfl))) (a_cons (s_loc (i := 4) rfl (.inl rfl)) a_nil)))) rfl (F.g 22 rfl)) kw_nil)) rfl) rfl))
    b_nil))
    (b_cons (s_if (PW.pt (w_or (t_cmpv (c_ne C.ar) (s_meth C (tb_call_ok F) (s_loc (i := 3) rfl (.inl rfl)) (k_pos (a_cons (s_loc (i := 8) rfl (.inl rfl)) a_nil)) rfl) (s_add s_int (s_callB (cb_sum rfl) (a_cons (s_loc (i := 7) rfl (.inl rfl)) a_nil) rfl (F.no 27 rfl) bb_sum))) (w_or1 (t_cmpv (c_ne C.ar) (s_loc (i := 4) rfl (.inl rfl)) (e_rev (e_listR1 rfl rfl (F.no 20 rfl) rfl (F.no 21 rfl) (s_loc (i := 5) rfl (.inl rfl)))))))) (b_cons (s_ret s_bl)
    b_nil) b_nil)
    (b_cons (s_for passes_xD rfl (i_rg1 rfl (F.no 21 rfl) s_int) (g_nm S_nd rfl rfl) nx_nm
    (b_cons (s_par2 (i := 6) (j := 10) rfl S_nd rfl rfl (by decide) rfl rfl (a_cons (s_callG (j := 28) C (k_pos (a_cons (s_loc (i := 1) rfl (.inr (.inl rfl))) (a_cons (s_loc (i := 5) rfl (.inl rfl)) a_nil))) rfl (F.g 19 rfl)) (a_cons (s_attr C y.lib (at_revision_ok F) (s_loc (i := 3) rfl (.inl rfl)) rfl) a_nil)) rfl)
    (b_cons (s_exp (s_bm0 (t := .lst) PySem.F.plainAttrs_list PySem.F.slot_list_clear rfl mb_clear (s_loc (i := 4) rfl (.inl rfl))))
    (b_cons (s_asg (s_callG (j := 30) C (k_pos (a_cons (s_loc (i := 1) rfl (.inr (.inl rfl))) (a_cons (s_loc (i := 3) rfl (.inl rfl)) (a_cons (s_loc (i := 4) rfl (.inl rfl)) (a_cons (s_loc (i := 7) rfl (.inl rfl)) (a_cons (s_loc (i := 6) rfl (.inl rfl)) (a_cons (s_loc (i := 9) rfl (.inl rfl)) a_nil))))))) rfl (F.g 28 rfl)) (g_nm S_nd rfl rfl) nx_nm)
    (b_cons (s_if (PW.pt (w_or (t_cmpv c_is (s_loc (i := 11) rfl (.inl rfl)) s_non) (w_or1 (t_cmpv (c_ne C.ar) (s_attr C y.lib (at_revision_ok F) (s_loc (i := 3) rfl (.inl rfl)) rfl) (s_add (s_loc (i := 10) rfl (.inl rfl)) (s_callTy cb_int (a_cons (s_cmpv (c_ne C.ar) (s_idx C.ar (s_loc (i := 11) rfl (.inl rfl)) s_int) s_int) a_nil) rfl (F.no 5 rfl) bb_int)))))) (b_cons (s_ret s_bl)
    b_nil) b_nil)
    (b_cons (s_if (t_cmpv (c_ne C.ar) (s_attr C y.lib (at_outdated_ok F) (s_loc (i := 3) rfl (.inl rfl)) rfl) (s_ifx (t_cmpv (c_eq C.ar) (s_idx C.ar (s_loc (i := 11) rfl (.inl rfl)) s_int) s_int) s_int (s_callB (cb_len.or (cb_lenD.or (cb_lenO C y.lib (tb_len_own F)))) (a_cons (s_loc (i := 3) rfl (.inl rfl)) a_nil) rfl (F.no 7 rfl) bb_len))) (b_cons (s_ret s_bl)
    b_nil) b_nil)
    (b_cons (s_if (PW.pt (w_or (t_cmpv (c_ne C.ar) (s_meth C (tb_call_ok F) (s_loc (i := 3) rfl (.inl rfl)) (k_pos (a_cons (s_loc (i := 8) rfl (.inl rfl)) a_nil)) rfl) (s_add s_int (s_callB (cb_sum rfl) (a_cons (s_loc (i := 7) rfl (.inl rfl)) a_nil) rfl (F.no 27 rfl) bb_sum))) (w_or (t_cmpv (c_ne C.ar) (s_loc (i := 4) rfl (.inl rfl)) (s_idx C.ar (s_loc (i := 11) rfl (.inl rfl)) s_int)) (w_or1 (t_cmpv (c_ne C.ar) (s_attr C y.lib (at_outdated_ok F) (s_loc (i := 3) rfl (.inl rfl)) rfl) s_int))))) (b_cons (s_ret s_bl)
    b_nil) b_nil)
    (b_cons (s_if (PW.pt (w_and (t_cmpv (c_eq C.ar) (s_idx C.ar (s_loc (i := 11) rfl (.inl rfl)) s_int) s_int) (w_and (t_cmpv c_lt (s_loc (i := 6) rfl (.inl rfl)) (s_sub (s_loc (i := 5) rfl (.inl rfl)) s_int)) (w_and1 (PW.pt (w_or (t_cmpv (c_ne C.ar) (s_callB (cb_len.or (cb_lenD.or (cb_lenO C y.lib (tb_len_own F)))) (a_cons (s_loc (i := 3) rfl (.inl rfl)) a_nil) rfl (F.no 7 rfl) bb_len) (s_sub (s_loc (i := 5) rfl (.inl rfl)) s_int)) (w_or1 (t_cmpv c_isnot (s_meth C (tb_uses_ok F) (s_loc (i := 3) rfl (.inl rfl)) (k_pos (a_cons (s_add s_str (s_callTy cb_str (a_cons (s_loc (i := 6) rfl (.inl rfl)) a_nil) rfl (F.no 4 rfl) bb_str)) a_nil)) rfl) s_non)))))))) (b_cons (s_ret s_bl)
    b_nil) b_nil)
    (b_cons (s_if (PW.pt (w_and (t_cmpv (c_eq C.ar) (s_idx C.ar (s_loc (i := 11) rfl (.inl rfl)) s_int) s_int) (w_and1 (t_cmpv (c_ne C.ar) (s_meth C (tb_call_ok F) (s_loc (i := 3) rfl (.inl rfl)) (k_pos (a_cons (s_add s_str (s_callTy cb_str (a_cons (s_loc (i := 6) rfl (.inl rfl)) a_nil) rfl (F.no 4 rfl) bb_str)) a_nil)) rfl) (s_add s_int (s_callB (cb_sum rfl) (a_cons (s_slice (s_loc (i := 7) rfl (.inl rfl)) o_none (o_some (s_add (s_loc (i := 6) rfl (.inl rfl)) s_int))) a_nil) rfl (F.no 27 rfl) bb_sum)))))) (b_cons (s_ret s_bl)
    b_nil) b_nil)
    b_nil)))))))))
    b_nil)))))))
    (b_cons (s_ret s_bl)
    b_nil)))
theorem SC_0 : NScope NC_0 (["_law_reader"] : List Str) (["_law_extra", "_law_k", "_law_log"] : List Str) (CI 0).scope := nscope_by (by kernel_rfl)
theorem c_0 (F : FX K h mg) {k : Nat} {Φ : Dn} (y : Hyp (TT K) P w K mg k Φ) : CloOk (TT K) P w K mg (k + 2) 0 (DC_0 Φ) := by
  have S_nd : NC_0.Nodup := SC_0.nd
  refine fn_clo (N := NC_0) (ps := (["_law_reader"] : List Str)) SC_0 (fun cl c doc pm ctv => (bo_pos (n := 1) (fun us hl => match us, hl with | [_], _ => rfl) rfl)) fun base B outer s H E f cl c cs ar hlen => ?_
  have C : Cal (TT K) (ncx (L2.CX P w) P w K mg base NC_0 (((TT K).ci 0).nf cl c) f B outer s H E) (wD E) (k + 1) Φ := y.cal ar takes_ncx S_nd
  exact (b_cons (s_exp (s_bm (t := .lst) PySem.F.plainAttrs_list PySem.F.slot_list_append rfl mb_append (s_loc (i := 3) rfl (.inr (.inr rfl))) (a_cons (s_loc (i := 2) rfl (.inr (.inr rfl))) a_nil)))
    (b_cons (s_ret (s_add (s_loc (i := 1) rfl (.inr (.inr rfl))) (s_ifx (t_cmpv (c_eq C.ar) (s_loc (i := 2) rfl (.inr (.inr rfl))) s_int) (s_meth C (tb_cell_ok F) (s_loc (i := 0) rfl (.inl rfl)) (k_pos (a_cons s_str a_nil)) rfl) (s_meth C (tb_call_ok F) (s_loc (i := 0) rfl (.inl rfl)) (k_pos (a_cons (s_add s_str (s_callTy cb_str (a_cons (s_sub (s_loc (i := 2) rfl (.inr (.inr rfl))) s_int) a_nil) rfl (F.no 4 rfl) bb_str)) a_nil)) rfl))))
    b_nil))
theorem SC_1 : NScope NC_1 (["_law_reader"] : List Str) ([] : List Str) (CI 1).scope := nscope_by (by kernel_rfl)
theorem c_1 (F : FX K h mg) {k : Nat} {Φ : Dn} (y : Hyp (TT K) P w K mg k Φ) : CloOk (TT K) P w K mg (k + 2) 1 (DC_1 Φ) := by
  have S_nd : NC_1.Nodup := SC_1.nd
  refine fn_clo (N := NC_1) (ps := (["_law_reader"] : List Str)) SC_1 (fun cl c doc pm ctv => (bo_pos (n := 1) (fun us hl => match us, hl with | [_], _ => rfl) rfl)) fun base B outer s H E f cl c cs ar hlen => ?_
  have C : Cal (TT K) (ncx (L2.CX P w) P w K mg base NC_1 (((TT K).ci 1).nf cl c) f B outer s H E) (wD E) (k + 1) Φ := y.cal ar takes_ncx S_nd
  exact ⟨_, rfl, s_int⟩
theorem ds_ok (F : FX K h mg) : DefsOk (TT K) P w K mg DFS := fun j d e k Φ y => match j, e with
  | 0, e => by cases e; exact d_0 F y
  | 1, e => by cases e; exact d_1 F y
  | 2, e => by cases e; exact d_2 F y
  | 3, e => by cases e; exact d_3 F y
  | 4, e => by cases e; exact d_4 F y
  | 5, e => by cases e; exact d_5 F y
  | 6, e => by cases e; exact d_6 F y
  | 7, e => by cases e; exact d_7 F y
  | 8, e => by cases e; exact d_8 F y
  | 9, e => by cases e; exact d_9 F y
  | 10, e => by cases e; exact d_10 F y
  | 11, e => by cases e; exact d_11 F y
  | 12, e => by cases e; exact d_12 F y
  | 13, e => by cases e; exact d_13 F y
  | 14, e => by cases e; exact d_14 F y
  | 15, e => by cases e; exact d_15 F y
  | 16, e => by cases e; exact d_16 F y
  | 17, e => by cases e; exact d_17 F y
  | 18, e => by cases e; exact d_18 F y
  | 19, e => by cases e; exact d_19 F y
  | 20, e => by cases e; exact d_20 F y
  | 21, e => by cases e; exact d_21 F y
  | 22, e => by cases e; exact d_22 F y
  | 23, e => by cases e; exact d_23 F y
  | 24, e => by cases e; exact d_24 F y
  | 25, e => by cases e; exact d_25 F y
  | 26, e => by cases e; exact d_26 F y
  | 27, e => by cases e; exact d_27 F y
  | 28, e => by cases e; exact d_28 F y
  | 29, e => by cases e; exact d_29 F y
  | 30, e => by cases e; exact d_30 F y
  | 31, e => by cases e; exact d_31 F y
  | _ + 32, e => nomatch e
theorem cs_ok (F : FX K h mg) : ClosOk (TT K) P w K mg CFS := fun j d e k Φ y => match j, e with
  | 0, e => by cases e; exact c_0 F y
  | 1, e => by cases e; exact c_1 F y
  | _ + 2, e => nomatch e
theorem lib_ok (F : FX K h mg) (n : Nat) : Lib (TT K) P w K mg (2 * n) (PhiN DFS CFS n) := lib_all (F.kp (fun z => nomatch z)) (ds_ok F) (cs_ok F) n
end
end K95
end
section
set_option Elab.async false
set_option linter.all false
set_option maxRecDepth 100000
set_option maxHeartbeats 0
namespace K95
open PySem PySem.W PySem.Calls PyProof.Rows Zk
abbrev R : OpenRow := OpenLaw.row PySem.Challenge.rw_dispatchers_k95_rules_and_nodes_replaced
abbrev qv : Program := view R.prog [41]
def names : List PySem.Str := (["_wall", "WorldError", "DispatchError", "InvalidName", "UnknownKind", "InvalidParents", "NoOrder", "InvalidArgument", "InvalidRow", "TooMany", "UnknownCell", "UnknownRule"] : List PySem.Str) ++ (["NotAbstract", "WouldLoop", "Reentered", "InProgress", "is_simple", "KindSet", "merged", "Held", "Attempt", "is_row", "World", "are_same"] : List PySem.Str) ++ (["Node", "Reader", "Group", "_law_begun", "_law_next", "_law_of", "_law_link", "_law_turn", "MOST_KINDS", "MOST_NAME", "LETTERS", "SIGNS"] : List PySem.Str)
/-- where the parts stand that are looked at -/
def AS : List Addr := ([3, 2, 6, 4, 21, 31, 44, 64, 83, 102, 121, 140, 159, 178, 197, 216, 235, 254, 273, 292, 299, 374, 383, 405, 433, 440, 589, 600, 617, 659] : List Addr) ++ ([819, 830, 837, 844, 851, 858, 863, 0, 20, 30, 43, 63, 82, 101, 120, 139, 158, 177, 196, 215, 234, 253, 272, 291, 298, 373, 382, 404, 432, 439] : List Addr) ++ ([588, 599, 616, 658, 818, 829, 836, 843, 850, 857, 862, 15, 16, 17, 18, 19, 29, 32, 42, 45, 61, 62, 80, 81, 99, 100, 118, 119, 137, 138] : List Addr) ++ ([156, 157, 175, 176, 194, 195, 213, 214, 232, 233, 251, 252, 270, 271, 289, 290, 295, 296, 297, 313, 321, 328, 333, 338, 343, 350, 357, 364, 371, 372] : List Addr) ++ ([375, 376, 379, 380, 381, 395, 402, 403, 406, 407, 423, 430, 431, 436, 437, 438, 454, 463, 471, 479, 486, 494, 502, 509, 516, 524, 529, 536, 543, 550] : List Addr) ++ ([557, 564, 569, 576, 581, 586, 587, 590, 591, 594, 595, 596, 597, 598, 614, 615, 618, 619, 635, 642, 649, 656, 657, 660, 661, 677, 684, 691, 696, 703] : List Addr) ++ ([710, 717, 724, 731, 738, 745, 752, 759, 766, 773, 780, 787, 794, 802, 810, 816, 817, 820, 821, 824, 825, 826, 827, 828, 831, 832, 833, 834, 835, 838] : List Addr) ++ ([839, 840, 841, 842, 845, 846, 847, 848, 849, 852, 853, 854, 855, 856, 859, 860, 861, 60, 79, 98, 117, 136, 155, 174, 193, 212, 231, 250, 269, 288] : List Addr) ++ ([312, 320, 327, 332, 337, 342, 349, 356, 363, 370, 394, 401, 422, 429, 453, 461, 462, 469, 470, 478, 485, 493, 501, 508, 515, 523, 517, 528, 535, 542] : List Addr) ++ ([549, 556, 563, 568, 575, 580, 585, 613, 634, 641, 648, 655, 676, 683, 690, 695, 702, 709, 716, 723, 730, 737, 744, 751, 758, 765, 772, 779, 786, 793] : List Addr) ++ ([801, 809, 815, 55, 56, 57, 58, 59, 74, 75, 76, 77, 78, 93, 94, 95, 96, 97, 112, 113, 114, 115, 116, 131, 132, 133, 134, 135, 150, 151] : List Addr) ++ ([152, 153, 154, 169, 170, 171, 172, 173, 188, 189, 190, 191, 192, 207, 208, 209, 210, 211, 226, 227, 228, 229, 230, 245, 246, 247, 248, 249, 264, 265] : List Addr) ++ ([266, 267, 268, 283, 284, 285, 286, 287, 307, 308, 309, 310, 311, 319, 322, 323, 324, 325, 326, 329, 330, 331, 334, 335, 336, 339, 340, 341, 344, 345] : List Addr) ++ ([346, 347, 348, 351, 352, 353, 354, 355, 358, 359, 360, 361, 362, 365, 366, 367, 368, 369, 391, 392, 393, 396, 397, 398, 399, 400, 417, 418, 419, 420] : List Addr) ++ ([421, 424, 425, 426, 427, 428, 448, 449, 450, 451, 452, 460, 464, 468, 472, 473, 474, 475, 476, 477, 480, 481, 482, 483, 484, 492, 500, 503, 504, 505] : List Addr) ++ ([506, 507, 510, 511, 512, 513, 514, 518, 519, 520, 521, 522, 525, 526, 527, 530, 531, 532, 533, 534, 537, 538, 539, 540, 541, 544, 545, 546, 547, 548] : List Addr) ++ ([551, 552, 553, 554, 555, 558, 559, 560, 561, 562, 565, 566, 567, 570, 571, 572, 573, 574, 577, 578, 579, 582, 583, 584, 608, 609, 610, 611, 612, 629] : List Addr) ++ ([630, 631, 632, 633, 636, 637, 638, 639, 640, 643, 644, 645, 646, 647, 650, 651, 652, 653, 654, 671, 672, 673, 674, 675, 678, 679, 680, 681, 682, 685] : List Addr) ++ ([686, 687, 688, 689, 692, 693, 694, 697, 698, 699, 700, 701, 704, 705, 706, 707, 708, 711, 712, 713, 714, 715, 718, 719, 720, 721, 722, 725, 726, 727] : List Addr) ++ ([728, 729, 732, 733, 734, 735, 736, 739, 740, 741, 742, 743, 746, 747, 748, 749, 750, 753, 754, 755, 756, 757, 760, 761, 762, 763, 764, 767, 768, 769] : List Addr) ++ ([770, 771, 774, 775, 776, 777, 778, 781, 782, 783, 784, 785, 788, 789, 790, 791, 792, 800, 808, 814] : List Addr)
abbrev hk : PySem.W.Hook := hookZ AS FN FB TF
def ob (s : PySem.W.SharedT) : AlZ := obsZ AS FN FB TF (HandSHeadRun.getT s)
theorem ob_eq (s : PySem.W.SharedT) : ob s = hk.obs s.abs := obsZ_eq (HandSHeadRun.getT_eq s)
theorem run (w : World) : HandSHeadRun.RunEq R qv hk ob 20000 names w := by
  intro os
  kernel_rfl
end K95
end
section
set_option Elab.async false
set_option linter.all false
set_option maxRecDepth 100000
set_option maxHeartbeats 0
namespace K95
open PySem PySem.Spec PyProof.Rows Zk
open L2 (Key)
/-! ### helps on the plain heap -/
abbrev Q (n : Nat) : Dn := PhiN DFS CFS n
theorem upS (h : Hq) (l : Nat) (o : Ob) : (h.upd l o).get l = some o := by rw [Hq.get_upd, if_pos rfl]
theorem upN (h : Hq) (l : Nat) (o : Ob) {j : Nat} (e : j ≠ l) : (h.upd l o).get j = h.get j := by rw [Hq.get_upd, if_neg e]
theorem nwS (h : Hq) (o : Ob) : (h.new o).get h.n = some o := by rw [Hq.get_new, if_pos rfl]
theorem nwL (h : Hq) (o : Ob) {j : Nat} (e : j < h.n) : (h.new o).get j = h.get j := by rw [Hq.get_new, if_neg (Nat.ne_of_lt e)]
def Wf (h : Hq) : Prop := ∀ l o, h.get l = some o → l < h.n
theorem Wf.new {h : Hq} (w : Wf h) (o : Ob) : Wf (h.new o) := fun l x e => by
  rw [Hq.get_new] at e
  split at e
  · rename_i q; rw [q]; exact Nat.lt_succ_self _
  · exact Nat.lt_succ_of_lt (w l x e)
theorem Wf.upd {h : Hq} (w : Wf h) {l : Nat} (o : Ob) (hl : l < h.n) : Wf (h.upd l o) := fun j x e => by
  rw [Hq.get_upd] at e
  split at e
  · rename_i q; rw [q]; exact hl
  · exact w j x e
theorem neg {h : Hq} {a b : Nat} {x y : Ob} (ha : h.get a = some x) (hb : h.get b = some y) (n : x ≠ y) : a ≠ b := fun e => by
  subst e
  rw [ha] at hb
  exact n (Option.some.inj hb)
/-- what stood stays, but for W -/
structure Ext (W : Nat → Prop) (h h' : Hq) : Prop where
  le : h.n ≤ h'.n
  same : ∀ l, l < h.n → ¬ W l → h'.get l = h.get l
theorem Ext.refl {W : Nat → Prop} {h : Hq} : Ext W h h := ⟨Nat.le_refl _, fun _ _ _ => rfl⟩
theorem Ext.trans {W W' : Nat → Prop} {h h1 h2 : Hq} (a : Ext W h h1) (b : Ext W' h1 h2) (k : ∀ l, l < h.n → W' l → W l) : Ext W h h2 :=
  ⟨Nat.le_trans a.le b.le, fun l hl n => (b.same l (Nat.lt_of_lt_of_le hl a.le) fun z => n (k l hl z)).trans (a.same l hl n)⟩
theorem Ext.mono {W W' : Nat → Prop} {h h1 : Hq} (a : Ext W h h1) (k : ∀ l, l < h.n → W l → W' l) : Ext W' h h1 := ⟨a.le, fun l hl n => a.same l hl fun z => n (k l hl z)⟩
theorem Ext.new {W : Nat → Prop} {h : Hq} (o : Ob) : Ext W h (h.new o) := ⟨Nat.le_succ _, fun l hl _ => nwL h o hl⟩
theorem Ext.upd {W : Nat → Prop} {h : Hq} {l : Nat} (o : Ob) (hl : W l) : Ext W h (h.upd l o) := ⟨Nat.le_refl _, fun j _ n => upN h l o fun e => n (by rw [e]; exact hl)⟩
theorem Ext.get {W : Nat → Prop} {h h' : Hq} (a : Ext W h h') (w : Wf h) {l : Nat} {o : Ob} (e : h.get l = some o) (n : ¬ W l) : h'.get l = some o := (a.same l (w l o e) n).trans e
/-! ### loops over a list -/
theorem forL_list {xs : List A} {f : Nat → A → A} {p : PItr} {g : MG} {body : MS} (P : Nat → Lc → Hq → Prop) (hp : ∀ i h, p i h = some ((xs[i]?).map (f i)))
    (step : ∀ i a L h, xs[i]? = some a → P i L h → ∃ fl L1 h1 L2 h2, g (f i a) L h = .ok fl L1 h1 ∧ body L1 h1 = .ok .nx L2 h2 ∧ P (i + 1) L2 h2) :
    ∀ (k fuel i : Nat) (L : Lc) (h : Hq), xs.length - i = k → k < fuel → P i L h → i ≤ xs.length → ∃ L' h', forL p g body fuel i L h = .ok .nx L' h' ∧ P xs.length L' h'
  | 0, fuel, i, L, h, ek, hf, hP, hi => by
    obtain ⟨m, rfl⟩ : ∃ m, fuel = m + 1 := ⟨fuel - 1, by omega⟩
    have e : i = xs.length := by omega
    subst e
    refine ⟨L, h, ?_, hP⟩
    simp only [forL, hp, List.getElem?_eq_none (Nat.le_refl xs.length), Option.map]
  | k + 1, fuel, i, L, h, ek, hf, hP, hi => by
    obtain ⟨m, rfl⟩ : ∃ m, fuel = m + 1 := ⟨fuel - 1, by omega⟩
    have hlt : i < xs.length := by omega
    obtain ⟨fl, L1, h1, L2, h2, e1, e2, hP2⟩ := step i xs[i] L h (List.getElem?_eq_getElem hlt) hP
    obtain ⟨L', h', e3, hP3⟩ := forL_list P hp step k m (i + 1) L2 h2 (by omega) (by omega) hP2 (by omega)
    refine ⟨L', h', ?_, hP3⟩
    simp only [forL, hp, List.getElem?_eq_getElem hlt, Option.map, e1, e2, e3]
/-! ### values that are simple and flat -/
def flatS : A → Bool
  | .int _ | .str _ | .bl _ | .non => true
  | _ => false
theorem flat_dat {h h' : Hq} {f : Nat} {a : A} (e : flatS a = true) : A.dat h f a = A.dat h' f a := by
  cases a <;> first | rfl | (cases e) | skip
  all_goals (cases f <;> simp [A.dat])
theorem flat_dats {h h' : Hq} : ∀ {f : Nat} {xs : List A}, xs.all flatS = true → A.dats h f xs = A.dats h' f xs
  | 0, [], _ => by simp [A.dats]
  | 0, _ :: _, _ => by simp [A.dats]
  | f + 1, [], _ => by simp [A.dats]
  | f + 1, x :: xs, e => by
    obtain ⟨e1, e2⟩ := Bool.and_eq_true_iff.mp (show (flatS x && xs.all flatS) = true from e)
    rw [A.dats, A.dats, flat_dat (h' := h') e1, flat_dats (h' := h') e2]
theorem simple_ok (n : Nat) (h : Hq) {v : A} (e : flatS v = true) : Q (n + 1) (.fn 0) [v] [] h = .ok (.bl true) h := by
  show D_0 (Q n) [v] [] h = _
  cases v <;> first | (cases e; done) | simp [D_0, callF, callC, bdKw, bdStar, bdOr, runF, outF, slots0, sSeq, sNil, sRet, sRetN, sExp, sAsg, sIf, sSetA, sSetI, sAugA, sAugI, sPar, setAll, RS.ofE, RS.ofA, eAttr, eLoc, eCon, Res.bind, getA, aNil, aCons, aStar, eTup, eLst, eMeth, methA, kOf, kLone, kKw, eCallF, eCallL, callV, isFn, eMake, makeA, e2, orE, orG, eCB, g1, g2, tOfE, tNot, tAnd, tOr, tB2, isB, truth, eIf, eNot, eAnd, eOr, seqOf, gNm, gTupA, gsCons, gsNil, Zk.putAt, putN, setAt, keyOf, eD0, eIsi, isiA, tagOf, oIs, List.lookup, eTupV, eBM, tyA, oIx, oIxM, oIxS, oIxD, oIxL, oIxT, L2.atI, L2.ixN, lstOf, oAddI, oSub, iOp, iOpC, oInO, oIn, oInK, oInS, oInF, oInD, lenO, lenD, lenA, List.all_cons, List.all_nil, List.map_cons, List.map_nil, List.length_cons, List.length_nil, isi_tuple, isi_int_str]
end K95
end
section
set_option Elab.async false
set_option linter.all false
set_option maxRecDepth 100000
set_option maxHeartbeats 0
namespace K95
open PySem PySem.Spec PyProof.Rows Zk
open L2 (Key)
/-! ### values without objects, their texts -/
mutual
def pureA : A → Bool
  | .int _ | .str _ | .bl _ | .non => true
  | .tup xs => pureAs xs
  | _ => false
def pureAs : List A → Bool
  | [] => true
  | x :: xs => pureA x && pureAs xs
end
theorem dat_pure {h h' : Hq} : ∀ f : Nat, (∀ a, pureA a = true → A.dat h f a = A.dat h' f a) ∧ ∀ xs, pureAs xs = true → A.dats h f xs = A.dats h' f xs
  | 0 => ⟨fun a e => by cases a <;> first | (simp [A.dat]; done) | (simp [pureA] at e; done), fun xs e => by cases xs <;> simp [A.dats]⟩
  | f + 1 => by
    obtain ⟨i1, i2⟩ := dat_pure (h := h) (h' := h') f
    refine ⟨fun a e => ?_, fun xs e => ?_⟩
    · cases a with
      | tup xs =>
        simp only [pureA] at e
        simp only [A.dat, i2 xs e]
      | _ => first | (simp [A.dat]; done) | (simp [pureA] at e; done)
    · cases xs with
      | nil => simp [A.dats]
      | cons x xs =>
        simp only [pureAs, Bool.and_eq_true] at e
        simp only [A.dats, i1 x e.1, i2 xs e.2]
theorem flat_pure {a : A} (e : flatS a = true) : pureA a = true := by cases a <;> first | (simp [pureA]; done) | (cases e; done)
theorem flats_pure : ∀ {xs : List A}, xs.all flatS = true → pureAs xs = true
  | [], _ => by simp [pureAs]
  | x :: xs, e => by
    obtain ⟨e1, e2⟩ := Bool.and_eq_true_iff.mp (show (flatS x && xs.all flatS) = true from e)
    simp [pureAs, flat_pure e1, flats_pure e2]
def reprP (a : A) : Option Str := match reprA a ⟨.e, 0⟩ with
  | .ok (.str s) _ => some s
  | _ => none
def sameP (a b : A) : Option Bool := match reprP a, reprP b with
  | some s, some t => if SeqAt.shaped (.str s) && SeqAt.shaped (.str t) then some (s == t) else none
  | _, _ => none
theorem repr_pure {a : A} {s : Str} (hf : pureA a = true) (h : Hq) (e : reprP a = some s) : reprA a h = .ok (.str s) h := by
  unfold reprP at e
  unfold reprA at e ⊢
  rw [(dat_pure (h' := ⟨.e, 0⟩) FU).1 a hf]
  cases q : A.dat ⟨.e, 0⟩ FU a with
  | none => rw [q] at e; cases e
  | some d =>
    rw [q] at e
    simp only at e ⊢
    split at e
    · rename_i s' h' e'
      split at e'
      · cases e; cases e'; rename_i z; rw [if_pos z]
      · cases e'
    · cases e
theorem same_ok (n : Nat) (h : Hq) {a b : A} {t : Bool} (ha : pureA a = true) (hb : pureA b = true) (e : sameP a b = some t) : Q (n + 1) (.fn 1) [a, b] [] h = .ok (.bl t) h := by
  show D_1 (Q n) [a, b] [] h = _
  unfold sameP at e
  cases ea : reprP a with
  | none => rw [ea] at e; cases e
  | some s =>
    cases eb : reprP b with
    | none => rw [ea, eb] at e; cases e
    | some u =>
      rw [ea, eb] at e
      simp only at e
      split at e
      · rename_i z
        cases e
        simp [D_1, callF, callC, bdKw, bdStar, bdOr, runF, outF, slots0, sSeq, sNil, sRet, sRetN, sExp, sAsg, sIf, sSetA, sSetI, sAugA, sAugI, sPar, setAll, RS.ofE, RS.ofA, eAttr, eLoc, eCon, Res.bind, getA, aNil, aCons, aStar, eTup, eLst, eMeth, methA, kOf, kLone, kKw, eCallF, eCallL, callV, isFn, eMake, makeA, Zk.e2, orE, orG, eCB, Zk.g1, Zk.g2, tOfE, tNot, tAnd, tOr, tB2, isB, truth, eIf, eNot, eAnd, eOr, seqOf, gNm, gTupA, gsCons, gsNil, Zk.putAt, putN, setAt, keyOf, eD0, eIsi, isiA, tagOf, oIs, List.lookup, eTupV, eBM, tyA, oIx, oIxM, oIxS, oIxD, oIxL, oIxT, L2.atI, L2.ixN, lstOf, oAddI, oSub, iOp, iOpC, oInO, oIn, oInK, oInS, oInF, oInD, lenO, lenD, lenA, List.all_cons, List.all_nil, List.map_cons, List.map_nil, List.length_cons, List.length_nil, repr_pure ha h ea, repr_pure hb h eb, oEq, oEqB, A.dat, FU]
        obtain ⟨z1, z2⟩ := Bool.and_eq_true_iff.mp z
        simp [z1, z2, PyData.eqv]
      · cases e
/-! ### the plain state of a group -/
structure Nd where
  rn : Str
  ps : List A
  found : A
  uses : List A
  seen : Int
def OkN (d : Nd) : Prop := d.uses.length ≤ 1000 ∧ flatS d.found = true ∧ SeqAt.shaped (.str d.rn) = true
def Nd.ob (d : Nd) : Ob := .ins 1 [(1, .tup [.str d.rn, .tup d.ps]), (2, d.found), (3, .tup d.uses), (4, .int d.seen)]
structure St (Rl : Type) where
  cells : List (Key × A)
  rules : List (Key × Rl)
  known : List (Key × Nd)
  busy : List Str
  rev : Int
  tally : List Int
  log : List A
section
variable {β γ : Type}
def findK (l : List (Key × β)) (k : Key) : Option β := (l.find? fun kv => decide (kv.1 = k)).map (·.2)
def putK (l : List (Key × β)) (k : Key) (v : β) : List (Key × β) := if (l.any fun kv => decide (kv.1 = k)) = true then l.map (fun kv => if kv.1 = k then (kv.1, v) else kv) else l ++ [(k, v)]
def dropK (l : List (Key × β)) (k : Key) : List (Key × β) := l.filter fun kv => decide (kv.1 ≠ k)
/-- two lists with the same keys, the values related -/
inductive Pd (r : β → γ → Prop) : List (Key × β) → List (Key × γ) → Prop
  | nil : Pd r [] []
  | cons {k : Key} {x : β} {y : γ} {l m} : r x y → Pd r l m → Pd r ((k, x) :: l) ((k, y) :: m)
variable {r r' : β → γ → Prop}
theorem Pd.find {k : Key} : ∀ {l : List (Key × β)} {m : List (Key × γ)}, Pd r l m → (findK l k = none ∧ findK m k = none) ∨ ∃ x y, findK l k = some x ∧ findK m k = some y ∧ r x y ∧ (k, x) ∈ l ∧ (k, y) ∈ m
  | _, _, .nil => .inl ⟨rfl, rfl⟩
  | (k1, x) :: l, (_, y) :: m, .cons q t => by
    by_cases e : k1 = k
    · subst e
      exact .inr ⟨x, y, by simp [findK], by simp [findK], q, .head _, .head _⟩
    · rcases Pd.find (k := k) t with ⟨a, b⟩ | ⟨x', y', a, b, c, d, d'⟩
      · exact .inl ⟨by simp only [findK, List.find?, decide_eq_false e] at a ⊢; exact a, by simp only [findK, List.find?, decide_eq_false e] at b ⊢; exact b⟩
      · exact .inr ⟨x', y', by simp only [findK, List.find?, decide_eq_false e] at a ⊢; exact a, by simp only [findK, List.find?, decide_eq_false e] at b ⊢; exact b, c, .tail _ d, .tail _ d'⟩
theorem Pd.any {k : Key} : ∀ {l : List (Key × β)} {m : List (Key × γ)}, Pd r l m → (l.any fun kv => decide (kv.1 = k)) = m.any fun kv => decide (kv.1 = k)
  | _, _, .nil => rfl
  | _, _, .cons _ t => by simp only [List.any_cons, Pd.any t]
theorem Pd.append {l l2 : List (Key × β)} {m m2 : List (Key × γ)} (a : Pd r l m) (b : Pd r l2 m2) : Pd r (l ++ l2) (m ++ m2) := by
  induction a with
  | nil => exact b
  | cons q t ih => exact .cons q ih
theorem Pd.put {k : Key} {x : β} {y : γ} {l : List (Key × β)} {m : List (Key × γ)} (h : Pd r l m) (q : r x y) : Pd r (putK l k x) (putK m k y) := by
  unfold putK
  rw [h.any]
  split
  · have key : ∀ {l : List (Key × β)} {m : List (Key × γ)}, Pd r l m → Pd r (l.map fun kv => if kv.1 = k then (kv.1, x) else kv) (m.map fun kv => if kv.1 = k then (kv.1, y) else kv) := by
      intro l m h
      induction h with
      | nil => exact .nil
      | @cons k1 x1 y1 l m q1 t ih =>
        simp only [List.map_cons]
        by_cases e : k1 = k
        · rw [if_pos e, if_pos e]; exact .cons q ih
        · rw [if_neg e, if_neg e]; exact .cons q1 ih
    exact key h
  · exact h.append (.cons q .nil)
theorem Pd.drop {k : Key} {l : List (Key × β)} {m : List (Key × γ)} (h : Pd r l m) : Pd r (dropK l k) (dropK m k) := by
  induction h with
  | nil => exact .nil
  | @cons k1 x1 y1 l m q1 t ih =>
    simp only [dropK, List.filter_cons] at ih ⊢
    by_cases e : k1 = k
    · simp [e]; simpa using ih
    · simp [e]; exact .cons q1 (by simpa using ih)
theorem Pd.imp {l : List (Key × β)} {m : List (Key × γ)} (h : Pd r l m) (k : ∀ key x y, (key, x) ∈ l → (key, y) ∈ m → r x y → r' x y) : Pd r' l m := by
  induction h with
  | nil => exact .nil
  | cons q t ih => exact .cons (k _ _ _ (.head _) (.head _) q) (ih fun key x y a b c => k key x y (.tail _ a) (.tail _ b) c)
theorem Pd.len {l : List (Key × β)} {m : List (Key × γ)} (h : Pd r l m) : l.length = m.length := by
  induction h with
  | nil => rfl
  | cons _ _ ih => simp [ih]
end
/-! ### what a rule's function does -/
inductive Pr where
  | ret (v : A) | cell (x : Str) (k : A → Pr) | call (r : Str) (ps : List A) (k : A → Pr) | log (x : A) (p : Pr) | no
section
variable {Rl : Type}
abbrev Cl (Rl : Type) := Str → List A → St Rl → Option (A × St Rl)
def unch (cl : Cl Rl) (use : A) (S : St Rl) : Option (Bool × St Rl) := match use with
  | .tup [.str w, tg, v] => if pureA v = true then if w = "cell" then match tg with
      | .str x => match findK S.cells (.inr x) with
        | some c => (sameP c v).map fun b => (b, S)
        | none => none
      | _ => none
    else if w = "node" then match tg with
      | .tup [.str r, .tup ps] => match cl r ps S with
        | some (c, S1) => (sameP c v).map fun b => (b, S1)
        | none => none
      | _ => none else none else none
  | _ => none
def conf (cl : Cl Rl) : List A → St Rl → Option (Bool × St Rl)
  | [], S => some (true, S)
  | u :: us, S => match unch cl u S with
    | some (true, S1) => conf cl us S1
    | r => r
def noteK (w : Str) (tg : A) : Option Str := if pureA tg = true then reprP (.tup [.str w, tg]) else none
def setd (nt : List (Key × A)) (k : Key) (v : A) : List (Key × A) := if (findK nt k).isSome then nt else putK nt k v
def runP (cl : Cl Rl) : Pr → List (Key × A) → St Rl → Option (A × List (Key × A) × St Rl)
  | .ret v, nt, S => some (v, nt, S)
  | .cell x k, nt, S => match findK S.cells (.inr x), noteK "cell" (.str x) with
    | some v, some key => if nt.length < 1000 then runP cl (k v) (setd nt (.inr key) (.tup [.str "cell", .str x, v])) S else none
    | _, _ => none
  | .call r ps k, nt, S => match cl r ps S, noteK "node" (.tup [.str r, .tup ps]) with
    | some (v, S1), some key => if nt.length < 1000 then runP cl (k v) (setd nt (.inr key) (.tup [.str "node", .tup [.str r, .tup ps], v])) S1 else none
    | _, _ => none
  | .log x p, nt, S => if S.log.length < 100000 then runP cl p nt { S with log := S.log ++ [x] } else none
  | .no, _, _ => none
def comp (pr : Rl → List A → Pr) (cl : Cl Rl) (rn : Str) (ps : List A) (S : St Rl) : Option (Nd × St Rl) := match findK S.rules (.inr rn) with
  | some f => match runP cl (pr f ps) [] S with
    | some (v, nt, S1) => if flatS v = true ∧ nt.length ≤ 1000 then some (⟨rn, ps, v, nt.map (·.2), S1.rev⟩, S1) else none
    | none => none
  | none => none
def bump (S : St Rl) (i : Nat) : St Rl := { S with tally := S.tally.set i (S.tally.getD i 0 + 1) }
def keep (S : St Rl) (t : Str) (d : Nd) (i : Nat) : Option (A × St Rl) :=
  if S.known.length < 100000 ∧ (findK S.known (.inr t)).isNone = true ∧ S.tally.length = 4 then some (d.found, bump { S with known := S.known ++ [(.inr t, d)] } i) else none
def refr (pr : Rl → List A → Pr) (cl : Cl Rl) (rn : Str) (ps : List A) (t : Str) (S : St Rl) : Option (A × St Rl) := match findK S.known (.inr t) with
  | some d => match conf cl d.uses { S with known := dropK S.known (.inr t) } with
    | some (true, S2) => keep S2 t { d with seen := S2.rev } 1
    | some (false, S2) => match comp pr cl rn ps S2 with
      | some (d2, S3) => keep S3 t d2 2
      | none => none
    | none => none
  | none => match comp pr cl rn ps S with
    | some (d2, S3) => keep S3 t d2 3
    | none => none
def curr (S : St Rl) (t : Str) : Option A := match findK S.known (.inr t) with
  | some d => if d.seen = S.rev then some d.found else none
  | none => none
def gstep (pr : Rl → List A → Pr) (cl : Cl Rl) : Cl Rl := fun rn ps S =>
  if (findK S.rules (.inr rn)).isSome = true ∧ ps.all flatS = true ∧ ps.length < 100 ∧ S.busy.length < 1000 ∧ S.tally.length = 4 ∧ SeqAt.shaped (.str rn) = true then match reprP (.tup [.str rn, .tup ps]) with
    | none => none
    | some t => if t ∈ S.busy then none else match curr S t with
      | some v => some (v, bump S 0)
      | none => match refr pr cl rn ps t { S with busy := S.busy ++ [t] } with
        | some (v, S2) => some (v, { S2 with busy := S.busy })
        | none => none
  else none
def gcall (pr : Rl → List A → Pr) : Nat → Cl Rl
  | 0 => fun _ _ _ => none
  | f + 1 => gstep pr (gcall pr f)
end
end K95
end
section
set_option Elab.async false
set_option linter.all false
set_option maxRecDepth 100000
set_option maxHeartbeats 0
namespace K95
open PySem PySem.Spec PyProof.Rows Zk
open L2 (Key)
/-! ### a group in the heap -/
abbrev GO (c r kn b t : Nat) (rev : Int) : Ob := .ins 3 [(10, .ref c), (11, .ref r), (12, .ref kn), (13, .ref b), (14, .int rev), (15, .ref t)]
section
variable {Rl : Type}
/-- how a rule's function lies in the heap -/
structure RelOk (rel : Hq → A → Rl → Prop) : Prop where
  st : ∀ h h' a ρ, rel h a ρ → (∀ l x, h.get l = some (.cel x) → h'.get l = some (.cel x)) → rel h' a ρ
  fn : ∀ h a ρ, rel h a ρ → isFn a = true
def Nx (h : Hq) (v : A) (d : Nd) : Prop := ∃ a, v = .ref a ∧ h.get a = some d.ob
structure Rx (rel : Hq → A → Rl → Prop) (g lg c r kn b t : Nat) (kvs : List (Key × A)) (h : Hq) (S : St Rl) : Prop where
  wf : Wf h
  hg : h.get g = some (GO c r kn b t S.rev)
  hc : h.get c = some (.dic S.cells)
  hr : ∃ rl, h.get r = some (.dic rl) ∧ Pd (rel h) rl S.rules
  hk : h.get kn = some (.dic kvs)
  hb : h.get b = some (.lst (S.busy.map A.str))
  ht : h.get t = some (.lst (S.tally.map A.int))
  hl : h.get lg = some (.lst S.log)
  nd : Pd (Nx h) kvs S.known
  un : (kvs.map (·.2)).Nodup
  kc : kn ≠ c
  kr : kn ≠ r
  cr : c ≠ r
  tl : t ≠ lg
  tb : t ≠ b
  lb : lg ≠ b
  us : ∀ p ∈ S.known, OkN p.2
  kd : (S.known.map (·.1)).Nodup
  cp : ∀ p ∈ S.cells, pureA p.2 = true
/-- what a call may change -/
def Ow (g lg kn t : Nat) (kvs : List (Key × A)) (l : Nat) : Prop := l = g ∨ l = kn ∨ l = t ∨ l = lg ∨ A.ref l ∈ kvs.map (·.2)
variable {rel : Hq → A → Rl → Prop} {g lg c r kn b t : Nat} {kvs : List (Key × A)} {h : Hq} {S : St Rl}
theorem Rx.node (R : Rx rel g lg c r kn b t kvs h S) {l : Nat} (hm : A.ref l ∈ kvs.map (·.2)) : ∃ d : Nd, h.get l = some d.ob := by
  have key : ∀ {kvs : List (Key × A)} {kd : List (Key × Nd)}, Pd (Nx h) kvs kd → A.ref l ∈ kvs.map (·.2) → ∃ d : Nd, h.get l = some d.ob := by
    intro kvs kd p
    induction p with
    | nil => intro hm; cases hm
    | cons q t ih =>
      intro hm
      rcases List.mem_cons.mp hm with e | e
      · obtain ⟨a, e1, e2⟩ := q
        rw [e1] at e
        cases e
        exact ⟨_, e2⟩
      · exact ih e
  exact key R.nd hm
/-- nothing of these is a cell, a read-only list .. -/
theorem Rx.ow (R : Rx rel g lg c r kn b t kvs h S) {l : Nat} (o : Ow g lg kn t kvs l) : ∃ x, h.get l = some x ∧ ((∃ a b, x = .ins a b) ∨ (∃ y, x = .dic y ∧ l = kn) ∨ ∃ y, x = .lst y ∧ (l = t ∨ l = lg)) := by
  rcases o with e | e | e | e | e
  · subst e; exact ⟨_, R.hg, .inl ⟨_, _, rfl⟩⟩
  · subst e; exact ⟨_, R.hk, .inr (.inl ⟨_, rfl, rfl⟩)⟩
  · subst e; exact ⟨_, R.ht, .inr (.inr ⟨_, rfl, .inl rfl⟩)⟩
  · subst e; exact ⟨_, R.hl, .inr (.inr ⟨_, rfl, .inr rfl⟩)⟩
  · obtain ⟨d, e⟩ := R.node e; exact ⟨_, e, .inl ⟨_, _, rfl⟩⟩
theorem Rx.cel (R : Rx rel g lg c r kn b t kvs h S) {h' : Hq} (x : Ext (Ow g lg kn t kvs) h h') {l : Nat} {v : Option A} (e : h.get l = some (.cel v)) : h'.get l = some (.cel v) := by
  refine x.get R.wf e fun o => ?_
  obtain ⟨y, ey, q⟩ := R.ow o
  rw [e] at ey
  cases ey
  rcases q with ⟨_, _, z⟩ | ⟨_, z, _⟩ | ⟨_, z, _⟩ <;> cases z
theorem Rx.lt (R : Rx rel g lg c r kn b t kvs h S) : g < h.n ∧ c < h.n ∧ r < h.n ∧ kn < h.n ∧ b < h.n ∧ t < h.n ∧ lg < h.n := by
  obtain ⟨rl, e, _⟩ := R.hr
  exact ⟨R.wf _ _ R.hg, R.wf _ _ R.hc, R.wf _ _ e, R.wf _ _ R.hk, R.wf _ _ R.hb, R.wf _ _ R.ht, R.wf _ _ R.hl⟩
/-- a new object more -/
theorem Rx.grow (R : Rx rel g lg c r kn b t kvs h S) (K : RelOk rel) {h' : Hq} (w : Wf h') (x : Ext (fun _ => False) h h') : Rx rel g lg c r kn b t kvs h' S := by
  have k : ∀ {l o}, h.get l = some o → h'.get l = some o := fun {l o} e => x.get R.wf e id
  obtain ⟨rl, e1, e2⟩ := R.hr
  exact ⟨w, k R.hg, k R.hc, ⟨rl, k e1, e2.imp fun _ _ _ _ _ q => K.st _ _ _ _ q fun _ _ e => k e⟩, k R.hk, k R.hb, k R.ht, k R.hl, R.nd.imp fun _ _ _ _ _ ⟨a, e1, e2⟩ => ⟨a, e1, k e2⟩, R.un, R.kc, R.kr, R.cr, R.tl, R.tb, R.lb, R.us, R.kd, R.cp⟩
theorem Rx.new (R : Rx rel g lg c r kn b t kvs h S) (K : RelOk rel) (o : Ob) : Rx rel g lg c r kn b t kvs (h.new o) S := R.grow K (R.wf.new o) (Ext.new o)
theorem find_some {β : Type} {l : List (Key × β)} {k : Key} {v : β} (e : findK l k = some v) : (k, v) ∈ l := by
  unfold findK at e
  cases q : l.find? fun kv => decide (kv.1 = k) with
  | none => rw [q] at e; cases e
  | some p =>
    rw [q] at e
    cases e
    have h1 := List.mem_of_find?_eq_some q
    have h2 := List.find?_some q
    have h2 : p.1 = k := of_decide_eq_true h2
    rw [← h2]
    exact h1
/-! ### texts of nodes -/
theorem text_ok (n : Nat) (R : Rx rel g lg c r kn b t kvs h S) {rn : Str} {ps : List A} {tx : Str} (h1 : (findK S.rules (.inr rn)).isSome = true) (h2 : ps.all flatS = true) (h3 : ps.length < 100) (ht : reprP (.tup [.str rn, .tup ps]) = some tx) :
    Q (n + 2) (.fn 15) [.ref g, .str rn, .tup ps] [] h = .ok (.str tx) h := by
  show D_15 (Q (n + 1)) [.ref g, .str rn, .tup ps] [] h = _
  obtain ⟨rl, hr, pr⟩ := R.hr
  have hi : (valA rl (.inr rn)).isSome = true := by
    rcases pr.find (k := .inr rn) with ⟨e1, e2⟩ | ⟨x, y, e1, e2, _⟩
    · rw [e2] at h1; cases h1
    · show (findK rl (.inr rn)).isSome = true
      rw [e1]; rfl
  obtain ⟨L', h', e, hh, x, y, rfl⟩ := forL_list (xs := ps) (f := fun i a => .tup [.int (i : Nat), a]) (p := enP ps) (g := gTupA 2 (gsCons (gNm 3) (gsCons (gNm 4) gsNil)))
    (body := sSeq (sIf (tNot (tOfE (eCallF (Q (n + 1)) (.fn 0) (kOf (aCons (eLoc 4) aNil))))) sBad sNil) sNil) (fun _ L h' => h' = h ∧ ∃ x y, L = [some (.ref g), some (.str rn), some (.tup ps), x, y]) (fun _ _ => rfl) (fun i a L h0 ei ⟨eh, x, y, eL⟩ => by
      subst eh eL
      have ha : flatS a = true := List.all_eq_true.mp h2 a (List.mem_of_getElem? ei)
      exact ⟨.nx, [some (.ref g), some (.str rn), some (.tup ps), some (.int (i : Nat)), some a], h0, [some (.ref g), some (.str rn), some (.tup ps), some (.int (i : Nat)), some a], h0, by simp [callF, callC, bdKw, bdStar, bdOr, runF, outF, slots0, sSeq, sNil, sRet, sRetN, sExp, sAsg, sIf, sSetA, sSetI, sAugA, sAugI, sPar, setAll, RS.ofE, RS.ofA, eAttr, eLoc, eCon, Res.bind, getA, aNil, aCons, aStar, eTup, eLst, eMeth, methA, kOf, kLone, kKw, eCallF, eCallL, callV, isFn, eMake, makeA, Zk.e2, orE, orG, eCB, Zk.g1, Zk.g2, tOfE, tNot, tAnd, tOr, tB2, isB, truth, eIf, eNot, eAnd, eOr, seqOf, gNm, gTupA, gsCons, gsNil, Zk.putAt, putN, setAt, keyOf, eD0, eIsi, isiA, tagOf, oIs, List.lookup, eTupV, eBM, tyA, oIx, oIxM, oIxS, oIxD, oIxL, oIxT, L2.atI, L2.ixN, lstOf, oAddI, oSub, iOp, iOpC, oInO, oIn, oInK, oInS, oInF, oInD, lenO, lenD, lenA, List.all_cons, List.all_nil, List.map_cons, List.map_nil, List.length_cons, List.length_nil], by simp [callF, callC, bdKw, bdStar, bdOr, runF, outF, slots0, sSeq, sNil, sRet, sRetN, sExp, sAsg, sIf, sSetA, sSetI, sAugA, sAugI, sPar, setAll, RS.ofE, RS.ofA, eAttr, eLoc, eCon, Res.bind, getA, aNil, aCons, aStar, eTup, eLst, eMeth, methA, kOf, kLone, kKw, eCallF, eCallL, callV, isFn, eMake, makeA, Zk.e2, orE, orG, eCB, Zk.g1, Zk.g2, tOfE, tNot, tAnd, tOr, tB2, isB, truth, eIf, eNot, eAnd, eOr, seqOf, gNm, gTupA, gsCons, gsNil, Zk.putAt, putN, setAt, keyOf, eD0, eIsi, isiA, tagOf, oIs, List.lookup, eTupV, eBM, tyA, oIx, oIxM, oIxS, oIxD, oIxL, oIxT, L2.atI, L2.ixN, lstOf, oAddI, oSub, iOp, iOpC, oInO, oIn, oInK, oInS, oInF, oInD, lenO, lenD, lenA, List.all_cons, List.all_nil, List.map_cons, List.map_nil, List.length_cons, List.length_nil, simple_ok n h0 ha], rfl, _, _, rfl⟩) ps.length FL 0 [some (.ref g), some (.str rn), some (.tup ps), none, none] h rfl (by unfold FL; omega) ⟨rfl, _, _, rfl⟩ (Nat.zero_le _)
  subst hh
  have hp : pureA (.tup [.str rn, .tup ps]) = true := by simp [pureA, pureAs, flats_pure h2]
  have e2 : sFor (iEnT (eLoc 2)) (gTupA 2 (gsCons (gNm 3) (gsCons (gNm 4) gsNil))) (sSeq (sIf (tNot (tOfE (eCallF (Q (n + 1)) (.fn 0) (kOf (aCons (eLoc 4) aNil))))) sBad sNil) sNil) FL [some (.ref g), some (.str rn), some (.tup ps), none, none] h' = .ok .nx [some (.ref g), some (.str rn), some (.tup ps), x, y] h' := by
    unfold sFor
    simp only [iEnT, eLoc, Res.bind, List.getElem?_cons_succ, List.getElem?_cons_zero]
    exact e
  simp [D_15, callF, callC, bdKw, bdStar, bdOr, runF, outF, slots0, sSeq, sNil, sRet, sRetN, sExp, sAsg, sIf, sSetA, sSetI, sAugA, sAugI, sPar, setAll, RS.ofE, RS.ofA, eAttr, eLoc, eCon, Res.bind, getA, aNil, aCons, aStar, eTup, eLst, eMeth, methA, kOf, kLone, kKw, eCallF, eCallL, callV, isFn, eMake, makeA, Zk.e2, orE, orG, eCB, Zk.g1, Zk.g2, tOfE, tNot, tAnd, tOr, tB2, isB, truth, eIf, eNot, eAnd, eOr, seqOf, gNm, gTupA, gsCons, gsNil, Zk.putAt, putN, setAt, keyOf, eD0, eIsi, isiA, tagOf, oIs, List.lookup, eTupV, eBM, tyA, oIx, oIxM, oIxS, oIxD, oIxL, oIxT, L2.atI, L2.ixN, lstOf, oAddI, oSub, iOp, iOpC, oInO, oIn, oInK, oInS, oInF, oInD, lenO, lenD, lenA, List.all_cons, List.all_nil, List.map_cons, List.map_nil, List.length_cons, List.length_nil, isi_str, at_rules, R.hg, hr, hi, e2, repr_pure hp h' ht, SZ]
end
end K95
end
section
set_option Elab.async false
set_option linter.all false
set_option maxRecDepth 100000
set_option maxHeartbeats 0
namespace K95
open PySem PySem.Spec PyProof.Rows Zk
open L2 (Key)
section
variable {Rl : Type} {rel : Hq → A → Rl → Prop} {g lg c r kn b t : Nat} {kvs : List (Key × A)} {h : Hq} {S : St Rl}
theorem valA_findK (l : List (Key × A)) (k : Key) : valA l k = findK l k := rfl
theorem putA_putK (l : List (Key × A)) (k : Key) (v : A) : putA l k v = putK l k v := rfl
theorem dropA_dropK (l : List (Key × A)) (k : Key) : dropA l k = dropK l k := rfl
theorem contains_ok (n : Nat) (R : Rx rel g lg c r kn b t kvs h S) (x : Str) : Q (n + 1) (.fn 12) [.ref g, .str x] [] h = .ok (.bl (findK S.cells (.inr x)).isSome) h := by
  show D_12 (Q n) [.ref g, .str x] [] h = _
  simp [D_12, callF, callC, bdKw, bdStar, bdOr, runF, outF, slots0, sSeq, sNil, sRet, sRetN, sExp, sAsg, sIf, sSetA, sSetI, sAugA, sAugI, sPar, setAll, RS.ofE, RS.ofA, eAttr, eLoc, eCon, Res.bind, getA, aNil, aCons, aStar, eTup, eLst, eMeth, methA, kOf, kLone, kKw, eCallF, eCallL, callV, isFn, eMake, makeA, Zk.e2, orE, orG, eCB, Zk.g1, Zk.g2, tOfE, tNot, tAnd, tOr, tB2, isB, truth, eIf, eNot, eAnd, eOr, seqOf, gNm, gTupA, gsCons, gsNil, Zk.putAt, putN, setAt, keyOf, eD0, eIsi, isiA, tagOf, oIs, List.lookup, eTupV, eBM, tyA, oIx, oIxM, oIxS, oIxD, oIxL, oIxT, L2.atI, L2.ixN, lstOf, oAddI, oSub, iOp, iOpC, oInO, oIn, oInK, oInS, oInF, oInD, lenO, lenD, lenA, List.all_cons, List.all_nil, List.map_cons, List.map_nil, List.length_cons, List.length_nil, isi_str, at_cells, R.hg, R.hc, valA_findK]
theorem cell_ok (n : Nat) (R : Rx rel g lg c r kn b t kvs h S) {x : Str} {v : A} (e : findK S.cells (.inr x) = some v) : Q (n + 2) (.fn 14) [.ref g, .str x] [] h = .ok v h := by
  show D_14 (Q (n + 1)) [.ref g, .str x] [] h = _
  simp [D_14, callF, callC, bdKw, bdStar, bdOr, runF, outF, slots0, sSeq, sNil, sRet, sRetN, sExp, sAsg, sIf, sSetA, sSetI, sAugA, sAugI, sPar, setAll, RS.ofE, RS.ofA, eAttr, eLoc, eCon, Res.bind, getA, aNil, aCons, aStar, eTup, eLst, eMeth, methA, kOf, kLone, kKw, eCallF, eCallL, callV, isFn, eMake, makeA, Zk.e2, orE, orG, eCB, Zk.g1, Zk.g2, tOfE, tNot, tAnd, tOr, tB2, isB, truth, eIf, eNot, eAnd, eOr, seqOf, gNm, gTupA, gsCons, gsNil, Zk.putAt, putN, setAt, keyOf, eD0, eIsi, isiA, tagOf, oIs, List.lookup, eTupV, eBM, tyA, oIx, oIxM, oIxS, oIxD, oIxL, oIxT, L2.atI, L2.ixN, lstOf, oAddI, oSub, iOp, iOpC, oInO, oIn, oInK, oInS, oInF, oInD, lenO, lenD, lenA, List.all_cons, List.all_nil, List.map_cons, List.map_nil, List.length_cons, List.length_nil, at_cells, tb_contains, R.hg, R.hc, contains_ok n R x, valA_findK, e, dget]
/-! ### a reader's notes -/
def noteH (h : Hq) (nt : Nat) (notes : List (Key × A)) (k : Key) (v : A) : Hq := if (findK notes k).isSome then h else h.upd nt (.dic (putK notes k v))
theorem noteH_get {nt : Nat} {notes : List (Key × A)} {k : Key} {v : A} (e : h.get nt = some (.dic notes)) : (noteH h nt notes k v).get nt = some (.dic (setd notes k v)) := by
  unfold noteH setd
  split
  · exact e
  · exact upS _ _ _
theorem noteH_ne {nt : Nat} {notes : List (Key × A)} {k : Key} {v : A} {l : Nat} (e : l ≠ nt) : (noteH h nt notes k v).get l = h.get l := by
  unfold noteH
  split
  · rfl
  · exact upN _ _ _ e
theorem noteH_n {nt : Nat} {notes : List (Key × A)} {k : Key} {v : A} : (noteH h nt notes k v).n = h.n := by
  unfold noteH
  split <;> rfl
abbrev RO (g nt : Nat) : Ob := .ins 2 [(5, .ref g), (6, .ref nt)]
theorem note_ok (n : Nat) {rd nt : Nat} {notes : List (Key × A)} (hrd : h.get rd = some (RO g nt)) (hnt : h.get nt = some (.dic notes)) (hl : notes.length < 1000) {w key : Str} {tg v : A} (hk : noteK w tg = some key) :
    Q (n + 1) (.fn 5) [.ref rd, .str w, tg, v] [] h = .ok .non (noteH h nt notes (.inr key) (.tup [.str w, tg, v])) := by
  show D_5 (Q n) [.ref rd, .str w, tg, v] [] h = _
  unfold noteK at hk
  split at hk
  · rename_i hp
    have hp2 : pureA (.tup [.str w, tg]) = true := by simp [pureA, pureAs, hp]
    have hz : notes.length < SZ := by unfold SZ; omega
    have hrp := repr_pure hp2 h hk
    unfold noteH
    cases ef : findK notes (.inr key) with
    | none => simp [D_5, callF, callC, bdKw, bdStar, bdOr, runF, outF, slots0, sSeq, sNil, sRet, sRetN, sExp, sAsg, sIf, sSetA, sSetI, sAugA, sAugI, sPar, setAll, RS.ofE, RS.ofA, eAttr, eLoc, eCon, Res.bind, getA, aNil, aCons, aStar, eTup, eLst, eMeth, methA, kOf, kLone, kKw, eCallF, eCallL, callV, isFn, eMake, makeA, Zk.e2, orE, orG, eCB, Zk.g1, Zk.g2, tOfE, tNot, tAnd, tOr, tB2, isB, truth, eIf, eNot, eAnd, eOr, seqOf, gNm, gTupA, gsCons, gsNil, Zk.putAt, putN, setAt, keyOf, eD0, eIsi, isiA, tagOf, oIs, List.lookup, eTupV, eBM, tyA, oIx, oIxM, oIxS, oIxD, oIxL, oIxT, L2.atI, L2.ixN, lstOf, oAddI, oSub, iOp, iOpC, oInO, oIn, oInK, oInS, oInF, oInD, lenO, lenD, lenA, List.all_cons, List.all_nil, List.map_cons, List.map_nil, List.length_cons, List.length_nil, at_notes, hrd, hnt, gSetd, hrp, SZ, hz, valA_findK, putA_putK, ef, show notes.length < 16777216 by omega]
    | some y => simp [D_5, callF, callC, bdKw, bdStar, bdOr, runF, outF, slots0, sSeq, sNil, sRet, sRetN, sExp, sAsg, sIf, sSetA, sSetI, sAugA, sAugI, sPar, setAll, RS.ofE, RS.ofA, eAttr, eLoc, eCon, Res.bind, getA, aNil, aCons, aStar, eTup, eLst, eMeth, methA, kOf, kLone, kKw, eCallF, eCallL, callV, isFn, eMake, makeA, Zk.e2, orE, orG, eCB, Zk.g1, Zk.g2, tOfE, tNot, tAnd, tOr, tB2, isB, truth, eIf, eNot, eAnd, eOr, seqOf, gNm, gTupA, gsCons, gsNil, Zk.putAt, putN, setAt, keyOf, eD0, eIsi, isiA, tagOf, oIs, List.lookup, eTupV, eBM, tyA, oIx, oIxM, oIxS, oIxD, oIxL, oIxT, L2.atI, L2.ixN, lstOf, oAddI, oSub, iOp, iOpC, oInO, oIn, oInK, oInS, oInF, oInD, lenO, lenD, lenA, List.all_cons, List.all_nil, List.map_cons, List.map_nil, List.length_cons, List.length_nil, at_notes, hrd, hnt, gSetd, hrp, SZ, hz, valA_findK, putA_putK, ef, show notes.length < 16777216 by omega]
  · cases hk
theorem rcell_ok (n : Nat) (R : Rx rel g lg c r kn b t kvs h S) {rd nt : Nat} {notes : List (Key × A)} (hrd : h.get rd = some (RO g nt)) (hnt : h.get nt = some (.dic notes)) (hl : notes.length < 1000) {x key : Str} {v : A} (hk : noteK "cell" (.str x) = some key) (e : findK S.cells (.inr x) = some v) :
    Q (n + 3) (.fn 6) [.ref rd, .str x] [] h = .ok v (noteH h nt notes (.inr key) (.tup [.str "cell", .str x, v])) := by
  show D_6 (Q (n + 2)) [.ref rd, .str x] [] h = _
  simp [D_6, callF, callC, bdKw, bdStar, bdOr, runF, outF, slots0, sSeq, sNil, sRet, sRetN, sExp, sAsg, sIf, sSetA, sSetI, sAugA, sAugI, sPar, setAll, RS.ofE, RS.ofA, eAttr, eLoc, eCon, Res.bind, getA, aNil, aCons, aStar, eTup, eLst, eMeth, methA, kOf, kLone, kKw, eCallF, eCallL, callV, isFn, eMake, makeA, Zk.e2, orE, orG, eCB, Zk.g1, Zk.g2, tOfE, tNot, tAnd, tOr, tB2, isB, truth, eIf, eNot, eAnd, eOr, seqOf, gNm, gTupA, gsCons, gsNil, Zk.putAt, putN, setAt, keyOf, eD0, eIsi, isiA, tagOf, oIs, List.lookup, eTupV, eBM, tyA, oIx, oIxM, oIxS, oIxD, oIxL, oIxT, L2.atI, L2.ixN, lstOf, oAddI, oSub, iOp, iOpC, oInO, oIn, oInK, oInS, oInF, oInD, lenO, lenD, lenA, List.all_cons, List.all_nil, List.map_cons, List.map_nil, List.length_cons, List.length_nil, at_group, tb_cell, tb_note, hrd, R.hg, cell_ok n R e, note_ok (n + 1) hrd hnt hl hk]
end
end K95
end
section
set_option Elab.async false
set_option linter.all false
set_option maxRecDepth 100000
set_option maxHeartbeats 0
namespace K95
open PySem PySem.Spec PyProof.Rows Zk
open L2 (Key)
section
variable {Rl : Type} {rel : Hq → A → Rl → Prop} {g lg c r kn b t : Nat} {kvs : List (Key × A)} {h : Hq} {S : St Rl}
/-- what a call leaves -/
structure Fr (g lg kn t : Nat) (kvs : List (Key × A)) (h : Hq) (kvs' : List (Key × A)) (h' : Hq) : Prop where
  x : Ext (Ow g lg kn t kvs) h h'
  o : ∀ l, Ow g lg kn t kvs' l → Ow g lg kn t kvs l ∨ h.n ≤ l
theorem Fr.refl : Fr g lg kn t kvs h kvs h := ⟨Ext.refl, fun _ o => .inl o⟩
theorem Fr.trans {k1 k2 : List (Key × A)} {h1 h2 : Hq} (a : Fr g lg kn t kvs h k1 h1) (b : Fr g lg kn t k1 h1 k2 h2) : Fr g lg kn t kvs h k2 h2 :=
  ⟨a.x.trans b.x fun l hl o => (a.o l o).elim id fun z => absurd hl (by omega), fun l o => (b.o l o).elim (a.o l) fun z => .inr (Nat.le_trans a.x.le z)⟩
theorem Fr.get {h' : Hq} {kvs' : List (Key × A)} (f : Fr g lg kn t kvs h kvs' h') (w : Wf h) {l : Nat} {o : Ob} (e : h.get l = some o) (n : ¬ Ow g lg kn t kvs l) : h'.get l = some o := f.x.get w e n
theorem Fr.out {h' : Hq} {kvs' : List (Key × A)} (f : Fr g lg kn t kvs h kvs' h') {l : Nat} (hl : l < h.n) (n : ¬ Ow g lg kn t kvs l) : ¬ Ow g lg kn t kvs' l := fun o => (f.o l o).elim n fun z => by omega
/-- the call of a node, at depth m -/
def CallOk (rel : Hq → A → Rl → Prop) (lg : Nat) (cl : Cl Rl) (m : Nat) : Prop := ∀ (n : Nat) (h : Hq) (S : St Rl) (g c r kn b t : Nat) (kvs : List (Key × A)) (rn : Str) (ps : List A) (v : A) (S' : St Rl), Rx rel g lg c r kn b t kvs h S → cl rn ps S = some (v, S') →
  flatS v = true ∧ ∃ h' kvs', Q (n + m) (.fn 20) (.ref g :: .str rn :: ps) [] h = .ok v h' ∧ Rx rel g lg c r kn b t kvs' h' S' ∧ Fr g lg kn t kvs h kvs' h'
theorem sh_cell : SeqAt.shaped (.str "cell") = true := by decide +kernel
theorem sh_node : SeqAt.shaped (.str "node") = true := by decide +kernel
theorem ne_nc : (("node" : Str) == "cell") = false := by decide +kernel
theorem unch_ok {cl : Cl Rl} {m : Nat} (K : CallOk rel lg cl (m + 2)) (n : Nat) (R : Rx rel g lg c r kn b t kvs h S) {use : A} {bl : Bool} {S' : St Rl} (e : unch cl use S = some (bl, S')) :
    ∃ h' kvs', Q (n + (m + 3)) (.fn 16) [.ref g, use] [] h = .ok (.bl bl) h' ∧ Rx rel g lg c r kn b t kvs' h' S' ∧ Fr g lg kn t kvs h kvs' h' := by
  unfold unch at e
  split at e
  · rename_i w tg v
    split at e
    · rename_i hp
      split at e
      · rename_i hw
        subst hw
        split at e
        · rename_i x
          split at e
          · rename_i cv hc
            cases es : sameP cv v with
            | none => rw [es] at e; cases e
            | some bb =>
              rw [es] at e
              cases e
              refine ⟨h, kvs, ?_, R, Fr.refl⟩
              show D_16 (Q (n + (m + 2))) [.ref g, .tup [.str "cell", .str x, v]] [] h = _
              have q1 : Q (n + (m + 2)) (.fn 14) [.ref g, .str x] [] h = .ok cv h := cell_ok (n + m) R hc
              have q2 : Q (n + (m + 2)) (.fn 1) [cv, v] [] h = .ok (.bl bl) h := same_ok (n + (m + 1)) h (R.cp _ (find_some hc)) hp es
              simp [D_16, callF, callC, bdKw, bdStar, bdOr, runF, outF, slots0, sSeq, sNil, sRet, sRetN, sExp, sAsg, sIf, sSetA, sSetI, sAugA, sAugI, sPar, setAll, RS.ofE, RS.ofA, eAttr, eLoc, eCon, Res.bind, getA, aNil, aCons, aStar, eTup, eLst, eMeth, methA, kOf, kLone, kKw, eCallF, eCallL, callV, isFn, eMake, makeA, Zk.e2, orE, orG, eCB, Zk.g1, Zk.g2, tOfE, tNot, tAnd, tOr, tB2, isB, truth, eIf, eNot, eAnd, eOr, seqOf, gNm, gTupA, gsCons, gsNil, Zk.putAt, putN, setAt, keyOf, eD0, eIsi, isiA, tagOf, oIs, List.lookup, eTupV, eBM, tyA, oIx, oIxM, oIxS, oIxD, oIxL, oIxT, L2.atI, L2.ixN, lstOf, oAddI, oSub, iOp, iOpC, oInO, oIn, oInK, oInS, oInF, oInD, lenO, lenD, lenA, List.all_cons, List.all_nil, List.map_cons, List.map_nil, List.length_cons, List.length_nil, oEq, oEqB, A.dat, FU, sh_cell, PyData.eqv, tb_cell, R.hg, q1, q2]
          · cases e
        · cases e
      · rename_i hw
        split at e
        · rename_i hw2
          subst hw2
          split at e
          · rename_i rn ps
            split at e
            · rename_i cv S1 hc
              cases es : sameP cv v with
              | none => rw [es] at e; cases e
              | some bb =>
                rw [es] at e
                cases e
                obtain ⟨hf, h', kvs', q1, R', F⟩ := K n h S g c r kn b t kvs rn ps cv S' R hc
                refine ⟨h', kvs', ?_, R', F⟩
                show D_16 (Q (n + (m + 2))) [.ref g, .tup [.str "node", .tup [.str rn, .tup ps], v]] [] h = _
                have q2 : Q (n + (m + 2)) (.fn 1) [cv, v] [] h' = .ok (.bl bl) h' := same_ok (n + (m + 1)) h' (flat_pure hf) hp es
                simp [D_16, callF, callC, bdKw, bdStar, bdOr, runF, outF, slots0, sSeq, sNil, sRet, sRetN, sExp, sAsg, sIf, sSetA, sSetI, sAugA, sAugI, sPar, setAll, RS.ofE, RS.ofA, eAttr, eLoc, eCon, Res.bind, getA, aNil, aCons, aStar, eTup, eLst, eMeth, methA, kOf, kLone, kKw, eCallF, eCallL, callV, isFn, eMake, makeA, Zk.e2, orE, orG, eCB, Zk.g1, Zk.g2, tOfE, tNot, tAnd, tOr, tB2, isB, truth, eIf, eNot, eAnd, eOr, seqOf, gNm, gTupA, gsCons, gsNil, Zk.putAt, putN, setAt, keyOf, eD0, eIsi, isiA, tagOf, oIs, List.lookup, eTupV, eBM, tyA, oIx, oIxM, oIxS, oIxD, oIxL, oIxT, L2.atI, L2.ixN, lstOf, oAddI, oSub, iOp, iOpC, oInO, oIn, oInK, oInS, oInF, oInD, lenO, lenD, lenA, List.all_cons, List.all_nil, List.map_cons, List.map_nil, List.length_cons, List.length_nil, oEq, oEqB, A.dat, FU, sh_cell, sh_node, ne_nc, PyData.eqv, tb_call, R.hg, q1, q2]
            · cases e
          · cases e
        · cases e
    · cases e
  · cases e
/-- a reader's call -/
theorem rcall_ok {cl : Cl Rl} {m : Nat} (K : CallOk rel lg cl (m + 2)) (n : Nat) (R : Rx rel g lg c r kn b t kvs h S) {rd nt : Nat} {notes : List (Key × A)} (hrd : h.get rd = some (RO g nt)) (hnt : h.get nt = some (.dic notes)) (ord : ¬ Ow g lg kn t kvs rd) (ont : ¬ Ow g lg kn t kvs nt)
    (hl : notes.length < 1000) {rn key : Str} {ps : List A} {v : A} {S' : St Rl} (hz : ps.length < 100) (hk : noteK "node" (.tup [.str rn, .tup ps]) = some key) (e : cl rn ps S = some (v, S')) :
    flatS v = true ∧ ∃ h' kvs', Q (n + (m + 3)) (.fn 7) (.ref rd :: .str rn :: ps) [] h = .ok v (noteH h' nt notes (.inr key) (.tup [.str "node", .tup [.str rn, .tup ps], v])) ∧ Rx rel g lg c r kn b t kvs' h' S' ∧ Fr g lg kn t kvs h kvs' h' := by
  obtain ⟨hf, h', kvs', q1, R', F⟩ := K n h S g c r kn b t kvs rn ps v S' R e
  refine ⟨hf, h', kvs', ?_, R', F⟩
  show D_7 (Q (n + (m + 2))) (.ref rd :: .str rn :: ps) [] h = _
  have hrd' : h'.get rd = some (RO g nt) := F.get R.wf hrd ord
  have hnt' : h'.get nt = some (.dic notes) := F.get R.wf hnt ont
  have q2 : Q (n + (m + 2)) (.fn 5) [.ref rd, .str "node", .tup [.str rn, .tup ps], v] [] h' = .ok .non (noteH h' nt notes (.inr key) (.tup [.str "node", .tup [.str rn, .tup ps], v])) := note_ok (n + (m + 1)) hrd' hnt' hl hk
  have z : ps.length + 2 ≤ 16777216 := by omega
  simp [D_7, callF, callC, bdKw, bdStar, bdOr, runF, outF, slots0, sSeq, sNil, sRet, sRetN, sExp, sAsg, sIf, sSetA, sSetI, sAugA, sAugI, sPar, setAll, RS.ofE, RS.ofA, eAttr, eLoc, eCon, Res.bind, getA, aNil, aCons, aStar, eTup, eLst, eMeth, methA, kOf, kLone, kKw, eCallF, eCallL, callV, isFn, eMake, makeA, Zk.e2, orE, orG, eCB, Zk.g1, Zk.g2, tOfE, tNot, tAnd, tOr, tB2, isB, truth, eIf, eNot, eAnd, eOr, seqOf, gNm, gTupA, gsCons, gsNil, Zk.putAt, putN, setAt, keyOf, eD0, eIsi, isiA, tagOf, oIs, List.lookup, eTupV, eBM, tyA, oIx, oIxM, oIxS, oIxD, oIxL, oIxT, L2.atI, L2.ixN, lstOf, oAddI, oSub, iOp, iOpC, oInO, oIn, oInK, oInS, oInF, oInD, lenO, lenD, lenA, List.all_cons, List.all_nil, List.map_cons, List.map_nil, List.length_cons, List.length_nil, SZ, z, at_group, tb_call, tb_note, hrd, R.hg, q1, hrd', q2]
end
end K95
end
section
set_option Elab.async false
set_option linter.all false
set_option maxRecDepth 100000
set_option maxHeartbeats 0
namespace K95
open PySem PySem.Spec PyProof.Rows Zk
open L2 (Key)
section
variable {Rl : Type} {rel : Hq → A → Rl → Prop} {g lg c r kn b t : Nat} {kvs : List (Key × A)} {h : Hq} {S : St Rl}
theorem Rx.ins (R : Rx rel g lg c r kn b t kvs h S) {l : Nat} {y : List (Key × A)} (e : h.get l = some (.dic y)) (n : l ≠ kn) : ¬ Ow g lg kn t kvs l := fun o => by
  obtain ⟨x, ex, q⟩ := R.ow o
  rw [e] at ex
  cases ex
  rcases q with ⟨_, _, z⟩ | ⟨_, _, z⟩ | ⟨_, z, _⟩
  · cases z
  · exact n z
  · cases z
theorem Rx.inl (R : Rx rel g lg c r kn b t kvs h S) {l : Nat} {y : List A} (e : h.get l = some (.lst y)) (n : l ≠ t) (n2 : l ≠ lg) : ¬ Ow g lg kn t kvs l := fun o => by
  obtain ⟨x, ex, q⟩ := R.ow o
  rw [e] at ex
  cases ex
  rcases q with ⟨_, _, z⟩ | ⟨_, z, _⟩ | ⟨_, _, z⟩
  · cases z
  · cases z
  · exact z.elim n n2
/-- a write elsewhere -/
theorem Rx.upd (R : Rx rel g lg c r kn b t kvs h S) (K : RelOk rel) {l : Nat} {y : List (Key × A)} (e : h.get l = some (.dic y)) (n1 : l ≠ kn) (n2 : l ≠ c) (n3 : l ≠ r) (o : Ob) : Rx rel g lg c r kn b t kvs (h.upd l o) S := by
  have hl := R.wf _ _ e
  have no := R.ins e n1
  have k : ∀ {j x}, h.get j = some x → j ≠ l → (h.upd l o).get j = some x := fun e n => by rw [upN _ _ _ n]; exact e
  obtain ⟨rl, e1, q⟩ := R.hr
  refine ⟨R.wf.upd o hl, k R.hg (fun z => no (.inl z.symm)), k R.hc (Ne.symm n2), ⟨rl, k e1 (Ne.symm n3), q.imp fun _ _ _ _ _ q => K.st _ _ _ _ q fun j x ej => k ej (neg ej e (fun z => nomatch z))⟩, k R.hk (Ne.symm n1), k R.hb (neg R.hb e (fun z => nomatch z)), k R.ht (neg R.ht e (fun z => nomatch z)), k R.hl (neg R.hl e (fun z => nomatch z)), R.nd.imp fun _ _ d _ _ ⟨a, e1, e2⟩ => ⟨a, e1, k e2 (neg e2 e (fun z => nomatch z))⟩, R.un, R.kc, R.kr, R.cr, R.tl, R.tb, R.lb, R.us, R.kd, R.cp⟩
theorem noteH_ext {nt : Nat} {notes : List (Key × A)} {k : Key} {v : A} : Ext (fun l => l = nt) h (noteH h nt notes k v) := by
  unfold noteH
  split
  · exact Ext.refl
  · exact Ext.upd _ rfl
theorem Rx.note (R : Rx rel g lg c r kn b t kvs h S) (K : RelOk rel) {nt : Nat} {notes : List (Key × A)} (e : h.get nt = some (.dic notes)) (n1 : nt ≠ kn) (n2 : nt ≠ c) (n3 : nt ≠ r) (k : Key) (v : A) : Rx rel g lg c r kn b t kvs (noteH h nt notes k v) S := by
  unfold noteH
  split
  · exact R
  · exact R.upd K e n1 n2 n3 _
/-! ### are the notes still right? -/
theorem conf_loop {cl : Cl Rl} {m : Nat} (K : CallOk rel lg cl (m + 2)) (n : Nat) {us : List A} {a : Nat} {bl : Bool} {S' : St Rl} : ∀ (k fuel i : Nat) (h : Hq) (S : St Rl) (kvs : List (Key × A)) (x : Option A), us.length - i = k → k < fuel → i ≤ us.length → Rx rel g lg c r kn b t kvs h S → conf cl (us.drop i) S = some (bl, S') →
    ∃ h' kvs' L', forL (fun i _ => some us[i]?) (gNm 2) (sSeq (sIf (tNot (tOfE (eMeth (Q (n + (m + 3))) tb_is_unchanged 20 (eLoc 0) (kOf (aCons (eLoc 2) aNil))))) (sSeq (sRet (eCon (.bl false))) sNil) sNil) sNil) fuel i [some (.ref g), some (.ref a), x] h = .ok (if bl = true then .nx else .rt (.bl false)) L' h' ∧ Rx rel g lg c r kn b t kvs' h' S' ∧ Fr g lg kn t kvs h kvs' h'
  | 0, fuel, i, h, S, kvs, x, ek, hf, hi, R, e => by
    obtain ⟨f, rfl⟩ : ∃ f, fuel = f + 1 := ⟨fuel - 1, by omega⟩
    have ei : i = us.length := by omega
    subst ei
    rw [List.drop_length] at e
    cases e
    exact ⟨h, kvs, _, by simp [forL, List.getElem?_eq_none (Nat.le_refl us.length)]; rfl, R, Fr.refl⟩
  | k + 1, fuel, i, h, S, kvs, x, ek, hf, hi, R, e => by
    obtain ⟨f, rfl⟩ : ∃ f, fuel = f + 1 := ⟨fuel - 1, by omega⟩
    have hlt : i < us.length := by omega
    rw [List.drop_eq_getElem_cons hlt] at e
    unfold conf at e
    cases eu : unch cl us[i] S with
    | none => rw [eu] at e; cases e
    | some p =>
      obtain ⟨b1, S1⟩ := p
      obtain ⟨h1, k1, q1, R1, F1⟩ := unch_ok K n R eu
      rw [eu] at e
      cases b1 with
      | false =>
        cases e
        refine ⟨h1, k1, [some (.ref g), some (.ref a), some us[i]], ?_, R1, F1⟩
        simp [forL, List.getElem?_eq_getElem hlt, callF, callC, bdKw, bdStar, bdOr, runF, outF, slots0, sSeq, sNil, sRet, sRetN, sExp, sAsg, sIf, sSetA, sSetI, sAugA, sAugI, sPar, setAll, RS.ofE, RS.ofA, eAttr, eLoc, eCon, Res.bind, getA, aNil, aCons, aStar, eTup, eLst, eMeth, methA, kOf, kLone, kKw, eCallF, eCallL, callV, isFn, eMake, makeA, Zk.e2, orE, orG, eCB, Zk.g1, Zk.g2, tOfE, tNot, tAnd, tOr, tB2, isB, truth, eIf, eNot, eAnd, eOr, seqOf, gNm, gTupA, gsCons, gsNil, Zk.putAt, putN, setAt, keyOf, eD0, eIsi, isiA, tagOf, oIs, List.lookup, eTupV, eBM, tyA, oIx, oIxM, oIxS, oIxD, oIxL, oIxT, L2.atI, L2.ixN, lstOf, oAddI, oSub, iOp, iOpC, oInO, oIn, oInK, oInS, oInF, oInD, lenO, lenD, lenA, List.all_cons, List.all_nil, List.map_cons, List.map_nil, List.length_cons, List.length_nil, tb_is_unchanged, R.hg, q1]
      | true =>
        obtain ⟨h2, k2, Lz, q2, R2, F2⟩ := conf_loop (a := a) K n k f (i + 1) h1 S1 k1 (some us[i]) (by omega) (by omega) (by omega) R1 e
        refine ⟨h2, k2, Lz, ?_, R2, F1.trans F2⟩
        rw [← q2]
        simp [forL, List.getElem?_eq_getElem hlt, callF, callC, bdKw, bdStar, bdOr, runF, outF, slots0, sSeq, sNil, sRet, sRetN, sExp, sAsg, sIf, sSetA, sSetI, sAugA, sAugI, sPar, setAll, RS.ofE, RS.ofA, eAttr, eLoc, eCon, Res.bind, getA, aNil, aCons, aStar, eTup, eLst, eMeth, methA, kOf, kLone, kKw, eCallF, eCallL, callV, isFn, eMake, makeA, Zk.e2, orE, orG, eCB, Zk.g1, Zk.g2, tOfE, tNot, tAnd, tOr, tB2, isB, truth, eIf, eNot, eAnd, eOr, seqOf, gNm, gTupA, gsCons, gsNil, Zk.putAt, putN, setAt, keyOf, eD0, eIsi, isiA, tagOf, oIs, List.lookup, eTupV, eBM, tyA, oIx, oIxM, oIxS, oIxD, oIxL, oIxT, L2.atI, L2.ixN, lstOf, oAddI, oSub, iOp, iOpC, oInO, oIn, oInK, oInS, oInF, oInD, lenO, lenD, lenA, List.all_cons, List.all_nil, List.map_cons, List.map_nil, List.length_cons, List.length_nil, tb_is_unchanged, R.hg, q1]
theorem conf_ok {cl : Cl Rl} {m : Nat} (K : CallOk rel lg cl (m + 2)) (n : Nat) (R : Rx rel g lg c r kn b t kvs h S) {a : Nat} {d : Nd} (ha : h.get a = some d.ob) (hu : d.uses.length ≤ 1000) {bl : Bool} {S' : St Rl} (e : conf cl d.uses S = some (bl, S')) :
    ∃ h' kvs', Q (n + (m + 4)) (.fn 17) [.ref g, .ref a] [] h = .ok (.bl bl) h' ∧ Rx rel g lg c r kn b t kvs' h' S' ∧ Fr g lg kn t kvs h kvs' h' := by
  obtain ⟨h', kvs', L', q, R', F⟩ := conf_loop (us := d.uses) (a := a) K n d.uses.length FL 0 h S kvs none rfl (by unfold FL; omega) (Nat.zero_le _) R e
  refine ⟨h', kvs', ?_, R', F⟩
  show D_17 (Q (n + (m + 3))) [.ref g, .ref a] [] h = _
  have ha2 : h.get a = some (.ins 1 [(1, .tup [.str d.rn, .tup d.ps]), (2, d.found), (3, .tup d.uses), (4, .int d.seen)]) := ha
  have q3 : sFor (iAny (eAttr (Q (n + (m + 3))) at_uses_read 3 (eLoc 1))) (gNm 2) (sSeq (sIf (tNot (tOfE (eMeth (Q (n + (m + 3))) tb_is_unchanged 20 (eLoc 0) (kOf (aCons (eLoc 2) aNil))))) (sSeq (sRet (eCon (.bl false))) sNil) sNil) sNil) FL [some (.ref g), some (.ref a), none] h = .ok (if bl = true then .nx else .rt (.bl false)) L' h' := by
    rw [← q]
    simp [sFor, iAny, iSeq, eAttr, eLoc, Res.bind, getA, ha2, at_uses_read, List.lookup]
  simp only [D_17, callF, bdKw, runF, slots0]
  cases bl with
  | true => simp [sSeq, q3, outF, sRet, eCon, RS.ofE, sNil]
  | false => simp [sSeq, q3, outF]
end
end K95
end
section
set_option Elab.async false
set_option linter.all false
set_option maxRecDepth 100000
set_option maxHeartbeats 0
namespace K95
open PySem PySem.Spec PyProof.Rows Zk
open L2 (Key)
section
variable {Rl : Type} {rel : Hq → A → Rl → Prop} {g lg c r kn b t : Nat} {kvs : List (Key × A)} {h : Hq} {S : St Rl}
/-- the rules' functions do what pr says -/
def ImplOk (rel : Hq → A → Rl → Prop) (lg : Nat) (pr : Rl → List A → Pr) (cl : Cl Rl) (m2 : Nat) : Prop := ∀ (n : Nat) (h : Hq) (S : St Rl) (g c r kn b t rd nt : Nat) (kvs : List (Key × A)) (fv : A) (ρ : Rl) (ps : List A) (v : A) (notes' : List (Key × A)) (S' : St Rl),
  Rx rel g lg c r kn b t kvs h S → rel h fv ρ → h.get rd = some (RO g nt) → h.get nt = some (.dic []) → ¬ Ow g lg kn t kvs rd → nt ≠ kn → nt ≠ c → nt ≠ r → ps.all flatS = true → ps.length < 100 → runP cl (pr ρ ps) [] S = some (v, notes', S') →
  ∃ h' kvs', Q (n + m2) fv (.ref rd :: ps) [] h = .ok v h' ∧ Rx rel g lg c r kn b t kvs' h' S' ∧ Ext (fun l => Ow g lg kn t kvs l ∨ l = nt) h h' ∧ (∀ l, Ow g lg kn t kvs' l → Ow g lg kn t kvs l ∨ h.n ≤ l) ∧ h'.get nt = some (.dic notes') ∧ h'.get rd = some (RO g nt)
theorem Fr.ofNew {h1 : Hq} {kvs' : List (Key × A)} {h' : Hq} (x : Ext (fun _ => False) h h1) (f : Fr g lg kn t kvs h1 kvs' h') : Fr g lg kn t kvs h kvs' h' :=
  ⟨(x.mono fun _ _ z => z.elim).trans f.x fun _ _ z => z, fun l o => (f.o l o).imp id fun z => Nat.le_trans x.le z⟩
theorem rinit_ok (n : Nat) {rd g : Nat} (e : h.get rd = some (.ins 2 [])) (hl : rd < h.n) : Q (n + 1) (.fn 4) [.ref rd, .ref g] [] h = .ok .non (((h.upd rd (.ins 2 [(5, .ref g)])).new (.dic [])).upd rd (RO g h.n)) := by
  show D_4 (Q n) [.ref rd, .ref g] [] h = _
  have e2 : (((h.upd rd (.ins 2 [(5, .ref g)])).new (.dic [])).get rd) = some (.ins 2 [(5, .ref g)]) := by rw [nwL _ _ (show rd < (h.upd rd (.ins 2 [(5, .ref g)])).n from hl), upS]
  simp [D_4, callF, callC, bdKw, bdStar, bdOr, runF, outF, slots0, sSeq, sNil, sRet, sRetN, sExp, sAsg, sIf, sSetA, sSetI, sAugA, sAugI, sPar, setAll, RS.ofE, RS.ofA, eAttr, eLoc, eCon, Res.bind, getA, aNil, aCons, aStar, eTup, eLst, eMeth, methA, kOf, kLone, kKw, eCallF, eCallL, callV, isFn, eMake, makeA, Zk.e2, orE, orG, eCB, Zk.g1, Zk.g2, tOfE, tNot, tAnd, tOr, tB2, isB, truth, eIf, eNot, eAnd, eOr, seqOf, gNm, gTupA, gsCons, gsNil, Zk.putAt, putN, setAt, keyOf, eD0, eIsi, isiA, tagOf, oIs, List.lookup, eTupV, eBM, tyA, oIx, oIxM, oIxS, oIxD, oIxL, oIxT, L2.atI, L2.ixN, lstOf, oAddI, oSub, iOp, iOpC, oInO, oIn, oInK, oInS, oInF, oInD, lenO, lenD, lenA, List.all_cons, List.all_nil, List.map_cons, List.map_nil, List.length_cons, List.length_nil, okc_group, okc_notes, e, e2, Hq.n_upd]
theorem ninit_ok (n : Nat) {a : Nat} (e : h.get a = some (.ins 1 [])) (x y z : A) (i : Int) : Q (n + 1) (.fn 3) [.ref a, x, y, z, .int i] [] h = .ok .non ((((h.upd a (.ins 1 [(1, x)])).upd a (.ins 1 [(1, x), (2, y)])).upd a (.ins 1 [(1, x), (2, y), (3, z)])).upd a (.ins 1 [(1, x), (2, y), (3, z), (4, .int i)])) := by
  show D_3 (Q n) [.ref a, x, y, z, .int i] [] h = _
  simp [D_3, callF, callC, bdKw, bdStar, bdOr, runF, outF, slots0, sSeq, sNil, sRet, sRetN, sExp, sAsg, sIf, sSetA, sSetI, sAugA, sAugI, sPar, setAll, RS.ofE, RS.ofA, eAttr, eLoc, eCon, Res.bind, getA, aNil, aCons, aStar, eTup, eLst, eMeth, methA, kOf, kLone, kKw, eCallF, eCallL, callV, isFn, eMake, makeA, Zk.e2, orE, orG, eCB, Zk.g1, Zk.g2, tOfE, tNot, tAnd, tOr, tB2, isB, truth, eIf, eNot, eAnd, eOr, seqOf, gNm, gTupA, gsCons, gsNil, Zk.putAt, putN, setAt, keyOf, eD0, eIsi, isiA, tagOf, oIs, List.lookup, eTupV, eBM, tyA, oIx, oIxM, oIxS, oIxD, oIxL, oIxT, L2.atI, L2.ixN, lstOf, oAddI, oSub, iOp, iOpC, oInO, oIn, oInK, oInS, oInF, oInD, lenO, lenD, lenA, List.all_cons, List.all_nil, List.map_cons, List.map_nil, List.length_cons, List.length_nil, okc_node, okc_found, okc_uses_read, okc_revision_seen, e, upS]
theorem comp_ok (K : RelOk rel) {pr : Rl → List A → Pr} {cl : Cl Rl} {m2 : Nat} (I : ImplOk rel lg pr cl (m2 + 1)) (n : Nat) (R : Rx rel g lg c r kn b t kvs h S) {rn : Str} {ps : List A} (hp : ps.all flatS = true) (hz : ps.length < 100) (hsh : SeqAt.shaped (.str rn) = true) {d : Nd} {S' : St Rl} (e : comp pr cl rn ps S = some (d, S')) :
    ∃ h' kvs' a, Q (n + (m2 + 2)) (.fn 18) [.ref g, .str rn, .tup ps] [] h = .ok (.ref a) h' ∧ Rx rel g lg c r kn b t kvs' h' S' ∧ Fr g lg kn t kvs h kvs' h' ∧ h'.get a = some d.ob ∧ h.n ≤ a ∧ ¬ Ow g lg kn t kvs' a ∧ OkN d := by
  unfold comp at e
  cases ef : findK S.rules (.inr rn) with
  | none => rw [ef] at e; cases e
  | some ρ =>
    rw [ef] at e
    simp only at e
    cases er : runP cl (pr ρ ps) [] S with
    | none => rw [er] at e; cases e
    | some w =>
      obtain ⟨v, notes, S1⟩ := w
      rw [er] at e
      simp only at e
      split at e
      · rename_i hv
        cases e
        obtain ⟨rl, hr, prl⟩ := R.hr
        obtain ⟨fv, eF, rf⟩ : ∃ fv, findK rl (.inr rn) = some fv ∧ rel h fv ρ := by
          rcases prl.find (k := .inr rn) with ⟨_, z⟩ | ⟨x, y, z1, z2, z3, _⟩
          · rw [ef] at z; cases z
          · rw [ef] at z2; cases z2; exact ⟨x, z1, z3⟩
        -- the reader
        have h1 : ∃ h1 : Hq, h1 = (((((h.new (.ins 2 [])).upd h.n (.ins 2 [(5, .ref g)])).new (.dic [])).upd h.n (RO g (h.n + 1)))) := ⟨_, rfl⟩
        obtain ⟨h1, eh1⟩ := h1
        have x1 : Ext (fun _ => False) h h1 := by
          refine ⟨?_, fun l hl _ => ?_⟩
          · rw [eh1]; show h.n ≤ h.n + 1 + 1; omega
          · rw [eh1, upN _ _ _ (Nat.ne_of_lt hl), nwL _ _ (show l < h.n + 1 by omega), upN _ _ _ (Nat.ne_of_lt hl), nwL _ _ hl]
        have g1 : h1.get h.n = some (RO g (h.n + 1)) := by rw [eh1, upS]
        have g2 : h1.get (h.n + 1) = some (.dic []) := by
          rw [eh1, upN _ _ _ (Nat.succ_ne_self _)]
          exact nwS ((h.new (.ins 2 [])).upd h.n (.ins 2 [(5, .ref g)])) _
        have w1 : Wf h1 := by
          rw [eh1]
          exact ((((R.wf.new _).upd _ (Nat.lt_succ_self _)).new _).upd _ (show h.n < h.n + 1 + 1 by omega))
        have R1 := R.grow K w1 x1
        have lt := R.lt
        have q0 : Q (n + (m2 + 1)) (.fn 4) [.ref h.n, .ref g] [] (h.new (.ins 2 [])) = .ok .non h1 := by
          rw [eh1]
          exact rinit_ok (n + m2) (h := h.new (.ins 2 [])) (rd := h.n) (g := g) (nwS _ _) (Nat.lt_succ_self _)
        have ow1 : ∀ l, h.n ≤ l → ¬ Ow g lg kn t kvs l := fun l hl o => by
          obtain ⟨x, ex, _⟩ := R.ow o
          have := R.wf _ _ ex
          omega
        obtain ⟨h2, kvs2, q1, R2, x2, o2, g3, g4⟩ := I n h1 S g c r kn b t h.n (h.n + 1) kvs fv ρ ps v notes S' R1 (K.st _ _ _ _ rf fun _ _ e => x1.get R.wf e id) g1 g2 (ow1 _ (Nat.le_refl _)) (by omega) (by have := lt.2.1; omega) (by have := lt.2.2.1; omega) hp hz er
        -- the node
        have h3 : ∃ h3 : Hq, h3 = (((((h2.new (.ins 1 [])).upd h2.n (.ins 1 [(1, .tup [.str rn, .tup ps])])).upd h2.n (.ins 1 [(1, .tup [.str rn, .tup ps]), (2, v)])).upd h2.n (.ins 1 [(1, .tup [.str rn, .tup ps]), (2, v), (3, .tup (notes.map (·.2)))])).upd h2.n (.ins 1 [(1, .tup [.str rn, .tup ps]), (2, v), (3, .tup (notes.map (·.2))), (4, .int S'.rev)])) := ⟨_, rfl⟩
        obtain ⟨h3, eh3⟩ := h3
        have x3 : Ext (fun _ => False) h2 h3 := by
          refine ⟨?_, fun l hl _ => ?_⟩
          · rw [eh3]; show h2.n ≤ h2.n + 1; omega
          · rw [eh3, upN _ _ _ (Nat.ne_of_lt hl), upN _ _ _ (Nat.ne_of_lt hl), upN _ _ _ (Nat.ne_of_lt hl), upN _ _ _ (Nat.ne_of_lt hl), nwL _ _ hl]
        have w3 : Wf h3 := by
          rw [eh3]
          have z : h2.n < h2.n + 1 := Nat.lt_succ_self _
          exact ((((R2.wf.new _).upd _ z).upd _ z).upd _ z).upd _ z
        have R3 := R2.grow K w3 x3
        have hf := K.fn _ _ _ rf
        have F : Fr g lg kn t kvs h kvs2 h3 := by
          refine ⟨⟨Nat.le_trans x1.le (Nat.le_trans x2.le x3.le), fun l hl no => ?_⟩, fun l o => (o2 l o).imp id fun z => Nat.le_trans x1.le z⟩
          have l1 : l < h1.n := Nat.lt_of_lt_of_le hl x1.le
          rw [x3.same l (Nat.lt_of_lt_of_le l1 x2.le) id, x2.same l l1 (fun z => z.elim no fun z => by omega), x1.same l hl id]
        refine ⟨h3, kvs2, h2.n, ?_, R3, F, by rw [eh3, upS]; rfl, Nat.le_trans x1.le x2.le, fun o => ?_, ⟨by simpa using hv.2, hv.1, hsh⟩⟩
        · show D_18 (Q (n + (m2 + 1))) [.ref g, .str rn, .tup ps] [] h = _
          have hr1 : h1.get r = some (.dic rl) := x1.get R.wf hr id
          have q2 : Q (n + (m2 + 1)) (.fn 0) [v] [] h2 = .ok (.bl true) h2 := simple_ok (n + m2) h2 hv.1
          have q3 : Q (n + (m2 + 1)) (.fn 3) [.ref h2.n, .tup [.str rn, .tup ps], v, .tup (notes.map (·.2)), .int S'.rev] [] (h2.new (.ins 1 [])) = .ok .non h3 := by
            rw [eh3]
            exact ninit_ok (n + m2) (nwS _ _) _ _ _ _
          simp [D_18, sSeq, callF, bdKw, runF, slots0, sPar, aCons, q0, Res.bind, Zk.e2, eAttr, eLoc, getA, R1.hg, at_rules, List.lookup, oIx, orE, oIxS, oIxT, oIxD, seqOf, hr1, dget, keyOf, valA_findK, eF, aNil, RS.ofA, setAll, sAsg, eCallL, callV, hf, kOf, aStar, q1, RS.ofE, gNm, sIf, tNot, tOfE, eCallF, q2, truth, sNil, sRet, eMake, makeA, eTup, SZ, eTupV, g4, g3, at_notes, R2.hg, at_own_revision, q3, outF]
        · obtain ⟨x, ex, _⟩ := R2.ow o
          exact absurd (R2.wf _ _ ex) (Nat.lt_irrefl _)
      · cases e
end
end K95
end
section
set_option Elab.async false
set_option linter.all false
set_option maxRecDepth 100000
set_option maxHeartbeats 0
namespace K95
open PySem PySem.Spec PyProof.Rows Zk
open L2 (Key)
section
variable {Rl : Type} {rel : Hq → A → Rl → Prop} {g lg c r kn b t : Nat} {kvs : List (Key × A)} {h : Hq} {S : St Rl}
theorem Rx.kept (R : Rx rel g lg c r kn b t kvs h S) {l : Nat} {o : Ob} {x : Nat} {y : Ob} (ex : h.get x = some y) (n : x ≠ l) : (h.upd l o).get x = some y := by rw [upN _ _ _ n]; exact ex
theorem Rx.addr (R : Rx rel g lg c r kn b t kvs h S) {k : Key} {a : Nat} (m : (k, A.ref a) ∈ kvs) : Ow g lg kn t kvs a := .inr (.inr (.inr (.inr (List.mem_map.mpr ⟨_, m, rfl⟩))))
/-- the rules' functions, the nodes behind a write -/
theorem Rx.hr' (R : Rx rel g lg c r kn b t kvs h S) (K : RelOk rel) {l : Nat} {o y : Ob} (e : h.get l = some y) (nc : ∀ v, y ≠ .cel v) (n : r ≠ l) : ∃ rl, (h.upd l o).get r = some (.dic rl) ∧ Pd (rel (h.upd l o)) rl S.rules := by
  obtain ⟨rl, e1, q⟩ := R.hr
  exact ⟨rl, R.kept e1 n, q.imp fun _ _ _ _ _ q => K.st _ _ _ _ q fun j x ej => R.kept ej fun z => by rw [z, e] at ej; cases ej; exact nc _ rfl⟩
theorem Rx.nd' (R : Rx rel g lg c r kn b t kvs h S) {l : Nat} {o : Ob} (n : ∀ a, A.ref a ∈ kvs.map (·.2) → a ≠ l) : Pd (Nx (h.upd l o)) kvs S.known :=
  R.nd.imp fun k v d m _ ⟨a, e1, e2⟩ => ⟨a, e1, R.kept e2 (n a (List.mem_map.mpr ⟨_, m, e1⟩))⟩
theorem Rx.nne (R : Rx rel g lg c r kn b t kvs h S) {l : Nat} {y : Ob} (e : h.get l = some y) (ny : ∀ d : Nd, d.ob ≠ y) : ∀ a, A.ref a ∈ kvs.map (·.2) → a ≠ l := fun a m => by
  obtain ⟨d, ed⟩ := R.node m
  exact neg ed e (ny d)
theorem Rx.setT (R : Rx rel g lg c r kn b t kvs h S) (K : RelOk rel) (ts : List Int) : Rx rel g lg c r kn b t kvs (h.upd t (.lst (ts.map A.int))) { S with tally := ts } := by
  have e := R.ht
  obtain ⟨rl, er, _⟩ := R.hr
  exact ⟨R.wf.upd _ R.lt.2.2.2.2.2.1, R.kept R.hg (neg R.hg e (fun z => nomatch z)), R.kept R.hc (neg R.hc e (fun z => nomatch z)), R.hr' K e (fun v z => nomatch z) (neg er e (fun z => nomatch z)), R.kept R.hk (neg R.hk e (fun z => nomatch z)), R.kept R.hb R.tb.symm, upS _ _ _, R.kept R.hl R.tl.symm, R.nd' (R.nne e fun d z => nomatch z), R.un, R.kc, R.kr, R.cr, R.tl, R.tb, R.lb, R.us, R.kd, R.cp⟩
theorem Rx.setL (R : Rx rel g lg c r kn b t kvs h S) (K : RelOk rel) (xs : List A) : Rx rel g lg c r kn b t kvs (h.upd lg (.lst xs)) { S with log := xs } := by
  have e := R.hl
  obtain ⟨rl, er, _⟩ := R.hr
  exact ⟨R.wf.upd _ R.lt.2.2.2.2.2.2, R.kept R.hg (neg R.hg e (fun z => nomatch z)), R.kept R.hc (neg R.hc e (fun z => nomatch z)), R.hr' K e (fun v z => nomatch z) (neg er e (fun z => nomatch z)), R.kept R.hk (neg R.hk e (fun z => nomatch z)), R.kept R.hb R.lb.symm, R.kept R.ht R.tl, upS _ _ _, R.nd' (R.nne e fun d z => nomatch z), R.un, R.kc, R.kr, R.cr, R.tl, R.tb, R.lb, R.us, R.kd, R.cp⟩
theorem Rx.setB (R : Rx rel g lg c r kn b t kvs h S) (K : RelOk rel) {b2 : Nat} {bs : List Str} (e2 : h.get b2 = some (.lst (bs.map A.str))) (n1 : t ≠ b2) (n2 : lg ≠ b2) : Rx rel g lg c r kn b2 t kvs (h.upd g (GO c r kn b2 t S.rev)) { S with busy := bs } := by
  have e := R.hg
  obtain ⟨rl, er, _⟩ := R.hr
  exact ⟨R.wf.upd _ R.lt.1, upS _ _ _, R.kept R.hc (neg R.hc e (fun z => nomatch z)), R.hr' K e (fun v z => nomatch z) (neg er e (fun z => nomatch z)), R.kept R.hk (neg R.hk e (fun z => nomatch z)), R.kept e2 (neg e2 e (fun z => nomatch z)), R.kept R.ht (neg R.ht e (fun z => nomatch z)), R.kept R.hl (neg R.hl e (fun z => nomatch z)), R.nd' (R.nne e fun d z => by cases z), R.un, R.kc, R.kr, R.cr, R.tl, n1, n2, R.us, R.kd, R.cp⟩
theorem Rx.setN (R : Rx rel g lg c r kn b t kvs h S) (K : RelOk rel) {a : Nat} {d d2 : Nd} (e : h.get a = some d.ob) (no : ¬ Ow g lg kn t kvs a) : Rx rel g lg c r kn b t kvs (h.upd a d2.ob) S := by
  obtain ⟨rl, er, _⟩ := R.hr
  exact ⟨R.wf.upd _ (R.wf _ _ e), R.kept R.hg (neg R.hg e (fun z => by cases z)), R.kept R.hc (neg R.hc e (fun z => nomatch z)), R.hr' K e (fun v z => nomatch z) (neg er e (fun z => nomatch z)), R.kept R.hk (neg R.hk e (fun z => nomatch z)), R.kept R.hb (neg R.hb e (fun z => nomatch z)), R.kept R.ht (neg R.ht e (fun z => nomatch z)), R.kept R.hl (neg R.hl e (fun z => nomatch z)), R.nd' (fun j m z => no (z ▸ .inr (.inr (.inr (.inr m))))), R.un, R.kc, R.kr, R.cr, R.tl, R.tb, R.lb, R.us, R.kd, R.cp⟩
theorem Rx.setK (R : Rx rel g lg c r kn b t kvs h S) (K : RelOk rel) {kvs2 : List (Key × A)} {known2 : List (Key × Nd)} (p : Pd (Nx h) kvs2 known2) (un : (kvs2.map (·.2)).Nodup) (us : ∀ p ∈ known2, OkN p.2) (kd : (known2.map (·.1)).Nodup) : Rx rel g lg c r kn b t kvs2 (h.upd kn (.dic kvs2)) { S with known := known2 } := by
  have e := R.hk
  obtain ⟨rl, er, _⟩ := R.hr
  refine ⟨R.wf.upd _ R.lt.2.2.2.1, R.kept R.hg (neg R.hg e (fun z => nomatch z)), R.kept R.hc R.kc.symm, R.hr' K e (fun v z => nomatch z) R.kr.symm, upS _ _ _, R.kept R.hb (neg R.hb e (fun z => nomatch z)), R.kept R.ht (neg R.ht e (fun z => nomatch z)), R.kept R.hl (neg R.hl e (fun z => nomatch z)), p.imp fun _ _ d _ _ ⟨a, e1, e2⟩ => ⟨a, e1, R.kept e2 (neg e2 e (fun z => nomatch z))⟩, un, R.kc, R.kr, R.cr, R.tl, R.tb, R.lb, us, kd, R.cp⟩
theorem drop_sub {β : Type} {l : List (Key × β)} {k : Key} {x : Key × β} (m : x ∈ dropK l k) : x ∈ l ∧ x.1 ≠ k := by
  unfold dropK at m
  obtain ⟨a, b⟩ := List.mem_filter.mp m
  exact ⟨a, of_decide_eq_true b⟩
theorem find_no {β : Type} {l : List (Key × β)} {k : Key} (e : findK l k = none) : ∀ p ∈ l, p.1 ≠ k := fun p hp z => by
  unfold findK at e
  cases q : l.find? fun kv => decide (kv.1 = k) with
  | some p => rw [q] at e; cases e
  | none => exact absurd (List.find?_eq_none.mp q p hp) (by simp [z])
theorem Rx.addK (R : Rx rel g lg c r kn b t kvs h S) (K : RelOk rel) {k : Key} {a : Nat} {d : Nd} (e : h.get a = some d.ob) (no : ¬ Ow g lg kn t kvs a) (hu : OkN d) (hk : findK S.known k = none) :
    Rx rel g lg c r kn b t (kvs ++ [(k, .ref a)]) (h.upd kn (.dic (kvs ++ [(k, .ref a)]))) { S with known := S.known ++ [(k, d)] } := by
  refine R.setK K (R.nd.append (.cons ⟨a, rfl, e⟩ .nil)) ?_ (fun p hp => ?_) ?_
  · rw [List.map_append]
    refine List.nodup_append.mpr ⟨R.un, by simp, fun x hx y hy z => ?_⟩
    simp at hy
    subst hy z
    exact no (.inr (.inr (.inr (.inr hx))))
  · rcases List.mem_append.mp hp with hp | hp
    · exact R.us p hp
    · simp at hp; subst hp; exact hu
  · rw [List.map_append]
    refine List.nodup_append.mpr ⟨R.kd, by simp, fun x hx y hy z => ?_⟩
    simp at hy
    subst hy z
    obtain ⟨p, hp, ep⟩ := List.mem_map.mp hx
    exact find_no hk p hp ep
theorem Ow.app {a l : Nat} {k : Key} (o : Ow g lg kn t (kvs ++ [(k, .ref a)]) l) : Ow g lg kn t kvs l ∨ l = a := by
  rcases o with e | e | e | e | e
  · exact .inl (.inl e)
  · exact .inl (.inr (.inl e))
  · exact .inl (.inr (.inr (.inl e)))
  · exact .inl (.inr (.inr (.inr (.inl e))))
  · rw [List.map_append] at e
    rcases List.mem_append.mp e with e | e
    · exact .inl (.inr (.inr (.inr (.inr e))))
    · simp at e; exact .inr e
theorem Ow.drop {l : Nat} {k : Key} (o : Ow g lg kn t (dropK kvs k) l) : Ow g lg kn t kvs l := by
  rcases o with e | e | e | e | e
  · exact .inl e
  · exact .inr (.inl e)
  · exact .inr (.inr (.inl e))
  · exact .inr (.inr (.inr (.inl e)))
  · obtain ⟨p, hp, ep⟩ := List.mem_map.mp e
    exact .inr (.inr (.inr (.inr (List.mem_map.mpr ⟨p, (drop_sub hp).1, ep⟩))))
theorem Rx.dropK (R : Rx rel g lg c r kn b t kvs h S) (K : RelOk rel) (k : Key) : Rx rel g lg c r kn b t (K95.dropK kvs k) (h.upd kn (.dic (K95.dropK kvs k))) { S with known := K95.dropK S.known k } :=
  R.setK K R.nd.drop ((List.Sublist.map _ List.filter_sublist).nodup R.un) (fun p hp => R.us p (drop_sub hp).1) ((List.Sublist.map _ List.filter_sublist).nodup R.kd)
theorem drop_un {k : Key} {a : Nat} (un : (kvs.map (·.2)).Nodup) (e : findK kvs k = some (.ref a)) : A.ref a ∉ (dropK kvs k).map (·.2) := fun m => by
  obtain ⟨p, hp, ep⟩ := List.mem_map.mp m
  obtain ⟨h1, h2⟩ := drop_sub hp
  have h3 := find_some e
  have key : ∀ {l : List (Key × A)} {p q : Key × A}, (l.map (·.2)).Nodup → p ∈ l → q ∈ l → p.2 = q.2 → p = q := by
    intro l p q
    induction l with
    | nil => intro _ m; cases m
    | cons x l ih =>
      intro nd mp mq e
      rw [List.map_cons] at nd
      have nd := List.nodup_cons.mp nd
      rcases List.mem_cons.mp mp with rfl | mp2 <;> rcases List.mem_cons.mp mq with rfl | mq2
      · rfl
      · exact (nd.1 (List.mem_map.mpr ⟨q, mq2, e.symm⟩)).elim
      · exact (nd.1 (List.mem_map.mpr ⟨p, mp2, e⟩)).elim
      · exact ih nd.2 mp2 mq2 e
  have := key un h1 h3 ep
  subst this
  exact h2 rfl
end
end K95
end
section
set_option Elab.async false
set_option linter.all false
set_option maxRecDepth 100000
set_option maxHeartbeats 0
namespace K95
open PySem PySem.Spec PyProof.Rows Zk
open L2 (Key)
section
variable {Rl : Type} {rel : Hq → A → Rl → Prop} {g lg c r kn b t : Nat} {kvs : List (Key × A)} {h : Hq} {S : St Rl}
theorem find_none {β : Type} {l : List (Key × β)} {k : Key} (e : findK l k = none) : (l.any fun kv => decide (kv.1 = k)) = false := by
  unfold findK at e
  cases q : l.find? fun kv => decide (kv.1 = k) with
  | some p => rw [q] at e; cases e
  | none =>
    have := List.find?_eq_none.mp q
    exact Bool.eq_false_iff.mpr fun z => by
      obtain ⟨x, hx, ex⟩ := List.any_eq_true.mp z
      exact this x hx ex
theorem putK_none {β : Type} {l : List (Key × β)} {k : Key} {v : β} (e : findK l k = none) : putK l k v = l ++ [(k, v)] := by
  unfold putK
  rw [find_none e]
  rfl
theorem Fr.toNew {h0 : Hq} {kvs0 : List (Key × A)} (F : Fr g lg kn t kvs0 h0 kvs h) {a : Nat} {k : Key} {h2 : Hq} (x : Ext (Ow g lg kn t kvs) h h2) (ha : Ow g lg kn t kvs0 a ∨ h0.n ≤ a) : Fr g lg kn t kvs0 h0 (kvs ++ [(k, .ref a)]) h2 :=
  ⟨F.x.trans x fun l hl o => (F.o l o).elim id fun z => absurd hl (by omega), fun l o => (Ow.app o).elim (F.o l) fun z => z ▸ ha⟩
theorem four {β : Type} {l : List β} (e : l.length = 4) : ∃ a b c d, l = [a, b, c, d] := by
  match l, e with
  | [a, b, c, d], _ => exact ⟨a, b, c, d, rfl⟩
def tailS (Φ : Dn) : MS := (sSeq (sSetI (eAttr Φ at_known 12 (eLoc 0)) (eLoc 1) (eLoc 4)) (sSeq (sAugI oAddI (eAttr Φ at_tally 15 (eLoc 0)) (eLoc 5) (eCon (.int 1))) (sSeq (sRet (eAttr Φ at_found 2 (eLoc 4))) sNil)))
theorem tail_ok (Φ : Dn) (K : RelOk rel) (R : Rx rel g lg c r kn b t kvs h S) {h0 : Hq} {kvs0 : List (Key × A)} (F : Fr g lg kn t kvs0 h0 kvs h) {tx rn : Str} {ps : List A} {a i : Nat} {d : Nd} (e : h.get a = some d.ob) (no : ¬ Ow g lg kn t kvs a) (ha : Ow g lg kn t kvs0 a ∨ h0.n ≤ a) (hu : OkN d) (hi : i < 4) {v : A} {S' : St Rl}
    (ek : keep S tx d i = some (v, S')) : ∃ h' kvs' L', tailS Φ [some (.ref g), some (.str tx), some (.str rn), some (.tup ps), some (.ref a), some (.int (i : Nat))] h = .ok (.rt v) L' h' ∧ Rx rel g lg c r kn b t kvs' h' S' ∧ Fr g lg kn t kvs0 h0 kvs' h' ∧ flatS v = true := by
  unfold keep at ek
  split at ek
  · rename_i hg
    cases ek
    obtain ⟨g1, g2, g3⟩ := hg
    have ab : findK kvs (.inr tx) = none := by
      rcases R.nd.find (k := .inr tx) with ⟨z, _⟩ | ⟨x, y, _, z, _⟩
      · exact z
      · rw [z] at g2; cases g2
    obtain ⟨t0, t1, t2, t3, et⟩ := four g3
    have R2 := (R.addK K (k := .inr tx) e no hu (by simpa using g2)).setT K (bump { S with known := S.known ++ [(.inr tx, d)] } i).tally
    refine ⟨_, _, [some (.ref g), some (.str tx), some (.str rn), some (.tup ps), some (.ref a), some (.int (i : Nat))], ?_, R2, F.toNew (((Ext.upd (W := Ow g lg kn t kvs) _ (.inr (.inl rfl))).trans (Ext.upd (W := Ow g lg kn t kvs) _ (.inr (.inr (.inl rfl)))) fun _ _ z => z)) ha, hu.2.1⟩
    have hl : kvs.length < SZ := by rw [R.nd.len]; unfold SZ; omega
    have e1 : h.get a = some (.ins 1 [(1, .tup [.str d.rn, .tup d.ps]), (2, d.found), (3, .tup d.uses), (4, .int d.seen)]) := e
    have n1 : g ≠ kn := neg R.hg R.hk (fun z => nomatch z)
    have n2 : t ≠ kn := neg R.ht R.hk (fun z => nomatch z)
    have n3 : a ≠ kn := fun z => no (.inr (.inl z))
    have n4 : a ≠ t := fun z => no (.inr (.inr (.inl z)))
    have ht := R.ht
    rw [et] at ht
    have hi' : i = 0 ∨ i = 1 ∨ i = 2 ∨ i = 3 := by omega
    rcases hi' with rfl | rfl | rfl | rfl <;>
    simp [tailS, callF, callC, bdKw, bdStar, bdOr, runF, outF, slots0, sSeq, sNil, sRet, sRetN, sExp, sAsg, sIf, sSetA, sSetI, sAugA, sAugI, sPar, setAll, RS.ofE, RS.ofA, eAttr, eLoc, eCon, Res.bind, getA, aNil, aCons, aStar, eTup, eLst, eMeth, methA, kOf, kLone, kKw, eCallF, eCallL, callV, isFn, eMake, makeA, Zk.e2, orE, orG, eCB, Zk.g1, Zk.g2, tOfE, tNot, tAnd, tOr, tB2, isB, truth, eIf, eNot, eAnd, eOr, seqOf, gNm, gTupA, gsCons, gsNil, Zk.putAt, putN, setAt, keyOf, eD0, eIsi, isiA, tagOf, oIs, List.lookup, eTupV, eBM, tyA, oIx, oIxM, oIxS, oIxD, oIxL, oIxT, L2.atI, L2.ixN, lstOf, oAddI, oSub, iOp, iOpC, oInO, oIn, oInK, oInS, oInF, oInD, lenO, lenD, lenA, List.all_cons, List.all_nil, List.map_cons, List.map_nil, List.length_cons, List.length_nil, at_known, at_tally, at_found, R.hg, R.hk, ht, e1, hl, putA_putK, putK_none ab, upN _ _ _ n1, upN _ _ _ n2, upN _ _ _ n3, upN _ _ _ n4, et, bump]
  · cases ek
end
end K95
end
section
set_option Elab.async false
set_option linter.all false
set_option maxRecDepth 100000
set_option maxHeartbeats 0
namespace K95
open PySem PySem.Spec PyProof.Rows Zk
open L2 (Key)
section
variable {Rl : Type} {rel : Hq → A → Rl → Prop} {g lg c r kn b t : Nat} {kvs : List (Key × A)} {h : Hq} {S : St Rl}
theorem sh1 : SeqAt.shaped (.int 1) = true := by decide +kernel
theorem sh2 : SeqAt.shaped (.int 2) = true := by decide +kernel
theorem sh3 : SeqAt.shaped (.int 3) = true := by decide +kernel
theorem refr_ok (K : RelOk rel) {pr : Rl → List A → Pr} {cl : Cl Rl} {m : Nat} (C : CallOk rel lg cl (m + 2)) (I : ImplOk rel lg pr cl (m + 4)) (n : Nat) (R : Rx rel g lg c r kn b t kvs h S) {tx rn : Str} {ps : List A} (hp : ps.all flatS = true) (hz : ps.length < 100) (hsh : SeqAt.shaped (.str rn) = true) {v : A} {S' : St Rl} (e : refr pr cl rn ps tx S = some (v, S')) :
    ∃ h' kvs', Q (n + (m + 6)) (.fn 19) [.ref g, .str tx, .str rn, .tup ps] [] h = .ok v h' ∧ Rx rel g lg c r kn b t kvs' h' S' ∧ Fr g lg kn t kvs h kvs' h' ∧ flatS v = true := by
  have hD : Q (n + (m + 6)) (.fn 19) [.ref g, .str tx, .str rn, .tup ps] [] h = D_19 (Q (n + (m + 5))) [.ref g, .str tx, .str rn, .tup ps] [] h := rfl
  unfold refr at e
  rcases R.nd.find (k := .inr tx) with ⟨ek, ed⟩ | ⟨x, d, ek, ed, ⟨a, rfl, ha⟩, mk, md⟩
  · rw [ed] at e
    simp only at e
    cases ec : comp pr cl rn ps S with
    | none => rw [ec] at e; cases e
    | some w =>
      obtain ⟨d2, S3⟩ := w
      rw [ec] at e
      simp only at e
      obtain ⟨h3, k3, a, q1, R3, F3, ga, la, no, hu⟩ := comp_ok K (m2 := m + 3) I n R hp hz hsh ec
      obtain ⟨h', k', L', q2, R', F', hv⟩ := tail_ok (Q (n + (m + 5))) K R3 F3 ga no (.inr la) hu (i := 3) (by omega) e
      refine ⟨h', k', ?_, R', F', hv⟩
      rw [hD]
      have q1 : Q (n + (m + 5)) (.fn 18) [.ref g, .str rn, .tup ps] [] h = .ok (.ref a) h3 := q1
      have q2 : tailS (Q (n + (m + 5))) [some (.ref g), some (.str tx), some (.str rn), some (.tup ps), some (.ref a), some (.int 3)] h3 = .ok (.rt v) L' h' := q2
      unfold tailS at q2
      simp only [sSeq, sNil] at q2
      simp only [D_19, callF, bdKw, runF, slots0]
      simp [sSeq, sPar, aCons, aNil, eBM, eAttr, eLoc, Res.bind, getA, R.hg, at_known, List.lookup, tyA, R.hk, eCon, gPopD, keyOf, valA_findK, ek, RS.ofA, setAll, sIf, tB2, isB, Zk.e2, oIs, sNil, oEq, oEqB, A.dat, FU, PyData.eqv, sh3, sh1, sh2, sAsg, RS.ofE, eMeth, methA, tb_compute, tb_is_confirmed, kOf, q1, gNm, eIf, tOfE, truth, dropA_dropK]
      rw [q2]
      rfl
  · rw [ed] at e
    simp only at e
    have n1 : g ≠ kn := neg R.hg R.hk (fun z => nomatch z)
    have n2 : a ≠ kn := neg ha R.hk (fun z => nomatch z)
    have R1 := R.dropK K (.inr tx)
    have F1 : Fr g lg kn t kvs h (dropK kvs (.inr tx)) (h.upd kn (.dic (dropK kvs (.inr tx)))) := ⟨Ext.upd _ (.inr (.inl rfl)), fun l o => .inl (Ow.drop o)⟩
    have ha1 : (h.upd kn (.dic (dropK kvs (.inr tx)))).get a = some d.ob := by rw [upN _ _ _ n2]; exact ha
    have oa : Ow g lg kn t kvs a := R.addr mk
    have no1 : ¬ Ow g lg kn t (dropK kvs (.inr tx)) a := fun o => by
      rcases o with z | z | z | z | z
      · exact neg ha R.hg (fun z => by cases z) z
      · exact n2 z
      · exact neg ha R.ht (fun z => nomatch z) z
      · exact neg ha R.hl (fun z => nomatch z) z
      · exact drop_un R.un ek z
    have hu := R.us _ md
    cases ec : conf cl d.uses { S with known := dropK S.known (.inr tx) } with
    | none => rw [ec] at e; cases e
    | some w =>
      obtain ⟨bl, S2⟩ := w
      rw [ec] at e
      obtain ⟨h2, k2, q0, R2, F2⟩ := conf_ok C (n + 1) R1 ha1 hu.1 ec
      have q0 : Q (n + (m + 5)) (.fn 17) [.ref g, .ref a] [] (h.upd kn (.dic (dropK kvs (.inr tx)))) = .ok (.bl bl) h2 := by
        rw [show n + (m + 5) = n + 1 + (m + 4) by omega]
        exact q0
      have la : a < (h.upd kn (.dic (dropK kvs (.inr tx)))).n := R.wf _ _ ha
      have ha2 := F2.get R1.wf ha1 no1
      have no2 := F2.out la no1
      have F12 := F1.trans F2
      cases bl with
      | true =>
        simp only at e
        have R3 := R2.setN K (d2 := { d with seen := S2.rev }) ha2 no2
        have F3 : Fr g lg kn t kvs h k2 (h2.upd a ({ d with seen := S2.rev } : Nd).ob) := ⟨F12.x.trans (W' := fun l => l = a) (Ext.upd _ rfl) fun l _ z => z ▸ oa, F12.o⟩
        obtain ⟨h', k', L', q2, R', F', hv⟩ := tail_ok (Q (n + (m + 5))) K R3 F3 (upS _ _ _) no2 (.inl oa) (d := { d with seen := S2.rev }) hu (i := 1) (by omega) e
        refine ⟨h', k', ?_, R', F', hv⟩
        rw [hD]
        have q2 : tailS (Q (n + (m + 5))) [some (.ref g), some (.str tx), some (.str rn), some (.tup ps), some (.ref a), some (.int 1)] (h2.upd a (.ins 1 [(1, .tup [.str d.rn, .tup d.ps]), (2, d.found), (3, .tup d.uses), (4, .int S2.rev)])) = .ok (.rt v) L' h' := q2
        unfold tailS at q2
        simp only [sSeq, sNil] at q2
        have q1 := q0
        have ha3 : h2.get a = some (.ins 1 [(1, .tup [.str d.rn, .tup d.ps]), (2, d.found), (3, .tup d.uses), (4, .int d.seen)]) := ha2
        simp only [D_19, callF, bdKw, runF, slots0]
        simp [sSeq, sPar, aCons, aNil, eBM, eAttr, eLoc, Res.bind, getA, R.hg, at_known, List.lookup, tyA, R.hk, eCon, gPopD, keyOf, valA_findK, ek, RS.ofA, setAll, sIf, tB2, isB, Zk.e2, oIs, sNil, oEq, oEqB, A.dat, FU, PyData.eqv, sh3, sh1, sh2, sAsg, RS.ofE, eMeth, methA, tb_compute, tb_is_confirmed, kOf, q1, gNm, eIf, tOfE, truth, dropA_dropK, upN _ _ _ n1, q0, sSetA, Zk.putAt, putN, okc_revision_seen, ha3, R2.hg, at_own_revision]
        rw [q2]
        rfl
      | false =>
        simp only at e
        cases ec2 : comp pr cl rn ps S2 with
        | none => rw [ec2] at e; cases e
        | some w =>
          obtain ⟨d2, S3⟩ := w
          rw [ec2] at e
          simp only at e
          obtain ⟨h3, k3, a3, q1, R3, F3, ga, la3, no3, hu3⟩ := comp_ok K (m2 := m + 3) I n R2 hp hz hsh ec2
          obtain ⟨h', k', L', q2, R', F', hv⟩ := tail_ok (Q (n + (m + 5))) K R3 (F12.trans F3) ga no3 (.inr (Nat.le_trans F12.x.le la3)) hu3 (i := 2) (by omega) e
          refine ⟨h', k', ?_, R', F', hv⟩
          rw [hD]
          have q1 : Q (n + (m + 5)) (.fn 18) [.ref g, .str rn, .tup ps] [] h2 = .ok (.ref a3) h3 := q1
          have q2 : tailS (Q (n + (m + 5))) [some (.ref g), some (.str tx), some (.str rn), some (.tup ps), some (.ref a3), some (.int 2)] h3 = .ok (.rt v) L' h' := q2
          unfold tailS at q2
          simp only [sSeq, sNil] at q2
          simp only [D_19, callF, bdKw, runF, slots0]
          simp [sSeq, sPar, aCons, aNil, eBM, eAttr, eLoc, Res.bind, getA, R.hg, at_known, List.lookup, tyA, R.hk, eCon, gPopD, keyOf, valA_findK, ek, RS.ofA, setAll, sIf, tB2, isB, Zk.e2, oIs, sNil, oEq, oEqB, A.dat, FU, PyData.eqv, sh3, sh1, sh2, sAsg, RS.ofE, eMeth, methA, tb_compute, tb_is_confirmed, kOf, q1, gNm, eIf, tOfE, truth, dropA_dropK, upN _ _ _ n1, q0, R2.hg]
          rw [q2]
          rfl
end
end K95
end
section
set_option Elab.async false
set_option linter.all false
set_option maxRecDepth 100000
set_option maxHeartbeats 0
namespace K95
open PySem PySem.Spec PyProof.Rows Zk
open L2 (Key)
section
variable {Rl : Type} {rel : Hq → A → Rl → Prop} {g lg c r kn b t : Nat} {kvs : List (Key × A)} {h : Hq} {S : St Rl}
theorem shI (i : Int) : SeqAt.shaped (.int i) = true := by simp [SeqAt.shaped, PyData.canLay0, PyData.depth]
theorem flat_strs : ∀ bs : List Str, (bs.map A.str).all flatA = true
  | [] => rfl
  | _ :: bs => by simp only [List.map_cons, List.all_cons, flatA, flat_strs bs, Bool.and_self]
theorem any_strs (s : Str) : ∀ bs : List Str, ((bs.map A.str).any fun y => L2.eqV (toV y) (toV (.str s))) = decide (s ∈ bs)
  | [] => by simp
  | x :: bs => by
    rw [List.map_cons, List.any_cons, any_strs s bs]
    simp only [toV, L2.eqV, List.mem_cons]
    by_cases e : s = x
    · subst e; simp
    · have : (x == s) = false := beq_eq_false_iff_ne.mpr (Ne.symm e)
      simp [this, e]
theorem call_ok (K : RelOk rel) {pr : Rl → List A → Pr} {cl : Cl Rl} {m : Nat} (C : CallOk rel lg cl (m + 2)) (I : ImplOk rel lg pr cl (m + 4)) : CallOk rel lg (gstep pr cl) (m + 7) := by
  intro n h S g c r kn b t kvs rn ps v S' R e
  unfold gstep at e
  split at e
  · rename_i hg
    obtain ⟨g1, g2, g3, g4, g5, g6⟩ := hg
    cases et : reprP (.tup [.str rn, .tup ps]) with
    | none => rw [et] at e; cases e
    | some tx =>
      rw [et] at e
      simp only at e
      split at e
      · cases e
      · rename_i nb
        have qt : Q (n + (m + 6)) (.fn 15) [.ref g, .str rn, .tup ps] [] h = .ok (.str tx) h := text_ok (n + (m + 4)) R g1 g2 g3 et
        have hbusy : ((S.busy.map A.str).any fun y => L2.eqV (toV y) (toV (.str tx))) = false := by rw [any_strs]; exact decide_eq_false nb
        have hz : ps.length + 2 ≤ 16777216 := by omega
        have hD : Q (n + (m + 7)) (.fn 20) (.ref g :: .str rn :: ps) [] h = D_20 (Q (n + (m + 6))) (.ref g :: .str rn :: ps) [] h := rfl
        cases ecr : curr S tx with
        | some v0 =>
          rw [ecr] at e
          cases e
          unfold curr at ecr
          rcases R.nd.find (k := .inr tx) with ⟨ek, ed⟩ | ⟨x, d, ek, ed, ⟨a, rfl, ha⟩, mk, md⟩
          · rw [ed] at ecr; cases ecr
          · rw [ed] at ecr
            simp only at ecr
            split at ecr
            · rename_i hs
              cases ecr
              obtain ⟨hu, hf, _⟩ := R.us _ md
              obtain ⟨t0, t1, t2, t3, e4⟩ := four g5
              have ht := R.ht
              rw [e4] at ht
              have ha3 : h.get a = some (.ins 1 [(1, .tup [.str d.rn, .tup d.ps]), (2, d.found), (3, .tup d.uses), (4, .int d.seen)]) := ha
              have n1 : g ≠ t := neg R.hg R.ht (fun z => nomatch z)
              have n2 : a ≠ t := neg ha R.ht (fun z => nomatch z)
              have n3 : kn ≠ t := neg R.hk R.ht (fun z => nomatch z)
              refine ⟨hf, _, kvs, ?_, R.setT K (bump S 0).tally, ⟨Ext.upd _ (.inr (.inr (.inl rfl))), fun _ o => .inl o⟩⟩
              rw [hD]
              simp [D_20, callF, callC, bdKw, bdStar, bdOr, runF, outF, slots0, sSeq, sNil, sRet, sRetN, sExp, sAsg, sIf, sSetA, sSetI, sAugA, sAugI, sPar, setAll, RS.ofE, RS.ofA, eAttr, eLoc, eCon, Res.bind, getA, aNil, aCons, aStar, eTup, eLst, eMeth, methA, kOf, kLone, kKw, eCallF, eCallL, callV, isFn, eMake, makeA, Zk.e2, orE, orG, eCB, Zk.g1, Zk.g2, tOfE, tNot, tAnd, tOr, tB2, isB, truth, eIf, eNot, eAnd, eOr, seqOf, gNm, gTupA, gsCons, gsNil, Zk.putAt, putN, setAt, keyOf, eD0, eIsi, isiA, tagOf, oIs, List.lookup, eTupV, eBM, tyA, oIx, oIxM, oIxS, oIxD, oIxL, oIxT, L2.atI, L2.ixN, lstOf, oAddI, oSub, iOp, iOpC, oInO, oIn, oInK, oInS, oInF, oInD, lenO, lenD, lenA, List.all_cons, List.all_nil, List.map_cons, List.map_nil, List.length_cons, List.length_nil, SZ, hz, tb_text_of, R.hg, qt, at_busy, at_known, at_revision_seen, at_own_revision, at_tally, at_found, R.hb, flatA, flat_strs, hbusy, R.hk, valA_findK, ek, dget, ha3, oEq, oEqB, A.dat, FU, shI, PyData.eqv, hs, ht, e4, bump, upN _ _ _ n1, upN _ _ _ n2, upN _ _ _ n3]
            · cases ecr
        | none =>
          rw [ecr] at e
          simp only at e
          cases er : refr pr cl rn ps tx { S with busy := S.busy ++ [tx] } with
          | none => rw [er] at e; cases e
          | some w =>
            obtain ⟨v1, S2⟩ := w
            rw [er] at e
            cases e
            -- entering
            have lt := R.lt
            have h1e : ∃ h1 : Hq, h1 = ((h.new (.lst [.str tx])).new (.lst (S.busy.map A.str ++ [.str tx]))).upd g (GO c r kn (h.n + 1) t S.rev) := ⟨_, rfl⟩
            obtain ⟨h1, eh1⟩ := h1e
            have Ra := (R.new K (.lst [.str tx])).new K (.lst (S.busy.map A.str ++ [.str tx]))
            have eb2 : ((h.new (.lst [.str tx])).new (.lst (S.busy.map A.str ++ [.str tx]))).get (h.n + 1) = some (.lst ((S.busy ++ [tx]).map A.str)) := by
              rw [show ((h.new (.lst [.str tx])).new (.lst (S.busy.map A.str ++ [.str tx]))).get (h.n + 1) = some (.lst (S.busy.map A.str ++ [.str tx])) from nwS (h.new (.lst [.str tx])) _]
              simp
            have R1 : Rx rel g lg c r kn (h.n + 1) t kvs h1 { S with busy := S.busy ++ [tx] } := by
              rw [eh1]
              exact Ra.setB K eb2 (by have := lt.2.2.2.2.2.1; omega) (by have := lt.2.2.2.2.2.2; omega)
            have x1 : Ext (Ow g lg kn t kvs) h h1 := by
              rw [eh1]
              exact ((Ext.new (W := Ow g lg kn t kvs) _).trans (Ext.new (W := Ow g lg kn t kvs) _) fun _ _ z => z).trans (Ext.upd (W := Ow g lg kn t kvs) _ (.inl rfl)) fun _ _ z => z
            obtain ⟨h2, k2, q2, R2, F2, hv⟩ := refr_ok K C I n R1 g2 g3 g6 er
            have F : Fr g lg kn t kvs h k2 h2 := Fr.trans ⟨x1, fun _ o => .inl o⟩ F2
            have ob : ¬ Ow g lg kn t kvs b := R.inl R.hb R.tb.symm R.lb.symm
            have hb2 := F.get R.wf R.hb ob
            have R3 := R2.setB K hb2 R.tb R.lb
            refine ⟨hv, _, k2, ?_, R3, ⟨F.x.trans (Ext.upd (W := Ow g lg kn t kvs) _ (.inl rfl)) fun _ _ z => z, F.o⟩⟩
            rw [hD]
            have q2 : Q (n + (m + 6)) (.fn 19) [.ref g, .str tx, .str rn, .tup ps] [] h1 = .ok v h2 := q2
            have e_b1 : (h.new (.lst [.str tx])).get b = some (.lst (S.busy.map A.str)) := (nwL _ _ lt.2.2.2.2.1).trans R.hb
            have e_n1 : (h.new (.lst [.str tx])).get h.n = some (.lst [.str tx]) := nwS _ _
            have e_g1 : ((h.new (.lst [.str tx])).new (.lst (S.busy.map A.str ++ [.str tx]))).get g = some (GO c r kn b t S.rev) := Ra.hg
            have e_g3 : h1.get g = some (GO c r kn (h.n + 1) t S.rev) := R1.hg
            have hb9 : S.busy.length + 1 ≤ 16777216 := by omega
            rw [eh1] at q2 e_g3
            unfold curr at ecr
            rcases R.nd.find (k := .inr tx) with ⟨ek, ed⟩ | ⟨x, d, ek, ed, ⟨a, rfl, ha⟩, mk, md⟩
            · simp [D_20, callF, callC, bdKw, bdStar, bdOr, runF, outF, slots0, sSeq, sNil, sRet, sRetN, sExp, sAsg, sIf, sSetA, sSetI, sAugA, sAugI, sPar, setAll, RS.ofE, RS.ofA, eAttr, eLoc, eCon, Res.bind, getA, aNil, aCons, aStar, eTup, eLst, eMeth, methA, kOf, kLone, kKw, eCallF, eCallL, callV, isFn, eMake, makeA, Zk.e2, orE, orG, eCB, Zk.g1, Zk.g2, tOfE, tNot, tAnd, tOr, tB2, isB, truth, eIf, eNot, eAnd, eOr, seqOf, gNm, gTupA, gsCons, gsNil, Zk.putAt, putN, setAt, keyOf, eD0, eIsi, isiA, tagOf, oIs, List.lookup, eTupV, eBM, tyA, oIx, oIxM, oIxS, oIxD, oIxL, oIxT, L2.atI, L2.ixN, lstOf, oAddI, oSub, iOp, iOpC, oInO, oIn, oInK, oInS, oInF, oInD, lenO, lenD, lenA, List.all_cons, List.all_nil, List.map_cons, List.map_nil, List.length_cons, List.length_nil, SZ, hz, tb_text_of, R.hg, qt, at_busy, at_known, at_revision_seen, at_own_revision, R.hb, flatA, flat_strs, hbusy, R.hk, valA_findK, ek, okc_busy, tb_refresh, oAdd, oAddS, oAddT, oAddL, e_b1, e_n1, e_g1, hb9, Hq.n_new, Hq.n_upd, e_g3, q2, R2.hg, sFin]
            · rw [ed] at ecr
              simp only at ecr
              split at ecr
              · cases ecr
              · rename_i hs
                have ha3 : h.get a = some (.ins 1 [(1, .tup [.str d.rn, .tup d.ps]), (2, d.found), (3, .tup d.uses), (4, .int d.seen)]) := ha
                have hs2 : (d.seen == S.rev) = false := beq_eq_false_iff_ne.mpr hs
                simp [D_20, callF, callC, bdKw, bdStar, bdOr, runF, outF, slots0, sSeq, sNil, sRet, sRetN, sExp, sAsg, sIf, sSetA, sSetI, sAugA, sAugI, sPar, setAll, RS.ofE, RS.ofA, eAttr, eLoc, eCon, Res.bind, getA, aNil, aCons, aStar, eTup, eLst, eMeth, methA, kOf, kLone, kKw, eCallF, eCallL, callV, isFn, eMake, makeA, Zk.e2, orE, orG, eCB, Zk.g1, Zk.g2, tOfE, tNot, tAnd, tOr, tB2, isB, truth, eIf, eNot, eAnd, eOr, seqOf, gNm, gTupA, gsCons, gsNil, Zk.putAt, putN, setAt, keyOf, eD0, eIsi, isiA, tagOf, oIs, List.lookup, eTupV, eBM, tyA, oIx, oIxM, oIxS, oIxD, oIxL, oIxT, L2.atI, L2.ixN, lstOf, oAddI, oSub, iOp, iOpC, oInO, oIn, oInK, oInS, oInF, oInD, lenO, lenD, lenA, List.all_cons, List.all_nil, List.map_cons, List.map_nil, List.length_cons, List.length_nil, SZ, hz, tb_text_of, R.hg, qt, at_busy, at_known, at_revision_seen, at_own_revision, R.hb, flatA, flat_strs, hbusy, R.hk, valA_findK, ek, okc_busy, tb_refresh, oAdd, oAddS, oAddT, oAddL, e_b1, e_n1, e_g1, hb9, Hq.n_new, Hq.n_upd, e_g3, q2, R2.hg, sFin, dget, ha3, oEq, oEqB, A.dat, FU, shI, PyData.eqv, hs2, hs]
  · cases e
end
end K95
end
section
set_option Elab.async false
set_option linter.all false
set_option maxRecDepth 100000
set_option maxHeartbeats 0
namespace K95
open PySem PySem.Spec PyProof.Rows Zk
open L2 (Key)
/-! ### names -/
def LET : Str := "abcdefghijklmnopqrstuvwxyzABCDEFGHIJKLMNOPQRSTUVWXYZ"
def SIG : Str := "abcdefghijklmnopqrstuvwxyzABCDEFGHIJKLMNOPQRSTUVWXYZ0123456789_"
def nameOk (s : Str) : Bool := decide (1 ≤ s.cps.size) && (decide (s.cps.size ≤ 20) && ((match s.cps.toList with
  | c :: _ => decide (c ∈ LET.cps.toList)
  | [] => false) && s.cps.toList.all fun c => decide (c ∈ SIG.cps.toList)))
theorem name_loop {s : Str} (hs : s.cps.toList.all (fun c => decide (c ∈ SIG.cps.toList)) = true) (hz : s.cps.size ≤ 20) (L0 : Lc) (hL : L0.length = 2) (l0 : Nat) : ∀ (k fuel i : Nat) (h : Hq), s.cps.size - i = k → k < fuel → i ≤ s.cps.size → l0 < h.n → h.get l0 = some (.lst (List.replicate i (.bl true))) →
    ∃ h', lcL (stP s) (gNm 1) tT (Zk.e2 (oIn false) (eLoc 1) (eCon (.str SIG))) L0 l0 fuel i h = .ok () h' ∧ h'.get l0 = some (.lst (List.replicate s.cps.size (.bl true))) ∧ Ext (fun l => l = l0) h h' ∧ (Wf h → Wf h')
  | 0, fuel, i, h, ek, hf, hi, hl, e => by
    obtain ⟨f, rfl⟩ : ∃ f, fuel = f + 1 := ⟨fuel - 1, by omega⟩
    have ei : i = s.cps.size := by omega
    subst ei
    refine ⟨h, ?_, e, Ext.refl, id⟩
    simp [lcL, stP]
  | k + 1, fuel, i, h, ek, hf, hi, hl, e => by
    obtain ⟨f, rfl⟩ : ∃ f, fuel = f + 1 := ⟨fuel - 1, by omega⟩
    have hlt : i < s.cps.size := by omega
    have hc : s.cps[i]? = some s.cps[i] := Array.getElem?_eq_getElem hlt
    have hm : s.cps[i] ∈ SIG.cps.toList := of_decide_eq_true (List.all_eq_true.mp hs _ (by simp))
    obtain ⟨h', q, e', x, w⟩ := name_loop hs hz L0 hL l0 k f (i + 1) (h.upd l0 (.lst (List.replicate (i + 1) (.bl true)))) (by omega) (by omega) (by omega) hl (upS _ _ _)
    refine ⟨h', ?_, e', (Ext.upd (W := fun l => l = l0) _ rfl).trans x fun _ _ z => z, fun wf => w (wf.upd _ hl)⟩
    rw [← q]
    have hz2 : i < SZ := by unfold SZ; omega
    have er : List.replicate i (A.bl true) ++ [A.bl true] = List.replicate (i + 1) (.bl true) := by rw [List.replicate_succ']
    match L0, hL with
    | [a0, a1], _ => simp [lcL, stP, hc, gNm, tT, Zk.e2, eLoc, Res.bind, eCon, oIn, orE, oInK, oInS, hm, e, hz2, er]
theorem bls_rep : ∀ n : Nat, blsOf (List.replicate n (A.bl true)) = some (List.replicate n true)
  | 0 => rfl
  | n + 1 => by simp [List.replicate_succ, blsOf, bls_rep n]
theorem isname_ok (n : Nat) {h : Hq} (w : Wf h) {s : Str} (hs : nameOk s = true) : ∃ h', Q (n + 1) (.fn 2) [.str s] [] h = .ok (.bl true) h' ∧ Ext (fun _ => False) h h' ∧ Wf h' := by
  unfold nameOk at hs
  obtain ⟨h1, hs⟩ := Bool.and_eq_true_iff.mp hs
  obtain ⟨h2, hs⟩ := Bool.and_eq_true_iff.mp hs
  obtain ⟨h3, h4⟩ := Bool.and_eq_true_iff.mp hs
  have h1 : 1 ≤ s.cps.size := of_decide_eq_true h1
  have h2 : s.cps.size ≤ 20 := of_decide_eq_true h2
  obtain ⟨h', q, e', x, wf⟩ := name_loop h4 h2 (wipeL [some (.str s), none] [1]) (by simp [wipeL]) h.n s.cps.size FL 0 (h.new (.lst [])) (by omega) (by unfold FL; omega) (by omega) (Nat.lt_succ_self _) (nwS _ _)
  refine ⟨h', ?_, ⟨Nat.le_trans (Nat.le_succ _) x.le, fun l hl _ => (x.same l (Nat.lt_succ_of_lt hl) (Nat.ne_of_lt hl)).trans (nwL _ _ hl)⟩, wf (w.new _)⟩
  show D_2 (Q n) [.str s] [] h = _
  have hlc : eLc (iAny (eLoc 0)) (gNm 1) tT (Zk.e2 (oIn false) (eLoc 1) (eCon (.str "abcdefghijklmnopqrstuvwxyzABCDEFGHIJKLMNOPQRSTUVWXYZ0123456789_"))) [1] FL [some (.str s), none] h = .ok (.ref h.n) h' := by
    unfold eLc
    have : iAny (eLoc 0) [some (.str s), none] h = .ok (stP s) h := by simp [iAny, eLoc]
    rw [this]
    show (lcL (stP s) (gNm 1) tT (Zk.e2 (oIn false) (eLoc 1) (eCon (.str SIG))) (wipeL [some (.str s), none] [1]) h.n FL 0 (h.new (.lst []))).bind _ = _
    rw [q]
    rfl
  have hlen : (s.length : Int) = s.cps.size := rfl
  have hl1 : s.length ≤ 16777216 := by show s.cps.size ≤ _; omega
  obtain ⟨c, hc, hm⟩ : ∃ c, s.cps.toList[0]? = some c ∧ c ∈ LET.cps.toList := by
    cases e : s.cps.toList with
    | nil => rw [e] at h3; cases h3
    | cons c r => rw [e] at h3; exact ⟨c, rfl, of_decide_eq_true h3⟩
  have hat : L2.atI s.cps.toList 0 = some c := by
    have hp : 0 < s.cps.toList.length := by
      rcases Nat.eq_zero_or_pos s.cps.toList.length with z | z
      · rw [List.length_eq_zero_iff.mp z] at hc; cases hc
      · exact z
    unfold L2.atI L2.ixN
    rw [if_pos (Int.le_refl 0), if_pos (by omega)]
    simpa using hc
  have hi1 : (1 : Int) ≤ (s.cps.size : Int) := by omega
  have hi2 : (s.cps.size : Int) ≤ 20 := by omega
  have hm2 : c ∈ (Str.ofString "abcdefghijklmnopqrstuvwxyzABCDEFGHIJKLMNOPQRSTUVWXYZ").cps.toList := hm
  have sg : ((⟨#[c]⟩ : Str).cps.toList) = [c] := rfl
  simp [D_2, callF, bdKw, runF, slots0, sSeq, sIf, tOr, tNot, tOfE, eIsi, isiA, tagOf, isi_str, eLoc, Res.bind, truth, tB2, isB, eChain, eCon, oLe, iOp, eCB, aCons, aNil, orG, Zk.g1, lenA, SZ, hl1, hlen, hi1, hi2, Zk.e2, oIn, orE, oInK, oInS, oIx, oIxS, oIxT, seqOf, hat, hm2, sNil]
  have hlc' := hlc
  simp only [oIn] at hlc'
  simp [sRet, eCB, aCons, aNil, hlc', Res.bind, Zk.g1, allA, seqOf, e', bls_rep, RS.ofE, outF]
end K95
end
section
set_option Elab.async false
set_option linter.all false
set_option maxRecDepth 100000
set_option maxHeartbeats 0
namespace K95
open PySem PySem.Spec PyProof.Rows Zk
open L2 (Key)
section
variable {Rl : Type} {rel : Hq → A → Rl → Prop} {g lg c r kn b t : Nat} {kvs : List (Key × A)} {h : Hq} {S : St Rl}
theorem reqname_ok (n : Nat) {h : Hq} (w : Wf h) (g : Nat) {s : Str} (hs : nameOk s = true) : ∃ h', Q (n + 2) (.fn 9) [.ref g, .str s] [] h = .ok .non h' ∧ Ext (fun _ => False) h h' ∧ Wf h' := by
  obtain ⟨h', q, x, w'⟩ := isname_ok n w hs
  refine ⟨h', ?_, x, w'⟩
  show D_9 (Q (n + 1)) [.ref g, .str s] [] h = _
  simp [D_9, callF, callC, bdKw, bdStar, bdOr, runF, outF, slots0, sSeq, sNil, sRet, sRetN, sExp, sAsg, sIf, sSetA, sSetI, sAugA, sAugI, sPar, setAll, RS.ofE, RS.ofA, eAttr, eLoc, eCon, Res.bind, getA, aNil, aCons, aStar, eTup, eLst, eMeth, methA, kOf, kLone, kKw, eCallF, eCallL, callV, isFn, eMake, makeA, Zk.e2, orE, orG, eCB, Zk.g1, Zk.g2, tOfE, tNot, tAnd, tOr, tB2, isB, truth, eIf, eNot, eAnd, eOr, seqOf, gNm, gTupA, gsCons, gsNil, Zk.putAt, putN, setAt, keyOf, eD0, eIsi, isiA, tagOf, oIs, List.lookup, eTupV, eBM, tyA, oIx, oIxM, oIxS, oIxD, oIxL, oIxT, L2.atI, L2.ixN, lstOf, oAddI, oSub, iOp, iOpC, oInO, oIn, oInK, oInS, oInF, oInD, lenO, lenD, lenA, List.all_cons, List.all_nil, List.map_cons, List.map_nil, List.length_cons, List.length_nil, q]
/-- a new group's parts -/
theorem ginit_ok (n : Nat) (w : Wf h) : ∃ h', Q (n + 1) (.fn 8) [.ref h.n] [] (h.new (.ins 3 [])) = .ok .non h' ∧ Ext (fun _ => False) h h' ∧ Wf h' ∧ h'.n = h.n + 6 ∧ h'.get h.n = some (GO (h.n + 1) (h.n + 2) (h.n + 3) (h.n + 4) (h.n + 5) 0) ∧
    h'.get (h.n + 1) = some (.dic []) ∧ h'.get (h.n + 2) = some (.dic []) ∧ h'.get (h.n + 3) = some (.dic []) ∧ h'.get (h.n + 4) = some (.lst []) ∧ h'.get (h.n + 5) = some (.lst [.int 0, .int 0, .int 0, .int 0]) := by
  have e : ∃ h', Q (n + 1) (.fn 8) [.ref h.n] [] (h.new (.ins 3 [])) = .ok .non h' ∧ h' = ((((((((((((h.new (.ins 3 [])).new (.dic [])).upd h.n (.ins 3 [(10, .ref (h.n + 1))])).new (.dic [])).upd h.n (.ins 3 [(10, .ref (h.n + 1)), (11, .ref (h.n + 2))])).new (.dic [])).upd h.n (.ins 3 [(10, .ref (h.n + 1)), (11, .ref (h.n + 2)), (12, .ref (h.n + 3))])).new (.lst [])).upd h.n (.ins 3 [(10, .ref (h.n + 1)), (11, .ref (h.n + 2)), (12, .ref (h.n + 3)), (13, .ref (h.n + 4))])).upd h.n (.ins 3 [(10, .ref (h.n + 1)), (11, .ref (h.n + 2)), (12, .ref (h.n + 3)), (13, .ref (h.n + 4)), (14, .int 0)])).new (.lst [.int 0, .int 0, .int 0, .int 0])).upd h.n (GO (h.n + 1) (h.n + 2) (h.n + 3) (h.n + 4) (h.n + 5) 0)) := by
    refine ⟨_, ?_, rfl⟩
    show D_8 (Q n) [.ref h.n] [] (h.new (.ins 3 [])) = _
    simp [D_8, callF, callC, bdKw, bdStar, bdOr, runF, outF, slots0, sSeq, sNil, sRet, sRetN, sExp, sAsg, sIf, sSetA, sSetI, sAugA, sAugI, sPar, setAll, RS.ofE, RS.ofA, eAttr, eLoc, eCon, Res.bind, getA, aNil, aCons, aStar, eTup, eLst, eMeth, methA, kOf, kLone, kKw, eCallF, eCallL, callV, isFn, eMake, makeA, Zk.e2, orE, orG, eCB, Zk.g1, Zk.g2, tOfE, tNot, tAnd, tOr, tB2, isB, truth, eIf, eNot, eAnd, eOr, seqOf, gNm, gTupA, gsCons, gsNil, Zk.putAt, putN, setAt, keyOf, eD0, eIsi, isiA, tagOf, oIs, List.lookup, eTupV, eBM, tyA, oIx, oIxM, oIxS, oIxD, oIxL, oIxT, L2.atI, L2.ixN, lstOf, oAddI, oSub, iOp, iOpC, oInO, oIn, oInK, oInS, oInF, oInD, lenO, lenD, lenA, List.all_cons, List.all_nil, List.map_cons, List.map_nil, List.length_cons, List.length_nil, okc_cells, okc_rules, okc_known, okc_busy, okc_own_revision, okc_tally, Hq.get_upd, Hq.get_new, Hq.n_new, Hq.n_upd, SZ, Nat.add_assoc]
  obtain ⟨h', q, e⟩ := e
  refine ⟨h', q, ⟨?_, fun l hl _ => ?_⟩, ?_, ?_, ?_, ?_, ?_, ?_, ?_, ?_⟩
  · rw [e]; show h.n ≤ h.n + 6; omega
  · rw [e]
    have e0 : l ≠ h.n := by omega
    have e1 : l ≠ h.n + 1 := by omega
    have e2 : l ≠ h.n + 2 := by omega
    have e3 : l ≠ h.n + 3 := by omega
    have e4 : l ≠ h.n + 4 := by omega
    have e5 : l ≠ h.n + 5 := by omega
    simp [Hq.get_upd, Hq.get_new, Hq.n_new, Hq.n_upd, e0, e1, e2, e3, e4, e5]
  · rw [e]
    have z : ∀ k, h.n < h.n + k + 1 := fun k => by omega
    exact ((((((((((((w.new _).new _).upd _ (z 1)).new _).upd _ (z 2)).new _).upd _ (z 3)).new _).upd _ (z 4)).upd _ (z 4)).new _).upd _ (z 5))
  · rw [e]; rfl
  all_goals (rw [e]; simp [Hq.get_upd, Hq.get_new, Hq.n_new, Hq.n_upd])
def S0 : St Rl := ⟨[], [], [], [], 0, [0, 0, 0, 0], []⟩
theorem rx_new (w : Wf h) {h' : Hq} (x : Ext (fun _ => False) h h') (w' : Wf h') (hn : h'.n = h.n + 6) (e0 : h'.get h.n = some (GO (h.n + 1) (h.n + 2) (h.n + 3) (h.n + 4) (h.n + 5) 0)) (e1 : h'.get (h.n + 1) = some (.dic [])) (e2 : h'.get (h.n + 2) = some (.dic [])) (e3 : h'.get (h.n + 3) = some (.dic [])) (e4 : h'.get (h.n + 4) = some (.lst [])) (e5 : h'.get (h.n + 5) = some (.lst [.int 0, .int 0, .int 0, .int 0])) :
    Rx rel h.n (h.n + 6) (h.n + 1) (h.n + 2) (h.n + 3) (h.n + 4) (h.n + 5) [] (h'.new (.lst [])) (S0 : St Rl) := by
  have k : ∀ {l o}, h'.get l = some o → (h'.new (.lst [])).get l = some o := fun {l o} e => (nwL _ _ (w' _ _ e)).trans e
  exact ⟨w'.new _, k e0, k e1, ⟨[], k e2, .nil⟩, k e3, k e4, k e5, by rw [← hn]; exact nwS _ _, .nil, by simp, by omega, by omega, by omega, by omega, by omega, by omega, fun p hp => by simp [S0] at hp, by simp [S0], fun p hp => by simp [S0] at hp⟩
/-- a cell put -/
theorem put_ok (K : RelOk rel) (n : Nat) (R : Rx rel g lg c r kn b t kvs h S) (hb : S.busy = []) {x : Str} {v : A} (hx : nameOk x = true) (hv : flatS v = true) (ha : findK S.cells (.inr x) = none) (hl : S.cells.length < 1000) :
    ∃ h', Q (n + 3) (.fn 10) [.ref g, .str x, v] [] h = .ok (.bl true) h' ∧ Rx rel g lg c r kn b t kvs h' { S with cells := S.cells ++ [(.inr x, v)], rev := S.rev + 1 } ∧ Ext (fun l => l = g ∨ l = c) h h' := by
  obtain ⟨h1, q1, x1, w1⟩ := reqname_ok n R.wf g hx
  have R1 := (R.grow K w1 x1).new K (.lst [])
  have q2 : Q (n + 2) (.fn 0) [v] [] h1 = .ok (.bl true) h1 := simple_ok (n + 1) h1 hv
  have R0 := R.grow K w1 x1
  have hb1 : (h1.new (.lst [])).get b = some (.lst []) := by have := R1.hb; rw [hb] at this; exact this
  have hn1 : (h1.new (.lst [])).get h1.n = some (.lst []) := nwS _ _
  have n1 : g ≠ c := neg R.hg R.hc (fun z => nomatch z)
  have hc2 := R1.hc
  have hg2 := R1.hg
  have z1 : S.cells.length < 16777216 := by omega
  refine ⟨((h1.new (.lst [])).upd c (.dic (S.cells ++ [(.inr x, v)]))).upd g (GO c r kn b t (S.rev + 1)), ?_, ?_, ?_⟩
  · show D_10 (Q (n + 2)) [.ref g, .str x, v] [] h = _
    have pn : putK S.cells (.inr x) v = S.cells ++ [(.inr x, v)] := putK_none ha
    simp [D_10, callF, callC, bdKw, bdStar, bdOr, runF, outF, slots0, sSeq, sNil, sRet, sRetN, sExp, sAsg, sIf, sSetA, sSetI, sAugA, sAugI, sPar, setAll, RS.ofE, RS.ofA, eAttr, eLoc, eCon, Res.bind, getA, aNil, aCons, aStar, eTup, eLst, eMeth, methA, kOf, kLone, kKw, eCallF, eCallL, callV, isFn, eMake, makeA, Zk.e2, orE, orG, eCB, Zk.g1, Zk.g2, tOfE, tNot, tAnd, tOr, tB2, isB, truth, eIf, eNot, eAnd, eOr, seqOf, gNm, gTupA, gsCons, gsNil, Zk.putAt, putN, setAt, keyOf, eD0, eIsi, isiA, tagOf, oIs, List.lookup, eTupV, eBM, tyA, oIx, oIxM, oIxS, oIxD, oIxL, oIxT, L2.atI, L2.ixN, lstOf, oAddI, oSub, iOp, iOpC, oInO, oIn, oInK, oInS, oInF, oInD, lenO, lenD, lenA, List.all_cons, List.all_nil, List.map_cons, List.map_nil, List.length_cons, List.length_nil, tb_require_name, R.hg, q1, q2, at_busy, at_cells, at_own_revision, okc_own_revision, R0.hg, hb1, hn1, oNe, oEqB, A.dat, A.dats, FU, PyData.eqv, PyData.eqvAll, show SeqAt.shaped (.list []) = true from by decide +kernel, hc2, hg2, valA_findK, ha, SZ, z1, putA_putK, pn, upN _ _ _ n1]
  · obtain ⟨rl, er, pr⟩ := R1.hr
    have e := R1.hg
    have lt := R1.lt
    have k : ∀ {l o}, (h1.new (.lst [])).get l = some o → l ≠ c → l ≠ g → (((h1.new (.lst [])).upd c (.dic (S.cells ++ [(.inr x, v)]))).upd g (GO c r kn b t (S.rev + 1))).get l = some o := fun {l o} e a1 a2 => by rw [upN _ _ _ a2, upN _ _ _ a1]; exact e
    have gc : ∀ {l : Nat} {o : Ob}, (h1.new (.lst [])).get l = some o → (∀ y, o ≠ .dic y) → l ≠ c := fun e n => neg e R1.hc (n _)
    have gg : ∀ {l : Nat} {o : Ob}, (h1.new (.lst [])).get l = some o → (∀ y, o ≠ .ins 3 y) → l ≠ g := fun e n => neg e R1.hg (n _)
    refine ⟨(R1.wf.upd _ lt.2.1).upd _ lt.1, upS _ _ _, by rw [upN _ _ _ n1.symm]; exact upS _ _ _, ⟨rl, k er R.cr.symm (gg er fun y z => nomatch z), pr.imp fun _ _ _ _ _ q => K.st _ _ _ _ q fun j y ej => k ej (gc ej fun y z => nomatch z) (gg ej fun y z => nomatch z)⟩, k R1.hk R.kc (gg R1.hk fun y z => nomatch z), k R1.hb (gc R1.hb fun y z => nomatch z) (gg R1.hb fun y z => nomatch z), k R1.ht (gc R1.ht fun y z => nomatch z) (gg R1.ht fun y z => nomatch z), k R1.hl (gc R1.hl fun y z => nomatch z) (gg R1.hl fun y z => nomatch z),
      R1.nd.imp fun _ _ d _ _ ⟨a, e1, e2⟩ => ⟨a, e1, k e2 (gc e2 fun y z => nomatch z) (gg e2 fun y z => by cases z)⟩, R.un, R.kc, R.kr, R.cr, R.tl, R.tb, R.lb, R.us, R.kd, fun p hp => ?_⟩
    rcases List.mem_append.mp hp with hp | hp
    · exact R.cp p hp
    · simp at hp; subst hp; exact flat_pure hv
  · refine ⟨Nat.le_trans x1.le (Nat.le_succ _), fun l hl no => ?_⟩
    rw [upN _ _ _ fun z => no (.inl z), upN _ _ _ fun z => no (.inr z), nwL _ _ (Nat.lt_of_lt_of_le hl x1.le), x1.same l hl id]
end
end K95
end
section
set_option Elab.async false
set_option linter.all false
set_option maxRecDepth 100000
set_option maxHeartbeats 0
namespace K95
open PySem PySem.Spec PyProof.Rows Zk
open L2 (Key)
/-! ### comprehensions that only filter -/
theorem lc_list {β : Type} {p : PItr} {gg : MG} {c : MT} {e : ME} {L0 : Lc} {l0 : Nat} {xs : List β} {itm val : β → A} {kb : β → Bool} (P : Hq → Prop) (hp : ∀ i h, p i h = some ((xs[i]?).map itm)) (hz : xs.length < 1000000) (stP : ∀ h ys, P h → P (h.upd l0 (.lst ys)))
    (step : ∀ x ∈ xs, ∀ h, P h → ∃ fl L1, gg (itm x) L0 h = .ok fl L1 h ∧ c L1 h = .ok (kb x) h ∧ (kb x = true → e L1 h = .ok (val x) h)) : ∀ (k fuel i : Nat) (h : Hq) (acc : List A), xs.length - i = k → k < fuel → i ≤ xs.length → l0 < h.n → acc.length ≤ i → P h → h.get l0 = some (.lst acc) →
    ∃ h', lcL p gg c e L0 l0 fuel i h = .ok () h' ∧ h'.get l0 = some (.lst (acc ++ ((xs.drop i).filter kb).map val)) ∧ Ext (fun l => l = l0) h h' ∧ (Wf h → Wf h') ∧ P h' ∧ h'.n = h.n
  | 0, fuel, i, h, acc, ek, hf, hi, hl, ha, hP, e0 => by
    obtain ⟨f, rfl⟩ : ∃ f, fuel = f + 1 := ⟨fuel - 1, by omega⟩
    have ei : i = xs.length := by omega
    subst ei
    exact ⟨h, by simp [lcL, hp], by simpa using e0, Ext.refl, id, hP, rfl⟩
  | k + 1, fuel, i, h, acc, ek, hf, hi, hl, ha, hP, e0 => by
    obtain ⟨f, rfl⟩ : ∃ f, fuel = f + 1 := ⟨fuel - 1, by omega⟩
    have hlt : i < xs.length := by omega
    obtain ⟨fl, L1, e1, e2, e3⟩ := step xs[i] (List.getElem_mem hlt) h hP
    have hx : xs[i]? = some xs[i] := List.getElem?_eq_getElem hlt
    have hd : xs.drop i = xs[i] :: xs.drop (i + 1) := List.drop_eq_getElem_cons hlt
    cases ekb : kb xs[i] with
    | false =>
      rw [ekb] at e2
      obtain ⟨h', q, a1, a2, a3, a4, a5⟩ := lc_list P hp hz stP step k f (i + 1) h acc (by omega) (by omega) (by omega) hl (by omega) hP e0
      refine ⟨h', ?_, ?_, a2, a3, a4, a5⟩
      · rw [← q]; simp [lcL, hp, hx, e1, e2]
      · rw [hd, List.filter_cons_of_neg (by simp [ekb])]; exact a1
    | true =>
      rw [ekb] at e2
      have e3 := e3 ekb
      have hz2 : acc.length < SZ := by unfold SZ; omega
      obtain ⟨h', q, a1, a2, a3, a4, a5⟩ := lc_list P hp hz stP step k f (i + 1) (h.upd l0 (.lst (acc ++ [val xs[i]]))) (acc ++ [val xs[i]]) (by omega) (by omega) (by omega) hl (by simp; omega) (stP _ _ hP) (upS _ _ _)
      refine ⟨h', ?_, ?_, (Ext.upd (W := fun l => l = l0) _ rfl).trans a2 fun _ _ z => z, fun w => a3 (w.upd _ hl), a4, a5⟩
      · rw [← q]; simp [lcL, hp, hx, e1, e2, e3, e0, hz2]
      · rw [hd, List.filter_cons_of_pos ekb, List.map_cons, a1]; simp
theorem dc_list {β : Type} {p : PItr} {gg : MG} {c : MT} {ek ev : ME} {L0 : Lc} {l0 : Nat} {xs : List β} {itm : β → A} {key : β → Key} {val : β → A} {kb : β → Bool} (P : Hq → Prop) (hp : ∀ i h, p i h = some ((xs[i]?).map itm)) (hz : xs.length < 1000000) (stP : ∀ h ys, P h → P (h.upd l0 (.dic ys))) (nd : (xs.map key).Nodup)
    (step : ∀ x ∈ xs, ∀ h, P h → ∃ fl L1, gg (itm x) L0 h = .ok fl L1 h ∧ c L1 h = .ok (kb x) h ∧ (kb x = true → ek L1 h = .ok (keyA (key x)) h ∧ ev L1 h = .ok (val x) h)) : ∀ (k fuel i : Nat) (h : Hq) (acc : List (Key × A)), xs.length - i = k → k < fuel → i ≤ xs.length → l0 < h.n → acc.length ≤ i → (∀ x ∈ xs.drop i, findK acc (key x) = none) → P h → h.get l0 = some (.dic acc) →
    ∃ h', dcL p gg c ek ev L0 l0 fuel i h = .ok () h' ∧ h'.get l0 = some (.dic (acc ++ ((xs.drop i).filter kb).map fun x => (key x, val x))) ∧ Ext (fun l => l = l0) h h' ∧ (Wf h → Wf h') ∧ P h' ∧ h'.n = h.n
  | 0, fuel, i, h, acc, ek', hf, hi, hl, ha, hn, hP, e0 => by
    obtain ⟨f, rfl⟩ : ∃ f, fuel = f + 1 := ⟨fuel - 1, by omega⟩
    have ei : i = xs.length := by omega
    subst ei
    exact ⟨h, by simp [dcL, hp], by simpa using e0, Ext.refl, id, hP, rfl⟩
  | k + 1, fuel, i, h, acc, ek', hf, hi, hl, ha, hn, hP, e0 => by
    obtain ⟨f, rfl⟩ : ∃ f, fuel = f + 1 := ⟨fuel - 1, by omega⟩
    have hlt : i < xs.length := by omega
    obtain ⟨fl, L1, e1, e2, e3⟩ := step xs[i] (List.getElem_mem hlt) h hP
    have hx : xs[i]? = some xs[i] := List.getElem?_eq_getElem hlt
    have hd : xs.drop i = xs[i] :: xs.drop (i + 1) := List.drop_eq_getElem_cons hlt
    cases ekb : kb xs[i] with
    | false =>
      rw [ekb] at e2
      obtain ⟨h', q, a1, a2, a3, a4, a5⟩ := dc_list P hp hz stP nd step k f (i + 1) h acc (by omega) (by omega) (by omega) hl (by omega) (fun x hx => hn x (by rw [hd]; exact .tail _ hx)) hP e0
      refine ⟨h', ?_, ?_, a2, a3, a4, a5⟩
      · rw [← q]; simp [dcL, hp, hx, e1, e2]
      · rw [hd, List.filter_cons_of_neg (by simp [ekb])]; exact a1
    | true =>
      rw [ekb] at e2
      obtain ⟨e3, e4⟩ := e3 ekb
      have hz2 : acc.length < SZ := by unfold SZ; omega
      have hno : findK acc (key xs[i]) = none := hn _ (by rw [hd]; exact .head _)
      have hko : ∀ kk : Key, keyOf (keyA kk) = some kk := fun kk => by cases kk <;> rfl
      have nd2 : ((xs.drop i).map key).Nodup := (List.Sublist.map _ (List.drop_sublist i xs)).nodup nd
      rw [hd, List.map_cons] at nd2
      have nd3 := (List.nodup_cons.mp nd2).1
      obtain ⟨h', q, a1, a2, a3, a4, a5⟩ := dc_list P hp hz stP nd step k f (i + 1) (h.upd l0 (.dic (acc ++ [(key xs[i], val xs[i])]))) (acc ++ [(key xs[i], val xs[i])]) (by omega) (by omega) (by omega) hl (by simp; omega) (fun x hx => by
        have h1 := hn x (by rw [hd]; exact .tail _ hx)
        have h2 : key xs[i] ≠ key x := fun z => nd3 (List.mem_map.mpr ⟨x, hx, z.symm⟩)
        unfold findK at h1 ⊢
        rw [List.find?_append]
        cases q1 : acc.find? fun kv => decide (kv.1 = key x) with
        | some p => rw [q1] at h1; cases h1
        | none => simp [h2]) (stP _ _ hP) (upS _ _ _)
      refine ⟨h', ?_, ?_, (Ext.upd (W := fun l => l = l0) _ rfl).trans a2 fun _ _ z => z, fun w => a3 (w.upd _ hl), a4, a5⟩
      · rw [← q]; simp [dcL, hp, hx, e1, e2, e3, e4, e0, hz2, hko, putA_putK, putK_none hno]
      · rw [hd, List.filter_cons_of_pos ekb, List.map_cons, a1]; simp
end K95
end
section
set_option Elab.async false
set_option linter.all false
set_option maxRecDepth 100000
set_option maxHeartbeats 0
namespace K95
open PySem PySem.Spec PyProof.Rows Zk
open L2 (Key)
section
variable {Rl : Type} {rel : Hq → A → Rl → Prop} {g lg c r kn b t : Nat} {kvs : List (Key × A)} {h : Hq} {S : St Rl}
def kbN (h : Hq) (x : Str) (p : Key × A) : Bool := match p.2 with
  | .ref a => match h.get a with
    | some (.ins _ fs) => match fs.lookup 1 with
      | some (.tup (.str rn :: _)) => !(rn == x)
      | _ => false
    | _ => false
  | _ => false
theorem kbN_ok {x : Str} {k : Key} {v : A} {d : Nd} (q : Nx h v d) : kbN h x (k, v) = !(d.rn == x) := by
  obtain ⟨a, rfl, e⟩ := q
  have e : h.get a = some (.ins 1 [(1, .tup [.str d.rn, .tup d.ps]), (2, d.found), (3, .tup d.uses), (4, .int d.seen)]) := e
  simp [kbN, e, List.lookup]
theorem pd_filter {x : Str} : ∀ {kvs : List (Key × A)} {kd : List (Key × Nd)}, Pd (Nx h) kvs kd → Pd (Nx h) (kvs.filter (kbN h x)) (kd.filter fun p => !(p.2.rn == x))
  | _, _, .nil => .nil
  | (k, v) :: l, (_, d) :: m, .cons q t => by
    have e := kbN_ok (x := x) (k := k) q
    cases z : !(d.rn == x) with
    | true => rw [List.filter_cons_of_pos (by rw [e, z]), List.filter_cons_of_pos (by simpa using z)]; exact .cons q (pd_filter t)
    | false => rw [List.filter_cons_of_neg (by rw [e, z]; simp), List.filter_cons_of_neg (by simpa using z)]; exact pd_filter t
theorem pd_keys {β γ : Type} {r : β → γ → Prop} : ∀ {l : List (Key × β)} {m : List (Key × γ)}, Pd r l m → l.map (·.1) = m.map (·.1)
  | _, _, .nil => rfl
  | _, _, .cons _ t => by simp [pd_keys t]
theorem pd_mem {β γ : Type} {r : β → γ → Prop} {k : Key} {v : β} : ∀ {l : List (Key × β)} {m : List (Key × γ)}, Pd r l m → (k, v) ∈ l → ∃ d, (k, d) ∈ m ∧ r v d
  | _, _, .cons (y := y) q t, hm => by
    rcases List.mem_cons.mp hm with e | e
    · cases e; exact ⟨y, .head _, q⟩
    · obtain ⟨d, a, b⟩ := pd_mem t e; exact ⟨d, .tail _ a, b⟩
/-- the dict of the nodes but one rule's -/
theorem known_ok (Φ : Dn) (R : Rx rel g lg c r kn b t kvs h S) {x : Str} (hx : SeqAt.shaped (.str x) = true) (hl : S.known.length < 1000000) (fv : A) :
    ∃ h', eLock (eAttr Φ at_known 12 (eLoc 0)) (eDc (iIs (eAttr Φ at_known 12 (eLoc 0))) (gTupA 2 (gsCons (gNm 3) (gsCons (gNm 4) gsNil))) (tB2 (Zk.e2 oNe (Zk.e2 oIx (eAttr Φ at_node 1 (eLoc 4)) (eCon (.int 0))) (eLoc 1))) (eLoc 3) (eLoc 4) [3, 4] FL) [some (.ref g), some (.str x), some fv, none, none] h = .ok (.ref h.n) h' ∧
      h'.get h.n = some (.dic (kvs.filter (kbN h x))) ∧ Ext (fun _ => False) h h' ∧ Wf h' := by
  have lt := R.lt
  have hk := R.hk
  have z0 : (h.upd kn (.lok kvs)).n = h.n := rfl
  have ng : g ≠ kn := neg R.hg R.hk (fun z => nomatch z)
  obtain ⟨h', q, a1, a2, a3, a4, a5⟩ := dc_list (p := fun i _ => some ((kvs[i]?).map fun p => .tup [keyA p.1, p.2])) (gg := gTupA 2 (gsCons (gNm 3) (gsCons (gNm 4) gsNil))) (c := tB2 (Zk.e2 oNe (Zk.e2 oIx (eAttr Φ at_node 1 (eLoc 4)) (eCon (.int 0))) (eLoc 1))) (ek := eLoc 3) (ev := eLoc 4) (L0 := [some (.ref g), some (.str x), some fv, none, none]) (l0 := h.n) (xs := kvs) (itm := fun p => .tup [keyA p.1, p.2]) (key := fun p => p.1) (val := fun p => p.2) (kb := kbN h x)
    (fun h2 => ∀ a o, a < h.n → a ≠ kn → h.get a = some o → h2.get a = some o) (fun _ _ => rfl) (by rw [R.nd.len]; exact hl) (fun h2 ys hP a o l1 l2 e => by rw [upN _ _ _ (Nat.ne_of_lt l1)]; exact hP a o l1 l2 e) (by rw [show kvs.map (fun p => p.1) = S.known.map (·.1) from pd_keys R.nd]; exact R.kd)
    (fun p hp h2 hP => by
      obtain ⟨k, v⟩ := p
      obtain ⟨d, md, ⟨a, rfl, ea⟩⟩ := pd_mem R.nd hp
      have e2 := hP a _ (R.wf _ _ ea) (neg ea R.hk (fun z => nomatch z)) ea
      have e2 : h2.get a = some (.ins 1 [(1, .tup [.str d.rn, .tup d.ps]), (2, d.found), (3, .tup d.uses), (4, .int d.seen)]) := e2
      have sh := (R.us _ md).2.2
      refine ⟨.nx, [some (.ref g), some (.str x), some fv, some (keyA k), some (.ref a)], by simp [callF, callC, bdKw, bdStar, bdOr, runF, outF, slots0, sSeq, sNil, sRet, sRetN, sExp, sAsg, sIf, sSetA, sSetI, sAugA, sAugI, sPar, setAll, RS.ofE, RS.ofA, eAttr, eLoc, eCon, Res.bind, getA, aNil, aCons, aStar, eTup, eLst, eMeth, methA, kOf, kLone, kKw, eCallF, eCallL, callV, isFn, eMake, makeA, Zk.e2, orE, orG, eCB, Zk.g1, Zk.g2, tOfE, tNot, tAnd, tOr, tB2, isB, truth, eIf, eNot, eAnd, eOr, seqOf, gNm, gTupA, gsCons, gsNil, Zk.putAt, putN, setAt, keyOf, eD0, eIsi, isiA, tagOf, oIs, List.lookup, eTupV, eBM, tyA, oIx, oIxM, oIxS, oIxD, oIxL, oIxT, L2.atI, L2.ixN, lstOf, oAddI, oSub, iOp, iOpC, oInO, oIn, oInK, oInS, oInF, oInD, lenO, lenD, lenA, List.all_cons, List.all_nil, List.map_cons, List.map_nil, List.length_cons, List.length_nil], ?_, fun _ => ⟨by simp [callF, callC, bdKw, bdStar, bdOr, runF, outF, slots0, sSeq, sNil, sRet, sRetN, sExp, sAsg, sIf, sSetA, sSetI, sAugA, sAugI, sPar, setAll, RS.ofE, RS.ofA, eAttr, eLoc, eCon, Res.bind, getA, aNil, aCons, aStar, eTup, eLst, eMeth, methA, kOf, kLone, kKw, eCallF, eCallL, callV, isFn, eMake, makeA, Zk.e2, orE, orG, eCB, Zk.g1, Zk.g2, tOfE, tNot, tAnd, tOr, tB2, isB, truth, eIf, eNot, eAnd, eOr, seqOf, gNm, gTupA, gsCons, gsNil, Zk.putAt, putN, setAt, keyOf, eD0, eIsi, isiA, tagOf, oIs, List.lookup, eTupV, eBM, tyA, oIx, oIxM, oIxS, oIxD, oIxL, oIxT, L2.atI, L2.ixN, lstOf, oAddI, oSub, iOp, iOpC, oInO, oIn, oInK, oInS, oInF, oInD, lenO, lenD, lenA, List.all_cons, List.all_nil, List.map_cons, List.map_nil, List.length_cons, List.length_nil], by simp [callF, callC, bdKw, bdStar, bdOr, runF, outF, slots0, sSeq, sNil, sRet, sRetN, sExp, sAsg, sIf, sSetA, sSetI, sAugA, sAugI, sPar, setAll, RS.ofE, RS.ofA, eAttr, eLoc, eCon, Res.bind, getA, aNil, aCons, aStar, eTup, eLst, eMeth, methA, kOf, kLone, kKw, eCallF, eCallL, callV, isFn, eMake, makeA, Zk.e2, orE, orG, eCB, Zk.g1, Zk.g2, tOfE, tNot, tAnd, tOr, tB2, isB, truth, eIf, eNot, eAnd, eOr, seqOf, gNm, gTupA, gsCons, gsNil, Zk.putAt, putN, setAt, keyOf, eD0, eIsi, isiA, tagOf, oIs, List.lookup, eTupV, eBM, tyA, oIx, oIxM, oIxS, oIxD, oIxL, oIxT, L2.atI, L2.ixN, lstOf, oAddI, oSub, iOp, iOpC, oInO, oIn, oInK, oInS, oInF, oInD, lenO, lenD, lenA, List.all_cons, List.all_nil, List.map_cons, List.map_nil, List.length_cons, List.length_nil]⟩⟩
      rw [kbN_ok ⟨a, rfl, ea⟩]
      simp [callF, callC, bdKw, bdStar, bdOr, runF, outF, slots0, sSeq, sNil, sRet, sRetN, sExp, sAsg, sIf, sSetA, sSetI, sAugA, sAugI, sPar, setAll, RS.ofE, RS.ofA, eAttr, eLoc, eCon, Res.bind, getA, aNil, aCons, aStar, eTup, eLst, eMeth, methA, kOf, kLone, kKw, eCallF, eCallL, callV, isFn, eMake, makeA, Zk.e2, orE, orG, eCB, Zk.g1, Zk.g2, tOfE, tNot, tAnd, tOr, tB2, isB, truth, eIf, eNot, eAnd, eOr, seqOf, gNm, gTupA, gsCons, gsNil, Zk.putAt, putN, setAt, keyOf, eD0, eIsi, isiA, tagOf, oIs, List.lookup, eTupV, eBM, tyA, oIx, oIxM, oIxS, oIxD, oIxL, oIxT, L2.atI, L2.ixN, lstOf, oAddI, oSub, iOp, iOpC, oInO, oIn, oInK, oInS, oInF, oInD, lenO, lenD, lenA, List.all_cons, List.all_nil, List.map_cons, List.map_nil, List.length_cons, List.length_nil, at_node, e2, oNe, oEqB, A.dat, FU, sh, hx, PyData.eqv])
    kvs.length FL 0 ((h.upd kn (.lok kvs)).new (.dic [])) [] rfl (by rw [R.nd.len]; unfold FL; omega) (Nat.zero_le _) (by show h.n < h.n + 1; omega) (Nat.zero_le _) (fun _ _ => rfl) (fun a o l1 l2 e => by rw [nwL _ _ (show a < (h.upd kn (.lok kvs)).n from l1), upN _ _ _ l2]; exact e) (nwS (h.upd kn (.lok kvs)) _)
  have a1 : h'.get h.n = some (.dic (kvs.filter (kbN h x))) := by simpa using a1
  have ek : h'.get kn = some (.lok kvs) := by
    rw [a2.same kn (by show kn < h.n + 1; omega) (by omega), nwL _ _ (show kn < (h.upd kn (.lok kvs)).n from lt.2.2.2.1)]
    exact upS _ _ _
  refine ⟨h'.upd kn (.dic kvs), ?_, by rw [upN _ _ _ (show h.n ≠ kn by omega)]; exact a1, ⟨by show h.n ≤ h'.n; rw [a5]; exact Nat.le_succ _, fun l hl _ => ?_⟩, (a3 ((R.wf.upd _ lt.2.2.2.1).new _)).upd _ (by rw [a5]; show kn < h.n + 1; omega)⟩
  · unfold eLock
    have e1 : eAttr Φ at_known 12 (eLoc 0) [some (.ref g), some (.str x), some fv, none, none] h = .ok (.ref kn) h := by simp [callF, callC, bdKw, bdStar, bdOr, runF, outF, slots0, sSeq, sNil, sRet, sRetN, sExp, sAsg, sIf, sSetA, sSetI, sAugA, sAugI, sPar, setAll, RS.ofE, RS.ofA, eAttr, eLoc, eCon, Res.bind, getA, aNil, aCons, aStar, eTup, eLst, eMeth, methA, kOf, kLone, kKw, eCallF, eCallL, callV, isFn, eMake, makeA, Zk.e2, orE, orG, eCB, Zk.g1, Zk.g2, tOfE, tNot, tAnd, tOr, tB2, isB, truth, eIf, eNot, eAnd, eOr, seqOf, gNm, gTupA, gsCons, gsNil, Zk.putAt, putN, setAt, keyOf, eD0, eIsi, isiA, tagOf, oIs, List.lookup, eTupV, eBM, tyA, oIx, oIxM, oIxS, oIxD, oIxL, oIxT, L2.atI, L2.ixN, lstOf, oAddI, oSub, iOp, iOpC, oInO, oIn, oInK, oInS, oInF, oInD, lenO, lenD, lenA, List.all_cons, List.all_nil, List.map_cons, List.map_nil, List.length_cons, List.length_nil, at_known, R.hg]
    have e2 : eAttr Φ at_known 12 (eLoc 0) [some (.ref g), some (.str x), some fv, none, none] (h.upd kn (.lok kvs)) = .ok (.ref kn) (h.upd kn (.lok kvs)) := by simp [callF, callC, bdKw, bdStar, bdOr, runF, outF, slots0, sSeq, sNil, sRet, sRetN, sExp, sAsg, sIf, sSetA, sSetI, sAugA, sAugI, sPar, setAll, RS.ofE, RS.ofA, eAttr, eLoc, eCon, Res.bind, getA, aNil, aCons, aStar, eTup, eLst, eMeth, methA, kOf, kLone, kKw, eCallF, eCallL, callV, isFn, eMake, makeA, Zk.e2, orE, orG, eCB, Zk.g1, Zk.g2, tOfE, tNot, tAnd, tOr, tB2, isB, truth, eIf, eNot, eAnd, eOr, seqOf, gNm, gTupA, gsCons, gsNil, Zk.putAt, putN, setAt, keyOf, eD0, eIsi, isiA, tagOf, oIs, List.lookup, eTupV, eBM, tyA, oIx, oIxM, oIxS, oIxD, oIxL, oIxT, L2.atI, L2.ixN, lstOf, oAddI, oSub, iOp, iOpC, oInO, oIn, oInK, oInS, oInF, oInD, lenO, lenD, lenA, List.all_cons, List.all_nil, List.map_cons, List.map_nil, List.length_cons, List.length_nil, at_known, upN _ _ _ ng, R.hg]
    rw [e1]
    simp only [hk]
    have e3 : iIs (eAttr Φ at_known 12 (eLoc 0)) [some (.ref g), some (.str x), some fv, none, none] (h.upd kn (.lok kvs)) = .ok (fun i _ => some ((kvs[i]?).map fun p => .tup [keyA p.1, p.2])) (h.upd kn (.lok kvs)) := by
      unfold iIs iLok
      rw [e2]
      simp [Res.bind, upS]
    have e4 : eDc (iIs (eAttr Φ at_known 12 (eLoc 0))) (gTupA 2 (gsCons (gNm 3) (gsCons (gNm 4) gsNil))) (tB2 (Zk.e2 oNe (Zk.e2 oIx (eAttr Φ at_node 1 (eLoc 4)) (eCon (.int 0))) (eLoc 1))) (eLoc 3) (eLoc 4) [3, 4] FL [some (.ref g), some (.str x), some fv, none, none] (h.upd kn (.lok kvs)) = .ok (.ref h.n) h' := by
      unfold eDc
      rw [e3]
      have ew : wipeL [some (.ref g), some (.str x), some fv, none, none] [3, 4] = [some (.ref g), some (.str x), some fv, none, none] := rfl
      simp only [Res.bind, ew, z0]
      rw [q]
    rw [e4]
    simp [ek]
  · by_cases e : l = kn
    · subst e; rw [upS]; exact R.hk.symm
    · rw [upN _ _ _ e, a2.same l (by show l < h.n + 1; omega) (by omega), nwL _ _ (show l < (h.upd kn (.lok kvs)).n from hl), upN _ _ _ e]
end
end K95
end
section
set_option Elab.async false
set_option linter.all false
set_option maxRecDepth 100000
set_option maxHeartbeats 0
namespace K95
open PySem PySem.Spec PyProof.Rows Zk
open L2 (Key)
section
variable {Rl : Type} {rel : Hq → A → Rl → Prop} {g lg c r kn b t : Nat} {kvs : List (Key × A)} {h : Hq} {S : St Rl}
def ruleS (S : St Rl) (x : Str) (ρ : Rl) : St Rl := { S with rules := putK S.rules (.inr x) ρ, known := S.known.filter fun p => !(p.2.rn == x), rev := S.rev + 1 }
theorem rule_kw (Φ : Dn) (a u v : A) (h : Hq) : D_11 Φ [a] [(17, u), (18, v)] h = D_11 Φ [a, u, v] [] h := rfl
theorem rule_ok (K : RelOk rel) (n : Nat) (R : Rx rel g lg c r kn b t kvs h S) (hb : S.busy = []) {x : Str} {fv : A} {ρ : Rl} (hx : nameOk x = true) (hsh : SeqAt.shaped (.str x) = true) (hrel : rel h fv ρ) (hl : S.known.length < 100000) (hr : S.rules.length < 100000) :
    ∃ h' kn' kvs', Q (n + 3) (.fn 11) [.ref g, .str x, fv] [] h = .ok .non h' ∧ Rx rel g lg c r kn' b t kvs' h' (ruleS S x ρ) ∧ Ext (fun l => l = g ∨ l = r) h h' ∧ (∀ l, Ow g lg kn' t kvs' l → Ow g lg kn t kvs l ∨ h.n ≤ l) := by
  obtain ⟨h1, q1, x1, w1⟩ := reqname_ok n R.wf g hx
  have R0 := R.grow K w1 x1
  have R1 := R0.new K (.lst [])
  have hb1 : (h1.new (.lst [])).get b = some (.lst []) := by have := R1.hb; rw [hb] at this; exact this
  have hn1 : (h1.new (.lst [])).get h1.n = some (.lst []) := nwS _ _
  obtain ⟨rl, er, pr⟩ := R1.hr
  -- the rules
  have nrg : g ≠ r := neg R1.hg er (fun z => nomatch z)
  have lt1 := R1.lt
  have R2 : Rx rel g lg c r kn b t kvs ((h1.new (.lst [])).upd r (.dic (putA rl (.inr x) fv))) { S with rules := putK S.rules (.inr x) ρ } := by
    have k : ∀ {l o}, (h1.new (.lst [])).get l = some o → l ≠ r → ((h1.new (.lst [])).upd r (.dic (putA rl (.inr x) fv))).get l = some o := fun {l o} e n => by rw [upN _ _ _ n]; exact e
    have rr : ∀ a ρ, rel (h1.new (.lst [])) a ρ → rel ((h1.new (.lst [])).upd r (.dic (putA rl (.inr x) fv))) a ρ := fun a ρ q => K.st _ _ _ _ q fun j y ej => k ej (neg ej er (fun z => nomatch z))
    exact ⟨R1.wf.upd _ lt1.2.2.1, k R1.hg nrg, k R1.hc R.cr, ⟨putA rl (.inr x) fv, upS _ _ _, by rw [putA_putK]; exact (pr.imp fun _ _ _ _ _ q => rr _ _ q).put (rr _ _ (K.st _ _ _ _ hrel fun j y ej => (R.grow K w1 x1 |>.new K (.lst [])) |> fun _ => by rw [nwL _ _ (Nat.lt_of_lt_of_le (R.wf _ _ ej) x1.le)]; exact x1.get R.wf ej id))⟩, k R1.hk R.kr, k R1.hb (neg R1.hb er (fun z => nomatch z)), k R1.ht (neg R1.ht er (fun z => nomatch z)), k R1.hl (neg R1.hl er (fun z => nomatch z)), R1.nd.imp fun _ _ d _ _ ⟨a, e1, e2⟩ => ⟨a, e1, k e2 (neg e2 er (fun z => nomatch z))⟩, R.un, R.kc, R.kr, R.cr, R.tl, R.tb, R.lb, R.us, R.kd, R.cp⟩
  obtain ⟨h3, q3, e3, x3, w3⟩ := known_ok (Q (n + 2)) R2 hsh (by exact Nat.lt_trans hl (by decide)) fv
  have R3 := R2.grow K w3 x3
  have hn2 : ((h1.new (.lst [])).upd r (.dic (putA rl (.inr x) fv))).n = h1.n + 1 := rfl
  rw [hn2] at q3 e3
  have lt3 := R3.lt
  have ge3 : h1.n + 1 < h3.n := w3 _ _ e3
  have ltr := lt1.2.2.1
  have lt2 := R2.lt
  have R4 : Rx rel g lg c r (h1.n + 1) b t (kvs.filter (kbN ((h1.new (.lst [])).upd r (.dic (putA rl (.inr x) fv))) x)) (h3.upd g (GO c r (h1.n + 1) b t S.rev)) { S with rules := putK S.rules (.inr x) ρ, known := S.known.filter fun p => !(p.2.rn == x) } := by
    obtain ⟨rl3, er3, pr3⟩ := R3.hr
    have k : ∀ {l o}, h3.get l = some o → l ≠ g → (h3.upd g (GO c r (h1.n + 1) b t S.rev)).get l = some o := fun {l o} e n => by rw [upN _ _ _ n]; exact e
    have gg : ∀ {l : Nat} {o : Ob}, h3.get l = some o → (∀ y, o ≠ .ins 3 y) → l ≠ g := fun e n => neg e R3.hg (n _)
    have l2 : ∀ {l}, l < h1.n + 1 → l ≠ h1.n + 1 := fun z => by omega
    exact ⟨R3.wf.upd _ lt3.1, upS _ _ _, k R3.hc (gg R3.hc fun y z => nomatch z), ⟨rl3, k er3 (gg er3 fun y z => nomatch z), pr3.imp fun _ _ _ _ _ q => K.st _ _ _ _ q fun j y ej => k ej (gg ej fun y z => nomatch z)⟩, k e3 (gg e3 fun y z => nomatch z), k R3.hb (gg R3.hb fun y z => nomatch z), k R3.ht (gg R3.ht fun y z => nomatch z), k R3.hl (gg R3.hl fun y z => nomatch z),
      (pd_filter (x := x) R2.nd).imp fun _ _ d _ _ ⟨a, e1, e2⟩ => ⟨a, e1, k (x3.get R2.wf e2 id) (gg (x3.get R2.wf e2 id) fun y z => by cases z)⟩, (List.Sublist.map _ List.filter_sublist).nodup R.un, (l2 lt2.2.1).symm, (l2 lt2.2.2.1).symm, R.cr, R.tl, R.tb, R.lb, fun p hp => R.us p (List.mem_filter.mp hp).1, (List.Sublist.map _ List.filter_sublist).nodup R.kd, R.cp⟩
  have R5 : Rx rel g lg c r (h1.n + 1) b t (kvs.filter (kbN ((h1.new (.lst [])).upd r (.dic (putA rl (.inr x) fv))) x)) ((h3.upd g (GO c r (h1.n + 1) b t S.rev)).upd g (GO c r (h1.n + 1) b t (S.rev + 1))) (ruleS S x ρ) := by
    obtain ⟨rl3, er3, pr3⟩ := R4.hr
    have k : ∀ {l o}, (h3.upd g (GO c r (h1.n + 1) b t S.rev)).get l = some o → l ≠ g → ((h3.upd g (GO c r (h1.n + 1) b t S.rev)).upd g (GO c r (h1.n + 1) b t (S.rev + 1))).get l = some o := fun {l o} e n => by rw [upN _ _ _ n]; exact e
    have gg : ∀ {l : Nat} {o : Ob}, (h3.upd g (GO c r (h1.n + 1) b t S.rev)).get l = some o → (∀ y, o ≠ .ins 3 y) → l ≠ g := fun e n => neg e R4.hg (n _)
    exact ⟨R4.wf.upd _ R4.lt.1, upS _ _ _, k R4.hc (gg R4.hc fun y z => nomatch z), ⟨rl3, k er3 (gg er3 fun y z => nomatch z), pr3.imp fun _ _ _ _ _ q => K.st _ _ _ _ q fun j y ej => k ej (gg ej fun y z => nomatch z)⟩, k R4.hk (gg R4.hk fun y z => nomatch z), k R4.hb (gg R4.hb fun y z => nomatch z), k R4.ht (gg R4.ht fun y z => nomatch z), k R4.hl (gg R4.hl fun y z => nomatch z), R4.nd.imp fun _ _ d _ _ ⟨a, e1, e2⟩ => ⟨a, e1, k e2 (gg e2 fun y z => by cases z)⟩, R4.un, R4.kc, R4.kr, R4.cr, R4.tl, R4.tb, R4.lb, R4.us, R4.kd, R4.cp⟩
  refine ⟨_, _, _, ?_, R5, ⟨?_, fun l hl no => ?_⟩, fun l o => ?_⟩
  · show D_11 (Q (n + 2)) [.ref g, .str x, fv] [] h = _
    have hg1 := R1.hg
    have hg3 := R3.hg
    have hlr : rl.length < 16777216 := by rw [pr.len]; omega
    have hg2 := R2.hg
    simp only [D_11, callF, bdOr, bdKw, runF, slots0]
    simp [sSeq, sExp, eMeth, methA, tb_require_name, eLoc, Res.bind, R.hg, kOf, aCons, aNil, q1, RS.ofE, sIf, tB2, isB, Zk.e2, eAttr, getA, at_busy, at_rules, R0.hg, eLst, SZ, oNe, oEqB, A.dat, A.dats, FU, hb1, hn1, PyData.eqv, PyData.eqvAll, show SeqAt.shaped (.list []) = true from by decide +kernel, sNil, sSetI, hg1, Zk.setAt, er, keyOf, hlr, sSetA, List.lookup]
    simp only [oNe] at q3
    rw [q3]
    simp [Zk.putAt, hg3, okc_known, putN, sAugA, eLoc, RS.ofE, getA, upS, okc_own_revision, List.lookup, eCon, oAddI, iOp, outF]
  · show h.n ≤ h3.n
    have := x1.le; omega
  · have l1 : l < h1.n := Nat.lt_of_lt_of_le hl x1.le
    rw [upN _ _ _ fun z => no (.inl z), upN _ _ _ fun z => no (.inl z), x3.same l (show l < h1.n + 1 by omega) id, upN _ _ _ fun z => no (.inr z), nwL _ _ l1, x1.same l hl id]
  · rcases o with e | e | e | e | e
    · exact .inl (.inl e)
    · exact .inr (by have := x1.le; omega)
    · exact .inl (.inr (.inr (.inl e)))
    · exact .inl (.inr (.inr (.inr (.inl e))))
    · obtain ⟨p, hp, ep⟩ := List.mem_map.mp e
      exact .inl (.inr (.inr (.inr (.inr (List.mem_map.mpr ⟨p, (List.mem_filter.mp hp).1, ep⟩)))))
end
end K95
end
section
set_option Elab.async false
set_option linter.all false
set_option maxRecDepth 100000
set_option maxHeartbeats 0
namespace K95
open PySem PySem.Spec PyProof.Rows Zk
open L2 (Key)
section
variable {Rl : Type} {rel : Hq → A → Rl → Prop} {g lg c r kn b t : Nat} {kvs : List (Key × A)} {h : Hq} {S : St Rl}
theorem revision_ok (n : Nat) (R : Rx rel g lg c r kn b t kvs h S) : Q (n + 1) (.fn 25) [.ref g] [] h = .ok (.int S.rev) h := by
  show D_25 (Q n) [.ref g] [] h = _
  simp [D_25, callF, callC, bdKw, bdStar, bdOr, runF, outF, slots0, sSeq, sNil, sRet, sRetN, sExp, sAsg, sIf, sSetA, sSetI, sAugA, sAugI, sPar, setAll, RS.ofE, RS.ofA, eAttr, eLoc, eCon, Res.bind, getA, aNil, aCons, aStar, eTup, eLst, eMeth, methA, kOf, kLone, kKw, eCallF, eCallL, callV, isFn, eMake, makeA, Zk.e2, orE, orG, eCB, Zk.g1, Zk.g2, tOfE, tNot, tAnd, tOr, tB2, isB, truth, eIf, eNot, eAnd, eOr, seqOf, gNm, gTupA, gsCons, gsNil, Zk.putAt, putN, setAt, keyOf, eD0, eIsi, isiA, tagOf, oIs, List.lookup, eTupV, eBM, tyA, oIx, oIxM, oIxS, oIxD, oIxL, oIxT, L2.atI, L2.ixN, lstOf, oAddI, oSub, iOp, iOpC, oInO, oIn, oInK, oInS, oInF, oInD, lenO, lenD, lenA, List.all_cons, List.all_nil, List.map_cons, List.map_nil, List.length_cons, List.length_nil, R.hg, at_own_revision]
theorem len_ok (n : Nat) (R : Rx rel g lg c r kn b t kvs h S) : Q (n + 1) (.fn 13) [.ref g] [] h = .ok (.int S.known.length) h := by
  show D_13 (Q n) [.ref g] [] h = _
  simp [D_13, callF, callC, bdKw, bdStar, bdOr, runF, outF, slots0, sSeq, sNil, sRet, sRetN, sExp, sAsg, sIf, sSetA, sSetI, sAugA, sAugI, sPar, setAll, RS.ofE, RS.ofA, eAttr, eLoc, eCon, Res.bind, getA, aNil, aCons, aStar, eTup, eLst, eMeth, methA, kOf, kLone, kKw, eCallF, eCallL, callV, isFn, eMake, makeA, Zk.e2, orE, orG, eCB, Zk.g1, Zk.g2, tOfE, tNot, tAnd, tOr, tB2, isB, truth, eIf, eNot, eAnd, eOr, seqOf, gNm, gTupA, gsCons, gsNil, Zk.putAt, putN, setAt, keyOf, eD0, eIsi, isiA, tagOf, oIs, List.lookup, eTupV, eBM, tyA, oIx, oIxM, oIxS, oIxD, oIxL, oIxT, L2.atI, L2.ixN, lstOf, oAddI, oSub, iOp, iOpC, oInO, oIn, oInK, oInS, oInF, oInD, lenO, lenD, lenA, List.all_cons, List.all_nil, List.map_cons, List.map_nil, List.length_cons, List.length_nil, R.hg, at_known, R.hk, R.nd.len]
/-- what stands under a node's text -/
def atK (S : St Rl) (rn : Str) (ps : List A) : Option Nd := match reprP (.tup [.str rn, .tup ps]) with
  | some tx => findK S.known (.inr tx)
  | none => none
theorem own_ok (n : Nat) (R : Rx rel g lg c r kn b t kvs h S) {rn : Str} {ps : List A} {tx : Str} (h1 : (findK S.rules (.inr rn)).isSome = true) (h2 : ps.all flatS = true) (h3 : ps.length < 100) (ht : reprP (.tup [.str rn, .tup ps]) = some tx) :
    ∃ v, Q (n + 3) (.fn 21) [.ref g, .str rn, .tup ps] [] h = .ok v h ∧ ((findK S.known (.inr tx) = none ∧ v = .non) ∨ ∃ d a, findK S.known (.inr tx) = some d ∧ v = .ref a ∧ h.get a = some d.ob) := by
  have qt := text_ok n R h1 h2 h3 ht
  rcases R.nd.find (k := .inr tx) with ⟨ek, ed⟩ | ⟨x, d, ek, ed, ⟨a, rfl, ha⟩, mk, md⟩
  · refine ⟨.non, ?_, .inl ⟨ed, rfl⟩⟩
    show D_21 (Q (n + 2)) [.ref g, .str rn, .tup ps] [] h = _
    simp [D_21, callF, callC, bdKw, bdStar, bdOr, runF, outF, slots0, sSeq, sNil, sRet, sRetN, sExp, sAsg, sIf, sSetA, sSetI, sAugA, sAugI, sPar, setAll, RS.ofE, RS.ofA, eAttr, eLoc, eCon, Res.bind, getA, aNil, aCons, aStar, eTup, eLst, eMeth, methA, kOf, kLone, kKw, eCallF, eCallL, callV, isFn, eMake, makeA, Zk.e2, orE, orG, eCB, Zk.g1, Zk.g2, tOfE, tNot, tAnd, tOr, tB2, isB, truth, eIf, eNot, eAnd, eOr, seqOf, gNm, gTupA, gsCons, gsNil, Zk.putAt, putN, setAt, keyOf, eD0, eIsi, isiA, tagOf, oIs, List.lookup, eTupV, eBM, tyA, oIx, oIxM, oIxS, oIxD, oIxL, oIxT, L2.atI, L2.ixN, lstOf, oAddI, oSub, iOp, iOpC, oInO, oIn, oInK, oInS, oInF, oInD, lenO, lenD, lenA, List.all_cons, List.all_nil, List.map_cons, List.map_nil, List.length_cons, List.length_nil, R.hg, at_known, R.hk, tb_text_of, qt, gGet, valA_findK, ek]
  · refine ⟨.ref a, ?_, .inr ⟨d, a, ed, rfl, ha⟩⟩
    show D_21 (Q (n + 2)) [.ref g, .str rn, .tup ps] [] h = _
    simp [D_21, callF, callC, bdKw, bdStar, bdOr, runF, outF, slots0, sSeq, sNil, sRet, sRetN, sExp, sAsg, sIf, sSetA, sSetI, sAugA, sAugI, sPar, setAll, RS.ofE, RS.ofA, eAttr, eLoc, eCon, Res.bind, getA, aNil, aCons, aStar, eTup, eLst, eMeth, methA, kOf, kLone, kKw, eCallF, eCallL, callV, isFn, eMake, makeA, Zk.e2, orE, orG, eCB, Zk.g1, Zk.g2, tOfE, tNot, tAnd, tOr, tB2, isB, truth, eIf, eNot, eAnd, eOr, seqOf, gNm, gTupA, gsCons, gsNil, Zk.putAt, putN, setAt, keyOf, eD0, eIsi, isiA, tagOf, oIs, List.lookup, eTupV, eBM, tyA, oIx, oIxM, oIxS, oIxD, oIxL, oIxT, L2.atI, L2.ixN, lstOf, oAddI, oSub, iOp, iOpC, oInO, oIn, oInK, oInS, oInF, oInD, lenO, lenD, lenA, List.all_cons, List.all_nil, List.map_cons, List.map_nil, List.length_cons, List.length_nil, R.hg, at_known, R.hk, tb_text_of, qt, gGet, valA_findK, ek]
theorem uses_ok (n : Nat) (R : Rx rel g lg c r kn b t kvs h S) {rn : Str} {ps : List A} {tx : Str} (h1 : (findK S.rules (.inr rn)).isSome = true) (h2 : ps.all flatS = true) (h3 : ps.length < 100) (ht : reprP (.tup [.str rn, .tup ps]) = some tx) :
    Q (n + 4) (.fn 22) (.ref g :: .str rn :: ps) [] h = .ok (match findK S.known (.inr tx) with | some d => .tup d.uses | none => .non) h := by
  obtain ⟨v, q, e⟩ := own_ok n R h1 h2 h3 ht
  show D_22 (Q (n + 3)) (.ref g :: .str rn :: ps) [] h = _
  have z : ps.length + 2 ≤ 16777216 := by omega
  rcases e with ⟨e1, rfl⟩ | ⟨d, a, e1, rfl, e2⟩
  · rw [e1]; simp [D_22, callF, callC, bdKw, bdStar, bdOr, runF, outF, slots0, sSeq, sNil, sRet, sRetN, sExp, sAsg, sIf, sSetA, sSetI, sAugA, sAugI, sPar, setAll, RS.ofE, RS.ofA, eAttr, eLoc, eCon, Res.bind, getA, aNil, aCons, aStar, eTup, eLst, eMeth, methA, kOf, kLone, kKw, eCallF, eCallL, callV, isFn, eMake, makeA, Zk.e2, orE, orG, eCB, Zk.g1, Zk.g2, tOfE, tNot, tAnd, tOr, tB2, isB, truth, eIf, eNot, eAnd, eOr, seqOf, gNm, gTupA, gsCons, gsNil, Zk.putAt, putN, setAt, keyOf, eD0, eIsi, isiA, tagOf, oIs, List.lookup, eTupV, eBM, tyA, oIx, oIxM, oIxS, oIxD, oIxL, oIxT, L2.atI, L2.ixN, lstOf, oAddI, oSub, iOp, iOpC, oInO, oIn, oInK, oInS, oInF, oInD, lenO, lenD, lenA, List.all_cons, List.all_nil, List.map_cons, List.map_nil, List.length_cons, List.length_nil, SZ, z, tb_own_node, R.hg, q]
  · have e2 : h.get a = some (.ins 1 [(1, .tup [.str d.rn, .tup d.ps]), (2, d.found), (3, .tup d.uses), (4, .int d.seen)]) := e2
    rw [e1]; simp [D_22, callF, callC, bdKw, bdStar, bdOr, runF, outF, slots0, sSeq, sNil, sRet, sRetN, sExp, sAsg, sIf, sSetA, sSetI, sAugA, sAugI, sPar, setAll, RS.ofE, RS.ofA, eAttr, eLoc, eCon, Res.bind, getA, aNil, aCons, aStar, eTup, eLst, eMeth, methA, kOf, kLone, kKw, eCallF, eCallL, callV, isFn, eMake, makeA, Zk.e2, orE, orG, eCB, Zk.g1, Zk.g2, tOfE, tNot, tAnd, tOr, tB2, isB, truth, eIf, eNot, eAnd, eOr, seqOf, gNm, gTupA, gsCons, gsNil, Zk.putAt, putN, setAt, keyOf, eD0, eIsi, isiA, tagOf, oIs, List.lookup, eTupV, eBM, tyA, oIx, oIxM, oIxS, oIxD, oIxL, oIxT, L2.atI, L2.ixN, lstOf, oAddI, oSub, iOp, iOpC, oInO, oIn, oInK, oInS, oInF, oInD, lenO, lenD, lenA, List.all_cons, List.all_nil, List.map_cons, List.map_nil, List.length_cons, List.length_nil, SZ, z, tb_own_node, R.hg, q, at_uses_read, e2]
theorem iscur_ok (n : Nat) (R : Rx rel g lg c r kn b t kvs h S) {rn : Str} {ps : List A} {tx : Str} (h1 : (findK S.rules (.inr rn)).isSome = true) (h2 : ps.all flatS = true) (h3 : ps.length < 100) (ht : reprP (.tup [.str rn, .tup ps]) = some tx) :
    Q (n + 4) (.fn 23) (.ref g :: .str rn :: ps) [] h = .ok (.bl (curr S tx).isSome) h := by
  obtain ⟨v, q, e⟩ := own_ok n R h1 h2 h3 ht
  show D_23 (Q (n + 3)) (.ref g :: .str rn :: ps) [] h = _
  have z : ps.length + 2 ≤ 16777216 := by omega
  unfold curr
  rcases e with ⟨e1, rfl⟩ | ⟨d, a, e1, rfl, e2⟩
  · rw [e1]; simp [D_23, callF, callC, bdKw, bdStar, bdOr, runF, outF, slots0, sSeq, sNil, sRet, sRetN, sExp, sAsg, sIf, sSetA, sSetI, sAugA, sAugI, sPar, setAll, RS.ofE, RS.ofA, eAttr, eLoc, eCon, Res.bind, getA, aNil, aCons, aStar, eTup, eLst, eMeth, methA, kOf, kLone, kKw, eCallF, eCallL, callV, isFn, eMake, makeA, Zk.e2, orE, orG, eCB, Zk.g1, Zk.g2, tOfE, tNot, tAnd, tOr, tB2, isB, truth, eIf, eNot, eAnd, eOr, seqOf, gNm, gTupA, gsCons, gsNil, Zk.putAt, putN, setAt, keyOf, eD0, eIsi, isiA, tagOf, oIs, List.lookup, eTupV, eBM, tyA, oIx, oIxM, oIxS, oIxD, oIxL, oIxT, L2.atI, L2.ixN, lstOf, oAddI, oSub, iOp, iOpC, oInO, oIn, oInK, oInS, oInF, oInD, lenO, lenD, lenA, List.all_cons, List.all_nil, List.map_cons, List.map_nil, List.length_cons, List.length_nil, SZ, z, tb_own_node, R.hg, q]
  · have e2 : h.get a = some (.ins 1 [(1, .tup [.str d.rn, .tup d.ps]), (2, d.found), (3, .tup d.uses), (4, .int d.seen)]) := e2
    rw [e1]
    by_cases hs : d.seen = S.rev
    · simp [D_23, callF, callC, bdKw, bdStar, bdOr, runF, outF, slots0, sSeq, sNil, sRet, sRetN, sExp, sAsg, sIf, sSetA, sSetI, sAugA, sAugI, sPar, setAll, RS.ofE, RS.ofA, eAttr, eLoc, eCon, Res.bind, getA, aNil, aCons, aStar, eTup, eLst, eMeth, methA, kOf, kLone, kKw, eCallF, eCallL, callV, isFn, eMake, makeA, Zk.e2, orE, orG, eCB, Zk.g1, Zk.g2, tOfE, tNot, tAnd, tOr, tB2, isB, truth, eIf, eNot, eAnd, eOr, seqOf, gNm, gTupA, gsCons, gsNil, Zk.putAt, putN, setAt, keyOf, eD0, eIsi, isiA, tagOf, oIs, List.lookup, eTupV, eBM, tyA, oIx, oIxM, oIxS, oIxD, oIxL, oIxT, L2.atI, L2.ixN, lstOf, oAddI, oSub, iOp, iOpC, oInO, oIn, oInK, oInS, oInF, oInD, lenO, lenD, lenA, List.all_cons, List.all_nil, List.map_cons, List.map_nil, List.length_cons, List.length_nil, SZ, z, tb_own_node, R.hg, q, at_revision_seen, at_own_revision, e2, oEq, oEqB, A.dat, FU, shI, PyData.eqv, hs]
    · have hs2 : (d.seen == S.rev) = false := beq_eq_false_iff_ne.mpr hs
      simp [D_23, callF, callC, bdKw, bdStar, bdOr, runF, outF, slots0, sSeq, sNil, sRet, sRetN, sExp, sAsg, sIf, sSetA, sSetI, sAugA, sAugI, sPar, setAll, RS.ofE, RS.ofA, eAttr, eLoc, eCon, Res.bind, getA, aNil, aCons, aStar, eTup, eLst, eMeth, methA, kOf, kLone, kKw, eCallF, eCallL, callV, isFn, eMake, makeA, Zk.e2, orE, orG, eCB, Zk.g1, Zk.g2, tOfE, tNot, tAnd, tOr, tB2, isB, truth, eIf, eNot, eAnd, eOr, seqOf, gNm, gTupA, gsCons, gsNil, Zk.putAt, putN, setAt, keyOf, eD0, eIsi, isiA, tagOf, oIs, List.lookup, eTupV, eBM, tyA, oIx, oIxM, oIxS, oIxD, oIxL, oIxT, L2.atI, L2.ixN, lstOf, oAddI, oSub, iOp, iOpC, oInO, oIn, oInK, oInS, oInF, oInD, lenO, lenD, lenA, List.all_cons, List.all_nil, List.map_cons, List.map_nil, List.length_cons, List.length_nil, SZ, z, tb_own_node, R.hg, q, at_revision_seen, at_own_revision, e2, oEq, oEqB, A.dat, FU, shI, PyData.eqv, hs, hs2]
theorem forget_ok (K : RelOk rel) (n : Nat) (R : Rx rel g lg c r kn b t kvs h S) (hb : S.busy = []) {rn : Str} {ps : List A} {tx : Str} (h1 : (findK S.rules (.inr rn)).isSome = true) (h2 : ps.all flatS = true) (h3 : ps.length < 100) (ht : reprP (.tup [.str rn, .tup ps]) = some tx) :
    ∃ h' kvs', Q (n + 3) (.fn 24) (.ref g :: .str rn :: ps) [] h = .ok (.bl (findK S.known (.inr tx)).isSome) h' ∧ Rx rel g lg c r kn b t kvs' h' { S with known := dropK S.known (.inr tx) } ∧ Fr g lg kn t kvs h kvs' h' := by
  have qt := text_ok n R h1 h2 h3 ht
  have R1 := R.new K (.lst [])
  have hb1 : (h.new (.lst [])).get b = some (.lst []) := by have := R1.hb; rw [hb] at this; exact this
  have hn1 : (h.new (.lst [])).get h.n = some (.lst []) := nwS _ _
  have z : ps.length + 2 ≤ 16777216 := by omega
  have hg1 := R1.hg
  have hk1 := R1.hk
  have F0 : Fr g lg kn t kvs h kvs (h.new (.lst [])) := ⟨Ext.new _, fun _ o => .inl o⟩
  rcases R.nd.find (k := .inr tx) with ⟨ek, ed⟩ | ⟨x, d, ek, ed, ⟨a, rfl, ha⟩, mk, md⟩
  · have es : dropK S.known (.inr tx) = S.known := by
      unfold dropK
      exact List.filter_eq_self.mpr fun p hp => decide_eq_true (find_no ed p hp)
    refine ⟨_, kvs, ?_, by rw [es]; exact R1, F0⟩
    show D_24 (Q (n + 2)) (.ref g :: .str rn :: ps) [] h = _
    simp [D_24, callF, callC, bdKw, bdStar, bdOr, runF, outF, slots0, sSeq, sNil, sRet, sRetN, sExp, sAsg, sIf, sSetA, sSetI, sAugA, sAugI, sPar, setAll, RS.ofE, RS.ofA, eAttr, eLoc, eCon, Res.bind, getA, aNil, aCons, aStar, eTup, eLst, eMeth, methA, kOf, kLone, kKw, eCallF, eCallL, callV, isFn, eMake, makeA, Zk.e2, orE, orG, eCB, Zk.g1, Zk.g2, tOfE, tNot, tAnd, tOr, tB2, isB, truth, eIf, eNot, eAnd, eOr, seqOf, gNm, gTupA, gsCons, gsNil, Zk.putAt, putN, setAt, keyOf, eD0, eIsi, isiA, tagOf, oIs, List.lookup, eTupV, eBM, tyA, oIx, oIxM, oIxS, oIxD, oIxL, oIxT, L2.atI, L2.ixN, lstOf, oAddI, oSub, iOp, iOpC, oInO, oIn, oInK, oInS, oInF, oInD, lenO, lenD, lenA, List.all_cons, List.all_nil, List.map_cons, List.map_nil, List.length_cons, List.length_nil, SZ, z, tb_text_of, R.hg, qt, at_busy, at_known, hb1, hn1, hg1, hk1, oNe, oEqB, A.dat, A.dats, FU, PyData.eqv, PyData.eqvAll, show SeqAt.shaped (.list []) = true from by decide +kernel, gPopD, valA_findK, ek, ed]
  · refine ⟨_, _, ?_, R1.dropK K (.inr tx), F0.trans ⟨Ext.upd _ (.inr (.inl rfl)), fun l o => .inl (Ow.drop o)⟩⟩
    show D_24 (Q (n + 2)) (.ref g :: .str rn :: ps) [] h = _
    simp [D_24, callF, callC, bdKw, bdStar, bdOr, runF, outF, slots0, sSeq, sNil, sRet, sRetN, sExp, sAsg, sIf, sSetA, sSetI, sAugA, sAugI, sPar, setAll, RS.ofE, RS.ofA, eAttr, eLoc, eCon, Res.bind, getA, aNil, aCons, aStar, eTup, eLst, eMeth, methA, kOf, kLone, kKw, eCallF, eCallL, callV, isFn, eMake, makeA, Zk.e2, orE, orG, eCB, Zk.g1, Zk.g2, tOfE, tNot, tAnd, tOr, tB2, isB, truth, eIf, eNot, eAnd, eOr, seqOf, gNm, gTupA, gsCons, gsNil, Zk.putAt, putN, setAt, keyOf, eD0, eIsi, isiA, tagOf, oIs, List.lookup, eTupV, eBM, tyA, oIx, oIxM, oIxS, oIxD, oIxL, oIxT, L2.atI, L2.ixN, lstOf, oAddI, oSub, iOp, iOpC, oInO, oIn, oInK, oInS, oInF, oInD, lenO, lenD, lenA, List.all_cons, List.all_nil, List.map_cons, List.map_nil, List.length_cons, List.length_nil, SZ, z, tb_text_of, R.hg, qt, at_busy, at_known, hb1, hn1, hg1, hk1, oNe, oEqB, A.dat, A.dats, FU, PyData.eqv, PyData.eqvAll, show SeqAt.shaped (.list []) = true from by decide +kernel, gPopD, valA_findK, ek, ed, dropA_dropK]
def kbS (h : Hq) (rev : Int) (p : Key × A) : Bool := match p.2 with
  | .ref a => match h.get a with
    | some (.ins _ fs) => match fs.lookup 4 with
      | some (.int i) => !(i == rev)
      | _ => false
    | _ => false
  | _ => false
theorem kbS_ok {rev : Int} {k : Key} {v : A} {d : Nd} (q : Nx h v d) : kbS h rev (k, v) = !(d.seen == rev) := by
  obtain ⟨a, rfl, e⟩ := q
  have e : h.get a = some (.ins 1 [(1, .tup [.str d.rn, .tup d.ps]), (2, d.found), (3, .tup d.uses), (4, .int d.seen)]) := e
  simp [kbS, e, List.lookup]
theorem pd_count {rev : Int} : ∀ {kvs : List (Key × A)} {kd : List (Key × Nd)}, Pd (Nx h) kvs kd → (kvs.filter (kbS h rev)).length = (kd.filter fun p => !(p.2.seen == rev)).length
  | _, _, .nil => rfl
  | (k, v) :: l, (_, d) :: m, .cons q t => by
    have e := kbS_ok (rev := rev) (k := k) q
    cases z : !(d.seen == rev) with
    | true => rw [List.filter_cons_of_pos (by rw [e, z]), List.filter_cons_of_pos (by simpa using z), List.length_cons, List.length_cons, pd_count t]
    | false => rw [List.filter_cons_of_neg (by rw [e, z]; simp), List.filter_cons_of_neg (by simpa using z), pd_count t]
/-- how many nodes are not of today -/
def outN (S : St Rl) : Nat := (S.known.filter fun p => !(p.2.seen == S.rev)).length
theorem outdated_ok (n : Nat) (R : Rx rel g lg c r kn b t kvs h S) (hl : S.known.length < 100000) : ∃ h', Q (n + 1) (.fn 26) [.ref g] [] h = .ok (.int (outN S)) h' ∧ Ext (fun _ => False) h h' ∧ Wf h' := by
  have lt := R.lt
  have hk := R.hk
  have z0 : (h.upd kn (.lok kvs)).n = h.n := rfl
  have ng : g ≠ kn := neg R.hg R.hk (fun z => nomatch z)
  obtain ⟨h', q, a1, a2, a3, a4, a5⟩ := lc_list (p := fun i _ => some ((kvs[i]?).map fun p => p.2)) (gg := gNm 1) (c := tB2 (Zk.e2 oNe (eAttr (Q n) at_revision_seen 4 (eLoc 1)) (eAttr (Q n) at_own_revision 14 (eLoc 0)))) (e := eLoc 1) (L0 := [some (.ref g), none]) (l0 := h.n) (xs := kvs) (itm := fun p => p.2) (val := fun p => p.2) (kb := kbS h S.rev)
    (fun h2 => ∀ a o, a < h.n → a ≠ kn → h.get a = some o → h2.get a = some o) (fun _ _ => rfl) (by rw [R.nd.len]; omega) (fun h2 ys hP a o l1 l2 e => by rw [upN _ _ _ (Nat.ne_of_lt l1)]; exact hP a o l1 l2 e)
    (fun p hp h2 hP => by
      obtain ⟨k, v⟩ := p
      obtain ⟨d, md, ⟨a, rfl, ea⟩⟩ := pd_mem R.nd hp
      have e2 := hP a _ (R.wf _ _ ea) (neg ea R.hk (fun z => nomatch z)) ea
      have e2 : h2.get a = some (.ins 1 [(1, .tup [.str d.rn, .tup d.ps]), (2, d.found), (3, .tup d.uses), (4, .int d.seen)]) := e2
      have eg := hP g _ lt.1 ng R.hg
      refine ⟨.nx, [some (.ref g), some (.ref a)], by simp [callF, callC, bdKw, bdStar, bdOr, runF, outF, slots0, sSeq, sNil, sRet, sRetN, sExp, sAsg, sIf, sSetA, sSetI, sAugA, sAugI, sPar, setAll, RS.ofE, RS.ofA, eAttr, eLoc, eCon, Res.bind, getA, aNil, aCons, aStar, eTup, eLst, eMeth, methA, kOf, kLone, kKw, eCallF, eCallL, callV, isFn, eMake, makeA, Zk.e2, orE, orG, eCB, Zk.g1, Zk.g2, tOfE, tNot, tAnd, tOr, tB2, isB, truth, eIf, eNot, eAnd, eOr, seqOf, gNm, gTupA, gsCons, gsNil, Zk.putAt, putN, setAt, keyOf, eD0, eIsi, isiA, tagOf, oIs, List.lookup, eTupV, eBM, tyA, oIx, oIxM, oIxS, oIxD, oIxL, oIxT, L2.atI, L2.ixN, lstOf, oAddI, oSub, iOp, iOpC, oInO, oIn, oInK, oInS, oInF, oInD, lenO, lenD, lenA, List.all_cons, List.all_nil, List.map_cons, List.map_nil, List.length_cons, List.length_nil], ?_, fun _ => by simp [callF, callC, bdKw, bdStar, bdOr, runF, outF, slots0, sSeq, sNil, sRet, sRetN, sExp, sAsg, sIf, sSetA, sSetI, sAugA, sAugI, sPar, setAll, RS.ofE, RS.ofA, eAttr, eLoc, eCon, Res.bind, getA, aNil, aCons, aStar, eTup, eLst, eMeth, methA, kOf, kLone, kKw, eCallF, eCallL, callV, isFn, eMake, makeA, Zk.e2, orE, orG, eCB, Zk.g1, Zk.g2, tOfE, tNot, tAnd, tOr, tB2, isB, truth, eIf, eNot, eAnd, eOr, seqOf, gNm, gTupA, gsCons, gsNil, Zk.putAt, putN, setAt, keyOf, eD0, eIsi, isiA, tagOf, oIs, List.lookup, eTupV, eBM, tyA, oIx, oIxM, oIxS, oIxD, oIxL, oIxT, L2.atI, L2.ixN, lstOf, oAddI, oSub, iOp, iOpC, oInO, oIn, oInK, oInS, oInF, oInD, lenO, lenD, lenA, List.all_cons, List.all_nil, List.map_cons, List.map_nil, List.length_cons, List.length_nil]⟩
      rw [kbS_ok ⟨a, rfl, ea⟩]
      simp [callF, callC, bdKw, bdStar, bdOr, runF, outF, slots0, sSeq, sNil, sRet, sRetN, sExp, sAsg, sIf, sSetA, sSetI, sAugA, sAugI, sPar, setAll, RS.ofE, RS.ofA, eAttr, eLoc, eCon, Res.bind, getA, aNil, aCons, aStar, eTup, eLst, eMeth, methA, kOf, kLone, kKw, eCallF, eCallL, callV, isFn, eMake, makeA, Zk.e2, orE, orG, eCB, Zk.g1, Zk.g2, tOfE, tNot, tAnd, tOr, tB2, isB, truth, eIf, eNot, eAnd, eOr, seqOf, gNm, gTupA, gsCons, gsNil, Zk.putAt, putN, setAt, keyOf, eD0, eIsi, isiA, tagOf, oIs, List.lookup, eTupV, eBM, tyA, oIx, oIxM, oIxS, oIxD, oIxL, oIxT, L2.atI, L2.ixN, lstOf, oAddI, oSub, iOp, iOpC, oInO, oIn, oInK, oInS, oInF, oInD, lenO, lenD, lenA, List.all_cons, List.all_nil, List.map_cons, List.map_nil, List.length_cons, List.length_nil, at_revision_seen, at_own_revision, e2, eg, oNe, oEqB, A.dat, FU, shI, PyData.eqv])
    kvs.length FL 0 ((h.upd kn (.lok kvs)).new (.lst [])) [] rfl (by rw [R.nd.len]; unfold FL; omega) (Nat.zero_le _) (by show h.n < h.n + 1; omega) (Nat.zero_le _) (fun a o l1 l2 e => by rw [nwL _ _ (show a < (h.upd kn (.lok kvs)).n from l1), upN _ _ _ l2]; exact e) (nwS (h.upd kn (.lok kvs)) _)
  have a1 : h'.get h.n = some (.lst ((kvs.filter (kbS h S.rev)).map fun p => p.2)) := by simpa using a1
  have ek : h'.get kn = some (.lok kvs) := by
    rw [a2.same kn (by show kn < h.n + 1; omega) (by omega), nwL _ _ (show kn < (h.upd kn (.lok kvs)).n from lt.2.2.2.1)]
    exact upS _ _ _
  have a1' : (h'.upd kn (.dic kvs)).get h.n = some (.lst ((kvs.filter (kbS h S.rev)).map fun p => p.2)) := by rw [upN _ _ _ (show h.n ≠ kn by omega)]; exact a1
  refine ⟨h'.upd kn (.dic kvs), ?_, ⟨by show h.n ≤ h'.n; rw [a5]; exact Nat.le_succ _, fun l hl _ => ?_⟩, (a3 ((R.wf.upd _ lt.2.2.2.1).new _)).upd _ (by rw [a5]; show kn < h.n + 1; omega)⟩
  · have e1 : eAttr (Q n) at_known 12 (eLoc 0) [some (.ref g), none] h = .ok (.ref kn) h := by simp [callF, callC, bdKw, bdStar, bdOr, runF, outF, slots0, sSeq, sNil, sRet, sRetN, sExp, sAsg, sIf, sSetA, sSetI, sAugA, sAugI, sPar, setAll, RS.ofE, RS.ofA, eAttr, eLoc, eCon, Res.bind, getA, aNil, aCons, aStar, eTup, eLst, eMeth, methA, kOf, kLone, kKw, eCallF, eCallL, callV, isFn, eMake, makeA, Zk.e2, orE, orG, eCB, Zk.g1, Zk.g2, tOfE, tNot, tAnd, tOr, tB2, isB, truth, eIf, eNot, eAnd, eOr, seqOf, gNm, gTupA, gsCons, gsNil, Zk.putAt, putN, setAt, keyOf, eD0, eIsi, isiA, tagOf, oIs, List.lookup, eTupV, eBM, tyA, oIx, oIxM, oIxS, oIxD, oIxL, oIxT, L2.atI, L2.ixN, lstOf, oAddI, oSub, iOp, iOpC, oInO, oIn, oInK, oInS, oInF, oInD, lenO, lenD, lenA, List.all_cons, List.all_nil, List.map_cons, List.map_nil, List.length_cons, List.length_nil, at_known, R.hg]
    have e2 : eAttr (Q n) at_known 12 (eLoc 0) [some (.ref g), none] (h.upd kn (.lok kvs)) = .ok (.ref kn) (h.upd kn (.lok kvs)) := by simp [callF, callC, bdKw, bdStar, bdOr, runF, outF, slots0, sSeq, sNil, sRet, sRetN, sExp, sAsg, sIf, sSetA, sSetI, sAugA, sAugI, sPar, setAll, RS.ofE, RS.ofA, eAttr, eLoc, eCon, Res.bind, getA, aNil, aCons, aStar, eTup, eLst, eMeth, methA, kOf, kLone, kKw, eCallF, eCallL, callV, isFn, eMake, makeA, Zk.e2, orE, orG, eCB, Zk.g1, Zk.g2, tOfE, tNot, tAnd, tOr, tB2, isB, truth, eIf, eNot, eAnd, eOr, seqOf, gNm, gTupA, gsCons, gsNil, Zk.putAt, putN, setAt, keyOf, eD0, eIsi, isiA, tagOf, oIs, List.lookup, eTupV, eBM, tyA, oIx, oIxM, oIxS, oIxD, oIxL, oIxT, L2.atI, L2.ixN, lstOf, oAddI, oSub, iOp, iOpC, oInO, oIn, oInK, oInS, oInF, oInD, lenO, lenD, lenA, List.all_cons, List.all_nil, List.map_cons, List.map_nil, List.length_cons, List.length_nil, at_known, upN _ _ _ ng, R.hg]
    have e3 : iVs (eAttr (Q n) at_known 12 (eLoc 0)) [some (.ref g), none] (h.upd kn (.lok kvs)) = .ok (fun i _ => some ((kvs[i]?).map fun p => p.2)) (h.upd kn (.lok kvs)) := by
      unfold iVs iLok
      rw [e2]
      simp [Res.bind, upS]
    have e4 : eLc (iVs (eAttr (Q n) at_known 12 (eLoc 0))) (gNm 1) (tB2 (Zk.e2 oNe (eAttr (Q n) at_revision_seen 4 (eLoc 1)) (eAttr (Q n) at_own_revision 14 (eLoc 0)))) (eLoc 1) [1] FL [some (.ref g), none] (h.upd kn (.lok kvs)) = .ok (.ref h.n) h' := by
      unfold eLc
      rw [e3]
      have ew : wipeL [some (.ref g), none] [1] = [some (.ref g), none] := rfl
      simp only [Res.bind, ew, z0]
      rw [q]
    have e5 : eLock (eAttr (Q n) at_known 12 (eLoc 0)) (eLc (iVs (eAttr (Q n) at_known 12 (eLoc 0))) (gNm 1) (tB2 (Zk.e2 oNe (eAttr (Q n) at_revision_seen 4 (eLoc 1)) (eAttr (Q n) at_own_revision 14 (eLoc 0)))) (eLoc 1) [1] FL) [some (.ref g), none] h = .ok (.ref h.n) (h'.upd kn (.dic kvs)) := by
      unfold eLock
      rw [e1]
      simp only [hk]
      rw [e4]
      simp [ek]
    show D_26 (Q n) [.ref g] [] h = _
    simp only [D_26, callF, bdKw, runF, slots0]
    simp [sSeq, sRet, eCB, aCons, aNil, e5, Res.bind, orG, Zk.g1, lenA, seqOf, a1', RS.ofE, outF, pd_count R.nd, outN]
  · by_cases e : l = kn
    · subst e; rw [upS]; exact R.hk.symm
    · rw [upN _ _ _ e, a2.same l (by show l < h.n + 1; omega) (by omega), nwL _ _ (show l < (h.upd kn (.lok kvs)).n from hl), upN _ _ _ e]
end
end K95
end
section
set_option Elab.async false
set_option linter.all false
set_option maxRecDepth 100000
set_option maxHeartbeats 0
namespace K95
open PySem PySem.Spec PyProof.Rows Zk
open L2 (Key)
/-! ### numbers drawn -/
abbrev MO (sc : Nat) (at_ left : Int) : Ob := .dic [(.inr "script", .ref sc), (.inr "at", .int at_), (.inr "left", .int left)]
structure MAt (ns : List Int) (ma B : Nat) (h : Hq) : Prop where
  ex : ∃ (at_ left : Int), h.get ma = some (MO 0 at_ left) ∧ 0 ≤ at_ ∧ at_ ≤ B ∧ 0 ≤ left
  sc : h.get 0 = some (.rol (ns.map A.int))
theorem MAt.ext {ns : List Int} {ma B : Nat} {h h' : Hq} {W : Nat → Prop} (M : MAt ns ma B h) (w : Wf h) (x : Ext W h h') (n1 : ¬ W ma) (n0 : ¬ W 0) : MAt ns ma B h' := by
  obtain ⟨a, l, e, r⟩ := M.ex
  exact ⟨⟨a, l, x.get w e n1, r⟩, x.get w M.sc n0⟩
theorem MAt.mono {ns : List Int} {ma B B' : Nat} {h : Hq} (M : MAt ns ma B h) (le : B ≤ B') : MAt ns ma B' h := by
  obtain ⟨a, l, e, r1, r2, r3⟩ := M.ex
  exact ⟨⟨a, l, e, r1, by omega, r3⟩, M.sc⟩
theorem dats_ints (h : Hq) : ∀ (f : Nat) (ns : List Int), ns.length ≤ f → A.dats h f (ns.map A.int) = some (ns.map PyData.int)
  | 0, [], _ => by simp [A.dats]
  | 0, _ :: _, e => by simp at e
  | f + 1, [], _ => by simp [A.dats]
  | f + 1, n :: ns, e => by
    have e2 : A.dat h f (.int n) = some (.int n) := by cases f <;> simp [A.dat]
    simp [A.dats, e2, dats_ints h f ns (by simpa using e)]
theorem sh_ints : ∀ ns : List Int, PyData.canLayAll0 (ns.map PyData.int) = true ∧ PyData.depthAll (ns.map PyData.int) = 0
  | [] => by simp [PyData.canLayAll0, PyData.depthAll]
  | n :: ns => by
    obtain ⟨a, b⟩ := sh_ints ns
    simp [PyData.canLayAll0, PyData.depthAll, PyData.canLay0, PyData.depth, a, b]
theorem shL (ns : List Int) : SeqAt.shaped (.list (ns.map PyData.int)) = true := by
  obtain ⟨a, b⟩ := sh_ints ns
  simp [SeqAt.shaped, PyData.canLay0, PyData.depth, a, b]
theorem eqv_nil (ns : List Int) : PyData.eqv (.list (ns.map PyData.int)) (.list []) = ns.isEmpty := by
  cases ns <;> simp [PyData.eqv, PyData.eqvAll]
theorem sq {a b : MS} {L L1 : Lc} {h h1 : Hq} (e : a L h = .ok .nx L1 h1) : sSeq a b L h = b L1 h1 := by unfold sSeq; rw [e]
theorem sqR {a b : MS} {L L1 : Lc} {h h1 : Hq} {v : A} (e : a L h = .ok (.rt v) L1 h1) : sSeq a b L h = .ok (.rt v) L1 h1 := by unfold sSeq; rw [e]
def nextT (Φ : Dn) : MS := (sSeq (sIf (tAnd (tB2 (Zk.e2 oGe (eLoc 4) (Zk.e2 oPow (eCon (.int 10)) (eCon (.int 18))))) (tB2 (Zk.e2 oLt (eLoc 3) (eCB (orG (Zk.g1 lenA) (orG (Zk.g1 lenD) (Zk.g1 (lenO Φ tb_len)))) (aCons (Zk.e2 oIx (eLoc 0) (eCon (.str "script"))) aNil))))) (sSeq (sSetI (eLoc 0) (eCon (.str "left")) (Zk.e2 oDiv (eLoc 4) (eLoc 1)))
    (sSeq (sRet (Zk.e2 oMod (eLoc 4) (eLoc 1)))
    sNil)) sNil)
    (sSeq (sAsg (gNm 5) (Zk.e2 oAdd (Zk.e2 oMul (Zk.e2 oMod (eLoc 4) (eCon (.int 1000003))) (eCon (.int 48271))) (Zk.e2 oMod (Zk.e2 oDiv (eLoc 4) (eCon (.int 1000003))) (eCon (.int 1000003)))))
    (sSeq (sAsg (gNm 5) (Zk.e2 oMod (Zk.e2 oAdd (Zk.e2 oAdd (Zk.e2 oAdd (eLoc 5) (Zk.e2 oMul (Zk.e2 oMul (eCon (.int 7919)) (eLoc 3)) (eLoc 3))) (Zk.e2 oMul (eCon (.int 104729)) (eLoc 3))) (eCon (.int 61))) (eCon (.int 2147483647))))
    (sSeq (sRet (Zk.e2 oMod (Zk.e2 oDiv (Zk.e2 oMod (Zk.e2 oMul (Zk.e2 oMod (Zk.e2 oMul (eLoc 5) (eLoc 5)) (eCon (.int 2147483629))) (eCon (.int 69621))) (eCon (.int 2147483587))) (eCon (.int 7))) (eLoc 1)))
    sNil))))
theorem kn1 : ("left" : Str) ≠ "script" := by decide +kernel
theorem kn2 : ("left" : Str) ≠ "at" := by decide +kernel
theorem kn3 : ("at" : Str) ≠ "script" := by decide +kernel
theorem nextT_ok (Φ : Dn) {ns : List Int} {ma B : Nat} {h : Hq} (w : Wf h) {at_ at2 left : Int} (em : h.get ma = some (MO 0 at2 left)) (hsc : h.get 0 = some (.rol (ns.map A.int))) (hns : ns.length ≤ 63) (b1 : 0 ≤ at_) (b2 : at_ ≤ B) (c1 : 0 ≤ at2) (c2 : at2 ≤ B + 1) (b3 : 0 ≤ left) (hB : B < 4294967296) (h0 : ma ≠ 0) {total : Int} (ht : 0 < total) (ht2 : total < 1000) (cell : Int) :
    ∃ h' v L', nextT Φ [some (.ref ma), some (.int total), none, some (.int at_), some (.int cell), none] h = .ok (.rt (.int v)) L' h' ∧ 0 ≤ v ∧ v < total ∧ Ext (fun l => l = ma) h h' ∧ Wf h' ∧ MAt ns ma (B + 1) h' := by
  have lm := w _ _ em
  have hq : ∀ z : Int, z.fmod total < total ∧ 0 ≤ z.fmod total := fun z => ⟨Int.fmod_lt_of_pos z ht, Int.fmod_nonneg_of_pos z ht⟩
  have p10 : ((10 : Int) ^ (18 : Int).toNat) = 1000000000000000000 := by decide
  have q10 : bPow 10 18 = true := by decide
  have m1 : bMod cell total = true := by simp [bMod]; omega
  have m2 : bDiv cell total = true := by simp [bDiv]; omega
  by_cases hbig : (1000000000000000000 : Int) ≤ cell ∧ at_ < (ns.length : Int)
  · obtain ⟨g1, g2⟩ := hbig
    refine ⟨h.upd ma (MO 0 at2 (cell.fdiv total)), cell.fmod total, [some (.ref ma), some (.int total), none, some (.int at_), some (.int cell), none], ?_, (hq _).2, (hq _).1, Ext.upd _ rfl, w.upd _ lm, ⟨⟨at2, _, upS _ _ _, c1, by omega, Int.fdiv_nonneg (by omega) (by omega)⟩, by rw [upN _ _ _ h0.symm]; exact hsc⟩⟩
    simp [nextT, callF, callC, bdKw, bdStar, bdOr, runF, outF, slots0, sSeq, sNil, sRet, sRetN, sExp, sAsg, sIf, sSetA, sSetI, sAugA, sAugI, sPar, setAll, RS.ofE, RS.ofA, eAttr, eLoc, eCon, Res.bind, getA, aNil, aCons, aStar, eTup, eLst, eMeth, methA, kOf, kLone, kKw, eCallF, eCallL, callV, isFn, eMake, makeA, Zk.e2, orE, orG, eCB, Zk.g1, Zk.g2, tOfE, tNot, tAnd, tOr, tB2, isB, truth, eIf, eNot, eAnd, eOr, seqOf, gNm, gTupA, gsCons, gsNil, Zk.putAt, putN, setAt, keyOf, eD0, eIsi, isiA, tagOf, oIs, List.lookup, eTupV, eBM, tyA, oIx, oIxM, oIxS, oIxD, oIxL, oIxT, L2.atI, L2.ixN, lstOf, oAddI, oSub, iOp, iOpC, oInO, oIn, oInK, oInS, oInF, oInD, lenO, lenD, lenA, List.all_cons, List.all_nil, List.map_cons, List.map_nil, List.length_cons, List.length_nil, dget, em, valA_findK, findK, kn1, kn2, kn3, kn1.symm, kn2.symm, kn3.symm, oGe, oPow, q10, p10, g1, oLt, hsc, g2, oMod, m1, oDiv, m2, putA, SZ]
  · have f1 : (cell.fmod 1000003) < 1000003 := Int.fmod_lt_of_pos _ (by decide)
    have hM : ∃ mx : Int, mx = (((cell.fmod 1000003 * 48271 + (cell.fdiv 1000003).fmod 1000003) + 7919 * at_ * at_ + 104729 * at_ + 61).fmod 2147483647) := ⟨_, rfl⟩
    obtain ⟨mx, emx⟩ := hM
    have x1 : 0 ≤ mx := by rw [emx]; exact Int.fmod_nonneg_of_pos _ (by decide)
    have x2 : mx < 2147483647 := by rw [emx]; exact Int.fmod_lt_of_pos _ (by decide)
    refine ⟨h, ((((mx * mx).fmod 2147483629 * 69621).fmod 2147483587).fdiv 7).fmod total, [some (.ref ma), some (.int total), none, some (.int at_), some (.int cell), some (.int mx)], ?_, (hq _).2, (hq _).1, Ext.refl, w, ⟨⟨at2, left, em, c1, by omega, b3⟩, hsc⟩⟩
    have u1 : bMul (cell.fmod 1000003) 48271 = true := by simp [bMul, P64]
    have u2 : bMul 7919 at_ = true := by simp [bMul, P64]
    have u3 : bMul (7919 * at_) at_ = true := by
      unfold bMul P64
      exact Bool.or_eq_true_iff.mpr (.inr (by simp; omega))
    have u4 : bMul 104729 at_ = true := by simp [bMul, P64]
    have u5 : bMul mx mx = true := by
      unfold bMul P64
      exact Bool.or_eq_true_iff.mpr (.inr (by simp; omega))
    have u6 : bMul ((mx * mx).fmod 2147483629) 69621 = true := by simp [bMul, P64]
    have v1 : ∀ z : Int, bMod z 1000003 = true := fun z => by simp [bMod]
    have v2 : ∀ z : Int, bDiv z 1000003 = true := fun z => by simp [bDiv]
    have v3 : ∀ z : Int, bMod z 2147483647 = true := fun z => by simp [bMod]
    have v4 : ∀ z : Int, bMod z 2147483629 = true := fun z => by simp [bMod]
    have v5 : ∀ z : Int, bMod z 2147483587 = true := fun z => by simp [bMod]
    have v6 : ∀ z : Int, bDiv z 7 = true := fun z => by simp [bDiv]
    have v7 : ∀ z : Int, bMod z total = true := fun z => by simp [bMod]; omega
    have hcond : (tAnd (tB2 (Zk.e2 oGe (eLoc 4) (Zk.e2 oPow (eCon (.int 10)) (eCon (.int 18))))) (tB2 (Zk.e2 oLt (eLoc 3) (eCB (orG (Zk.g1 lenA) (orG (Zk.g1 lenD) (Zk.g1 (lenO Φ tb_len)))) (aCons (Zk.e2 oIx (eLoc 0) (eCon (.str "script"))) aNil))))) [some (.ref ma), some (.int total), none, some (.int at_), some (.int cell), none] h = .ok false h := by
      by_cases g1 : (1000000000000000000 : Int) ≤ cell
      · have g2 : ¬ at_ < (ns.length : Int) := fun z => hbig ⟨g1, z⟩
        simp [callF, callC, bdKw, bdStar, bdOr, runF, outF, slots0, sSeq, sNil, sRet, sRetN, sExp, sAsg, sIf, sSetA, sSetI, sAugA, sAugI, sPar, setAll, RS.ofE, RS.ofA, eAttr, eLoc, eCon, Res.bind, getA, aNil, aCons, aStar, eTup, eLst, eMeth, methA, kOf, kLone, kKw, eCallF, eCallL, callV, isFn, eMake, makeA, Zk.e2, orE, orG, eCB, Zk.g1, Zk.g2, tOfE, tNot, tAnd, tOr, tB2, isB, truth, eIf, eNot, eAnd, eOr, seqOf, gNm, gTupA, gsCons, gsNil, Zk.putAt, putN, setAt, keyOf, eD0, eIsi, isiA, tagOf, oIs, List.lookup, eTupV, eBM, tyA, oIx, oIxM, oIxS, oIxD, oIxL, oIxT, L2.atI, L2.ixN, lstOf, oAddI, oSub, iOp, iOpC, oInO, oIn, oInK, oInS, oInF, oInD, lenO, lenD, lenA, List.all_cons, List.all_nil, List.map_cons, List.map_nil, List.length_cons, List.length_nil, dget, em, valA_findK, findK, oGe, oPow, q10, p10, g1, oLt, hsc, g2]
      · simp [callF, callC, bdKw, bdStar, bdOr, runF, outF, slots0, sSeq, sNil, sRet, sRetN, sExp, sAsg, sIf, sSetA, sSetI, sAugA, sAugI, sPar, setAll, RS.ofE, RS.ofA, eAttr, eLoc, eCon, Res.bind, getA, aNil, aCons, aStar, eTup, eLst, eMeth, methA, kOf, kLone, kKw, eCallF, eCallL, callV, isFn, eMake, makeA, Zk.e2, orE, orG, eCB, Zk.g1, Zk.g2, tOfE, tNot, tAnd, tOr, tB2, isB, truth, eIf, eNot, eAnd, eOr, seqOf, gNm, gTupA, gsCons, gsNil, Zk.putAt, putN, setAt, keyOf, eD0, eIsi, isiA, tagOf, oIs, List.lookup, eTupV, eBM, tyA, oIx, oIxM, oIxS, oIxD, oIxL, oIxT, L2.atI, L2.ixN, lstOf, oAddI, oSub, iOp, iOpC, oInO, oIn, oInK, oInS, oInF, oInD, lenO, lenD, lenA, List.all_cons, List.all_nil, List.map_cons, List.map_nil, List.length_cons, List.length_nil, dget, em, valA_findK, findK, oGe, oPow, q10, p10, g1, oLt, hsc]
    unfold nextT
    simp only [sSeq, sIf, hcond, sNil]
    simp [sAsg, Zk.e2, eLoc, Res.bind, eCon, oMod, iOpC, v1, v2, v3, v4, v5, v6, v7, oMul, orE, oMulI, u1, oDiv, oAdd, oAddI, iOp, RS.ofE, gNm, u2, u3, u4, ← emx, u5, u6, sRet]
theorem next_ok (n : Nat) {ns : List Int} {ma B : Nat} {h : Hq} (w : Wf h) (M : MAt ns ma B h) (hns : ns.length ≤ 63) (hB : B < 4294967296) (h0 : ma ≠ 0) {total : Int} (ht : 0 < total) (ht2 : total < 1000) :
    ∃ h' v, Q (n + 1) (.fn 28) [.ref ma, .int total] [] h = .ok (.int v) h' ∧ 0 ≤ v ∧ v < total ∧ Ext (fun l => l = ma) h h' ∧ Wf h' ∧ MAt ns ma (B + 1) h' := by
  obtain ⟨at_, left, em, b1, b2, b3⟩ := M.ex
  have hsc := M.sc
  have lm := w _ _ em
  have hD : Q (n + 1) (.fn 28) [.ref ma, .int total] [] h = D_28 (Q n) [.ref ma, .int total] [] h := rfl
  have k1 : ("left" : Str) ≠ "script" := by decide +kernel
  have k2 : ("left" : Str) ≠ "at" := by decide +kernel
  have k3 : ("at" : Str) ≠ "script" := by decide +kernel
  have hq : ∀ z : Int, z.fmod total < total ∧ 0 ≤ z.fmod total := fun z => ⟨Int.fmod_lt_of_pos z ht, Int.fmod_nonneg_of_pos z ht⟩
  by_cases hl : 0 < left
  · refine ⟨h.upd ma (MO 0 at_ (left.fdiv total)), left.fmod total, ?_, (hq _).2, (hq _).1, Ext.upd _ rfl, w.upd _ lm, ⟨⟨at_, _, upS _ _ _, b1, by omega, Int.fdiv_nonneg b3 (by omega)⟩, by rw [upN _ _ _ h0.symm]; exact hsc⟩⟩
    rw [hD]
    have c1 : bMod left total = true := by simp [bMod]; omega
    have c2 : bDiv left total = true := by simp [bDiv]; omega
    simp [D_28, callF, callC, bdKw, bdStar, bdOr, runF, outF, slots0, sSeq, sNil, sRet, sRetN, sExp, sAsg, sIf, sSetA, sSetI, sAugA, sAugI, sPar, setAll, RS.ofE, RS.ofA, eAttr, eLoc, eCon, Res.bind, getA, aNil, aCons, aStar, eTup, eLst, eMeth, methA, kOf, kLone, kKw, eCallF, eCallL, callV, isFn, eMake, makeA, Zk.e2, orE, orG, eCB, Zk.g1, Zk.g2, tOfE, tNot, tAnd, tOr, tB2, isB, truth, eIf, eNot, eAnd, eOr, seqOf, gNm, gTupA, gsCons, gsNil, Zk.putAt, putN, setAt, keyOf, eD0, eIsi, isiA, tagOf, oIs, List.lookup, eTupV, eBM, tyA, oIx, oIxM, oIxS, oIxD, oIxL, oIxT, L2.atI, L2.ixN, lstOf, oAddI, oSub, iOp, iOpC, oInO, oIn, oInK, oInS, oInF, oInD, lenO, lenD, lenA, List.all_cons, List.all_nil, List.map_cons, List.map_nil, List.length_cons, List.length_nil, dget, em, valA_findK, findK, k1, k2, k3, k1.symm, k2.symm, k3.symm, oGt, hl, oMod, c1, oDiv, c2, putA, SZ]
  · have hl0 : left = 0 := by omega
    subst hl0
    have em1 : (h.upd ma (MO 0 (at_ + 1) 0)).get ma = some (MO 0 (at_ + 1) 0) := upS _ _ _
    have hs1 : (h.upd ma (MO 0 (at_ + 1) 0)).get 0 = some (.rol (ns.map A.int)) := by rw [upN _ _ _ h0.symm]; exact hsc
    have w1 : Wf (h.upd ma (MO 0 (at_ + 1) 0)) := w.upd _ lm
    have w2 := w1.new (.lst [])
    have em2 : ((h.upd ma (MO 0 (at_ + 1) 0)).new (.lst [])).get ma = some (MO 0 (at_ + 1) 0) := by rw [nwL _ _ (w1 _ _ em1)]; exact em1
    have hs2 : ((h.upd ma (MO 0 (at_ + 1) 0)).new (.lst [])).get 0 = some (.rol (ns.map A.int)) := by rw [nwL _ _ (w1 _ _ hs1)]; exact hs1
    have hn2 : ((h.upd ma (MO 0 (at_ + 1) 0)).new (.lst [])).get h.n = some (.lst []) := nwS (h.upd ma (MO 0 (at_ + 1) 0)) _
    obtain ⟨cell, hcell⟩ : ∃ cell : Int, (ns = [] ∧ cell = 0) ∨ (ns ≠ [] ∧ L2.atI (ns.map A.int) (at_.fmod (ns.length : Int)) = some (.int cell)) := by
      by_cases e : ns = []
      · exact ⟨0, .inl ⟨e, rfl⟩⟩
      · have hp : 0 < ns.length := List.length_pos_iff.mpr e
        have r1 : 0 ≤ at_.fmod (ns.length : Int) := Int.fmod_nonneg_of_pos _ (by omega)
        have r2 : at_.fmod (ns.length : Int) < (ns.length : Int) := Int.fmod_lt_of_pos _ (by omega)
        have r3 : (at_.fmod (ns.length : Int)).toNat < ns.length := by omega
        refine ⟨ns[(at_.fmod (ns.length : Int)).toNat], .inr ⟨e, ?_⟩⟩
        unfold L2.atI L2.ixN
        rw [List.length_map, if_pos r1, if_pos r2]
        simp [r3]
    obtain ⟨h', v, L', q, p1, p2, x, w', M'⟩ := nextT_ok (Q n) w2 em2 hs2 hns b1 b2 (by omega) (by omega) (Int.le_refl 0) hB h0 ht ht2 cell
    refine ⟨h', v, ?_, p1, p2, ⟨Nat.le_trans (Nat.le_succ _) x.le, fun l hl no => ?_⟩, w', M'⟩
    · rw [hD]
      unfold nextT at q
      have k0 : ¬ (0 : Int) < 0 := by omega
      have hd : A.dats ((h.upd ma (MO 0 (at_ + 1) 0)).new (.lst [])) 1999 (ns.map A.int) = some (ns.map PyData.int) := dats_ints _ 1999 ns (by omega)
      have hz : ((at_ + 1 : Int) : Int) = at_ + 1 := rfl
      have hc : (eIf (tB2 (Zk.e2 oNe (Zk.e2 oIx (eLoc 0) (eCon (.str "script"))) (eLst aNil))) (Zk.e2 oIx (Zk.e2 oIx (eLoc 0) (eCon (.str "script"))) (Zk.e2 oMod (eLoc 3) (eCB (orG (Zk.g1 lenA) (orG (Zk.g1 lenD) (Zk.g1 (lenO (Q n) tb_len)))) (aCons (Zk.e2 oIx (eLoc 0) (eCon (.str "script"))) aNil)))) (eCon (.int 0))) [some (.ref ma), some (.int total), none, some (.int at_), none, none] (h.upd ma (MO 0 (at_ + 1) 0)) = .ok (.int cell) ((h.upd ma (MO 0 (at_ + 1) 0)).new (.lst [])) := by
        rcases hcell with ⟨rfl, rfl⟩ | ⟨hne, hat⟩
        · simp [callF, callC, bdKw, bdStar, bdOr, runF, outF, slots0, sSeq, sNil, sRet, sRetN, sExp, sAsg, sIf, sSetA, sSetI, sAugA, sAugI, sPar, setAll, RS.ofE, RS.ofA, eAttr, eLoc, eCon, Res.bind, getA, aNil, aCons, aStar, eTup, eLst, eMeth, methA, kOf, kLone, kKw, eCallF, eCallL, callV, isFn, eMake, makeA, Zk.e2, orE, orG, eCB, Zk.g1, Zk.g2, tOfE, tNot, tAnd, tOr, tB2, isB, truth, eIf, eNot, eAnd, eOr, seqOf, gNm, gTupA, gsCons, gsNil, Zk.putAt, putN, setAt, keyOf, eD0, eIsi, isiA, tagOf, oIs, List.lookup, eTupV, eBM, tyA, oIx, oIxM, oIxS, oIxD, oIxL, oIxT, L2.atI, L2.ixN, lstOf, oAddI, oSub, iOp, iOpC, oInO, oIn, oInK, oInS, oInF, oInD, lenO, lenD, lenA, List.all_cons, List.all_nil, List.map_cons, List.map_nil, List.length_cons, List.length_nil, dget, em1, valA_findK, findK, kn1, kn2, kn3, kn1.symm, kn2.symm, kn3.symm, SZ, oNe, oEqB, A.dat, A.dats, FU, hs2, hn2, Hq.n_upd, PyData.eqv, PyData.eqvAll, show SeqAt.shaped (.list []) = true from by decide +kernel]
        · have he : ns.isEmpty = false := by cases ns with | nil => exact absurd rfl hne | cons _ _ => rfl
          have hm : bMod at_ (ns.length : Int) = true := by
            have : 0 < ns.length := List.length_pos_iff.mpr hne
            simp [bMod]; exact hne
          simp [callF, callC, bdKw, bdStar, bdOr, runF, outF, slots0, sSeq, sNil, sRet, sRetN, sExp, sAsg, sIf, sSetA, sSetI, sAugA, sAugI, sPar, setAll, RS.ofE, RS.ofA, eAttr, eLoc, eCon, Res.bind, getA, aNil, aCons, aStar, eTup, eLst, eMeth, methA, kOf, kLone, kKw, eCallF, eCallL, callV, isFn, eMake, makeA, Zk.e2, orE, orG, eCB, Zk.g1, Zk.g2, tOfE, tNot, tAnd, tOr, tB2, isB, truth, eIf, eNot, eAnd, eOr, seqOf, gNm, gTupA, gsCons, gsNil, Zk.putAt, putN, setAt, keyOf, eD0, eIsi, isiA, tagOf, oIs, List.lookup, eTupV, eBM, tyA, oIx, oIxM, oIxS, oIxD, oIxL, oIxT, L2.atI, L2.ixN, lstOf, oAddI, oSub, iOp, iOpC, oInO, oIn, oInK, oInS, oInF, oInD, lenO, lenD, lenA, List.all_cons, List.all_nil, List.map_cons, List.map_nil, List.length_cons, List.length_nil, dget, em1, em2, valA_findK, findK, kn1, kn2, kn3, kn1.symm, kn2.symm, kn3.symm, SZ, oNe, oEqB, A.dat, A.dats, FU, hs2, hn2, Hq.n_upd, hd, shL, eqv_nil, show SeqAt.shaped (.list []) = true from by decide +kernel, he, oMod, hm]
          simp only [L2.atI, L2.ixN, List.length_map, List.getElem?_map] at hat
          rw [hat]
      have s1 : (sIf (tB2 (Zk.e2 oGt (Zk.e2 oIx (eLoc 0) (eCon (.str "left"))) (eCon (.int 0)))) (sSeq (sAsg (gNm 2) (Zk.e2 oMod (Zk.e2 oIx (eLoc 0) (eCon (.str "left"))) (eLoc 1)))
    (sSeq (sSetI (eLoc 0) (eCon (.str "left")) (Zk.e2 oDiv (Zk.e2 oIx (eLoc 0) (eCon (.str "left"))) (eLoc 1)))
    (sSeq (sRet (eLoc 2))
    sNil))) sNil) [some (.ref ma), some (.int total), none, none, none, none] h = .ok .nx [some (.ref ma), some (.int total), none, none, none, none] h := by
        simp [callF, callC, bdKw, bdStar, bdOr, runF, outF, slots0, sSeq, sNil, sRet, sRetN, sExp, sAsg, sIf, sSetA, sSetI, sAugA, sAugI, sPar, setAll, RS.ofE, RS.ofA, eAttr, eLoc, eCon, Res.bind, getA, aNil, aCons, aStar, eTup, eLst, eMeth, methA, kOf, kLone, kKw, eCallF, eCallL, callV, isFn, eMake, makeA, Zk.e2, orE, orG, eCB, Zk.g1, Zk.g2, tOfE, tNot, tAnd, tOr, tB2, isB, truth, eIf, eNot, eAnd, eOr, seqOf, gNm, gTupA, gsCons, gsNil, Zk.putAt, putN, setAt, keyOf, eD0, eIsi, isiA, tagOf, oIs, List.lookup, eTupV, eBM, tyA, oIx, oIxM, oIxS, oIxD, oIxL, oIxT, L2.atI, L2.ixN, lstOf, oAddI, oSub, iOp, iOpC, oInO, oIn, oInK, oInS, oInF, oInD, lenO, lenD, lenA, List.all_cons, List.all_nil, List.map_cons, List.map_nil, List.length_cons, List.length_nil, dget, em, valA_findK, findK, kn1, kn2, kn3, kn1.symm, kn2.symm, kn3.symm, oGt]
      have s2 : (sAsg (gNm 3) (Zk.e2 oIx (eLoc 0) (eCon (.str "at")))) [some (.ref ma), some (.int total), none, none, none, none] h = .ok .nx [some (.ref ma), some (.int total), none, some (.int at_), none, none] h := by
        simp [callF, callC, bdKw, bdStar, bdOr, runF, outF, slots0, sSeq, sNil, sRet, sRetN, sExp, sAsg, sIf, sSetA, sSetI, sAugA, sAugI, sPar, setAll, RS.ofE, RS.ofA, eAttr, eLoc, eCon, Res.bind, getA, aNil, aCons, aStar, eTup, eLst, eMeth, methA, kOf, kLone, kKw, eCallF, eCallL, callV, isFn, eMake, makeA, Zk.e2, orE, orG, eCB, Zk.g1, Zk.g2, tOfE, tNot, tAnd, tOr, tB2, isB, truth, eIf, eNot, eAnd, eOr, seqOf, gNm, gTupA, gsCons, gsNil, Zk.putAt, putN, setAt, keyOf, eD0, eIsi, isiA, tagOf, oIs, List.lookup, eTupV, eBM, tyA, oIx, oIxM, oIxS, oIxD, oIxL, oIxT, L2.atI, L2.ixN, lstOf, oAddI, oSub, iOp, iOpC, oInO, oIn, oInK, oInS, oInF, oInD, lenO, lenD, lenA, List.all_cons, List.all_nil, List.map_cons, List.map_nil, List.length_cons, List.length_nil, dget, em, valA_findK, findK, kn1, kn2, kn3, kn1.symm, kn2.symm, kn3.symm]
      have s3 : (sSetI (eLoc 0) (eCon (.str "at")) (Zk.e2 oAdd (eLoc 3) (eCon (.int 1)))) [some (.ref ma), some (.int total), none, some (.int at_), none, none] h = .ok .nx [some (.ref ma), some (.int total), none, some (.int at_), none, none] (h.upd ma (MO 0 (at_ + 1) 0)) := by
        simp [callF, callC, bdKw, bdStar, bdOr, runF, outF, slots0, sSeq, sNil, sRet, sRetN, sExp, sAsg, sIf, sSetA, sSetI, sAugA, sAugI, sPar, setAll, RS.ofE, RS.ofA, eAttr, eLoc, eCon, Res.bind, getA, aNil, aCons, aStar, eTup, eLst, eMeth, methA, kOf, kLone, kKw, eCallF, eCallL, callV, isFn, eMake, makeA, Zk.e2, orE, orG, eCB, Zk.g1, Zk.g2, tOfE, tNot, tAnd, tOr, tB2, isB, truth, eIf, eNot, eAnd, eOr, seqOf, gNm, gTupA, gsCons, gsNil, Zk.putAt, putN, setAt, keyOf, eD0, eIsi, isiA, tagOf, oIs, List.lookup, eTupV, eBM, tyA, oIx, oIxM, oIxS, oIxD, oIxL, oIxT, L2.atI, L2.ixN, lstOf, oAddI, oSub, iOp, iOpC, oInO, oIn, oInK, oInS, oInF, oInD, lenO, lenD, lenA, List.all_cons, List.all_nil, List.map_cons, List.map_nil, List.length_cons, List.length_nil, dget, em, putA, kn1, kn2, kn3, kn1.symm, kn2.symm, kn3.symm, oAdd, SZ]
      show outF (sSeq _ (sSeq _ (sSeq _ (sSeq _ _))) [some (.ref ma), some (.int total), none, none, none, none] h) = _
      rw [sq s1, sq s2, sq s3]
      refine (congrArg outF (sq (L1 := [some (.ref ma), some (.int total), none, some (.int at_), some (.int cell), none]) (h1 := ((h.upd ma (MO 0 (at_ + 1) 0)).new (.lst []))) ?_)).trans ?_
      · unfold sAsg; rw [hc]; rfl
      · rw [q]; rfl
    · rw [x.same l (show l < h.n + 1 by omega) no, nwL _ _ (show l < (h.upd ma (MO 0 (at_ + 1) 0)).n from hl), upN _ _ _ no]
end K95
end
section
set_option Elab.async false
set_option linter.all false
set_option maxRecDepth 100000
set_option maxHeartbeats 0
namespace K95
open PySem PySem.Spec PyProof.Rows Zk
open L2 (Key)
theorem begun_ok (n : Nat) {ns : List Int} {h : Hq} (w : Wf h) (h0 : h.get 0 = some (.rol (ns.map A.int))) : ∃ h', Q (n + 1) (.fn 27) [.ref 0] [] h = .ok (.ref h.n) h' ∧ Ext (fun _ => False) h h' ∧ Wf h' ∧ MAt ns h.n 0 h' ∧ h'.n = h.n + 1 := by
  have e1 : (h.new (.dic [])).get h.n = some (.dic []) := nwS _ _
  refine ⟨(h.new (.dic [])).upd h.n (MO 0 0 0), ?_, ⟨Nat.le_succ _, fun l hl _ => by rw [upN _ _ _ (Nat.ne_of_lt hl), nwL _ _ hl]⟩, (w.new _).upd _ (Nat.lt_succ_self _), ⟨⟨0, 0, upS _ _ _, Int.le_refl 0, by omega, Int.le_refl 0⟩, ?_⟩, rfl⟩
  · show D_27 (Q n) [.ref 0] [] h = _
    simp [D_27, callF, callC, bdKw, bdStar, bdOr, runF, outF, slots0, sSeq, sNil, sRet, sRetN, sExp, sAsg, sIf, sSetA, sSetI, sAugA, sAugI, sPar, setAll, RS.ofE, RS.ofA, eAttr, eLoc, eCon, Res.bind, getA, aNil, aCons, aStar, eTup, eLst, eMeth, methA, kOf, kLone, kKw, eCallF, eCallL, callV, isFn, eMake, makeA, Zk.e2, orE, orG, eCB, Zk.g1, Zk.g2, tOfE, tNot, tAnd, tOr, tB2, isB, truth, eIf, eNot, eAnd, eOr, seqOf, gNm, gTupA, gsCons, gsNil, Zk.putAt, putN, setAt, keyOf, eD0, eIsi, isiA, tagOf, oIs, List.lookup, eTupV, eBM, tyA, oIx, oIxM, oIxS, oIxD, oIxL, oIxT, L2.atI, L2.ixN, lstOf, oAddI, oSub, iOp, iOpC, oInO, oIn, oInK, oInS, oInF, oInD, lenO, lenD, lenA, List.all_cons, List.all_nil, List.map_cons, List.map_nil, List.length_cons, List.length_nil, eDisp, pCons, pNil, e1, mergeA, putA, kn1, kn2, kn3, kn1.symm, kn2.symm, kn3.symm]
  · have := w _ _ h0
    rw [upN _ _ _ (Nat.ne_of_lt this), nwL _ _ this]
    exact h0
abbrev Rl := Option (Nat × Nat)
/-- a rule's function: a link's (its extra, its place), or another -/
def relK (lg : Nat) (h : Hq) (a : A) : Rl → Prop
  | some (e, k) => ∃ l1 l2 l3, a = .clo 0 [l1, l2, l3] ∧ h.get l1 = some (.cel (some (.int (e : Nat)))) ∧ h.get l2 = some (.cel (some (.int (k : Nat)))) ∧ h.get l3 = some (.cel (some (.ref lg))) ∧ k < 6
  | none => a = .clo 1 []
theorem relK_ok (lg : Nat) : RelOk (relK lg) where
  st h h' a ρ q k := by
    cases ρ with
    | none => exact q
    | some p => obtain ⟨l1, l2, l3, e, a1, a2, a3, a4⟩ := q; exact ⟨l1, l2, l3, e, k _ _ a1, k _ _ a2, k _ _ a3, a4⟩
  fn h a ρ q := by
    cases ρ with
    | none => subst q; rfl
    | some p => obtain ⟨l1, l2, l3, e, _⟩ := q; subst e; rfl
theorem link_ok (n : Nat) {h : Hq} (w : Wf h) (lg e k : Nat) (hk : k < 6) : ∃ h', Q (n + 1) (.fn 29) [.int (k : Nat), .int (e : Nat), .ref lg] [] h = .ok (.clo 0 [h.n + 1, h.n + 0, h.n + 2]) h' ∧ relK lg h' (.clo 0 [h.n + 1, h.n + 0, h.n + 2]) (some (e, k)) ∧ Ext (fun _ => False) h h' ∧ Wf h' := by
  refine ⟨((h.new (.cel (some (.int (k : Nat))))).new (.cel (some (.int (e : Nat))))).new (.cel (some (.ref lg))), ?_, ⟨h.n + 1, h.n + 0, h.n + 2, rfl, ?_, ?_, ?_, hk⟩, ?_, ((w.new _).new _).new _⟩
  · show D_29 (Q n) [.int (k : Nat), .int (e : Nat), .ref lg] [] h = _
    simp [D_29, callD, bdKw, slots0, cellsIn, slotA, outB, outF, sSeq, sNdef, sSet, eClo, eCon, RS.ofE, sRet, eLoc]
  · simp [Hq.get_new, Hq.n_new, Nat.add_assoc]
  · simp [Hq.get_new, Hq.n_new, Nat.add_assoc]
  · simp [Hq.get_new, Hq.n_new, Nat.add_assoc]
  · exact ((Ext.new (W := fun _ => False) _).trans (Ext.new (W := fun _ => False) _) fun _ _ z => z).trans (Ext.new (W := fun _ => False) _) fun _ _ z => z
/-! ### names -/
def nmN (k : Nat) : Str := ("link" : Str) ++ ((toString ((k : Nat) : Int) : String) : Str)
def txN (k : Nat) : Str := (reprP (.tup [.str (nmN k), .tup []])).getD ⟨#[]⟩
theorem nm_ok : ∀ k < 6, nameOk (nmN k) = true := by decide +kernel
theorem nm_sh : ∀ k < 6, SeqAt.shaped (.str (nmN k)) = true := by decide +kernel
theorem tx_ok : ∀ k < 6, reprP (.tup [.str (nmN k), .tup []]) = some (txN k) := by decide +kernel
theorem nm_inj : ∀ k < 6, ∀ j < 6, nmN k = nmN j → k = j := by decide +kernel
theorem tx_inj : ∀ k < 6, ∀ j < 6, txN k = txN j → k = j := by decide +kernel
theorem same_int : ∀ a < 64, ∀ b < 64, sameP (.int ((a : Nat) : Int)) (.int ((b : Nat) : Int)) = some (decide (a = b)) := by decide +kernel
def keyC : Str := (noteK "cell" (.str "base")).getD ⟨#[]⟩
def keyN (k : Nat) : Str := (noteK "node" (.tup [.str (nmN k), .tup []])).getD ⟨#[]⟩
theorem keyC_ok : noteK "cell" (.str "base") = some keyC := by decide +kernel
theorem keyN_ok : ∀ k < 6, noteK "node" (.tup [.str (nmN k), .tup []]) = some (keyN k) := by decide +kernel
theorem lk_str : ∀ k : Nat, k < 6 → ((k : Int) - 1).natAbs.log2 < 1920 ∧ ("link" : Str).length + ((toString ((k : Int) - 1) : String) : Str).length ≤ 16777216 := by decide +kernel
theorem lk_str0 : ∀ k : Nat, k < 6 → ((k : Nat) : Int).natAbs.log2 < 1920 ∧ ("link" : Str).length + ((toString ((k : Nat) : Int) : String) : Str).length ≤ 16777216 := by decide +kernel
/-! ### what the links do -/
def addP (e : Nat) : A → Pr
  | .int i => .ret (.int ((e : Nat) + i))
  | _ => .no
def prK : Rl → List A → Pr
  | some (e, k), [] => .log (.int (k : Nat)) (if k = 0 then .cell "base" (addP e) else .call (nmN (k - 1)) [] (addP e))
  | _, _ => .no
theorem impl_ok {lg : Nat} {cl : Cl Rl} {m : Nat} (C : CallOk (relK lg) lg cl (m + 2)) : ImplOk (relK lg) lg prK cl (m + 4) := by
  intro n h S g c r kn b t rd nt kvs fv ρ ps v notes' S' R rf hrd hnt ord n1 n2 n3 hp hz e
  have K := relK_ok lg
  cases ρ with
  | none => simp [prK, runP] at e
  | some p =>
    obtain ⟨ex, k⟩ := p
    cases ps with
    | cons _ _ => simp [prK, runP] at e
    | nil =>
      obtain ⟨l1, l2, l3, rfl, c1, c2, c3, hk6⟩ := rf
      simp only [prK, runP] at e
      split at e
      · rename_i hlog
        have R1 := R.setL K (S.log ++ [A.int (k : Nat)])
        have ont : ¬ Ow g lg kn t kvs nt := R.ins hnt n1
        have nlr : rd ≠ lg := fun z => ord (.inr (.inr (.inr (.inl z))))
        have nln : nt ≠ lg := fun z => ont (.inr (.inr (.inr (.inl z))))
        have hrd1 : (h.upd lg (.lst (S.log ++ [.int (k : Nat)]))).get rd = some (RO g nt) := by rw [upN _ _ _ nlr]; exact hrd
        have hnt1 : (h.upd lg (.lst (S.log ++ [.int (k : Nat)]))).get nt = some (.dic []) := by rw [upN _ _ _ nln]; exact hnt
        have hll := R.hl
        have lz : S.log.length < 16777216 := by omega
        have X1 : Ext (fun l => Ow g lg kn t kvs l ∨ l = nt) h (h.upd lg (.lst (S.log ++ [.int (k : Nat)]))) := Ext.upd _ (.inl (.inr (.inr (.inr (.inl rfl)))))
        have hcap : capd h [l1, l2, l3] = some [.int (ex : Nat), .int (k : Nat), .ref lg] := by simp [capd, c1, c2, c3]
        have hD : Q (n + (m + 4)) (.clo 0 [l1, l2, l3]) [.ref rd] [] h = DC_0 (Q (n + (m + 3))) [l1, l2, l3] [.ref rd] [] h := rfl
        have hs1 : (sExp (eBM .lst gAppend (eLoc 3) (aCons (eLoc 2) aNil))) [some (.ref rd), some (.int (ex : Nat)), some (.int (k : Nat)), some (.ref lg)] h = .ok .nx [some (.ref rd), some (.int (ex : Nat)), some (.int (k : Nat)), some (.ref lg)] (h.upd lg (.lst (S.log ++ [.int (k : Nat)]))) := by
          simp [callF, callC, bdKw, bdStar, bdOr, runF, outF, slots0, sSeq, sNil, sRet, sRetN, sExp, sAsg, sIf, sSetA, sSetI, sAugA, sAugI, sPar, setAll, RS.ofE, RS.ofA, eAttr, eLoc, eCon, Res.bind, getA, aNil, aCons, aStar, eTup, eLst, eMeth, methA, kOf, kLone, kKw, eCallF, eCallL, callV, isFn, eMake, makeA, Zk.e2, orE, orG, eCB, Zk.g1, Zk.g2, tOfE, tNot, tAnd, tOr, tB2, isB, truth, eIf, eNot, eAnd, eOr, seqOf, gNm, gTupA, gsCons, gsNil, Zk.putAt, putN, setAt, keyOf, eD0, eIsi, isiA, tagOf, oIs, List.lookup, eTupV, eBM, tyA, oIx, oIxM, oIxS, oIxD, oIxL, oIxT, L2.atI, L2.ixN, lstOf, oAddI, oSub, iOp, iOpC, oInO, oIn, oInK, oInS, oInF, oInD, lenO, lenD, lenA, List.all_cons, List.all_nil, List.map_cons, List.map_nil, List.length_cons, List.length_nil, hll, gAppend, lz, SZ]
        by_cases hk : k = 0
        · subst hk
          simp only [if_true, runP, keyC_ok] at e
          cases ec : findK S.cells (.inr "base") with
          | none => simp [ec] at e
          | some cv =>
            simp only [ec, List.length_nil] at e
            rw [if_pos (by decide)] at e
            cases cv with
            | int i =>
              simp only [addP, runP] at e
              cases e
              have q := rcell_ok (n + m) R1 hrd1 hnt1 (by simp) keyC_ok ec
              have q : Q (n + (m + 3)) (.fn 6) [.ref rd, .str "base"] [] (h.upd lg (.lst (S.log ++ [.int ((0 : Nat) : Int)]))) = .ok (.int i) (noteH (h.upd lg (.lst (S.log ++ [.int ((0 : Nat) : Int)]))) nt [] (.inr keyC) (.tup [.str "cell", .str "base", .int i])) := q
              refine ⟨_, kvs, ?_, R1.note K hnt1 n1 n2 n3 (.inr keyC) (.tup [.str "cell", .str "base", .int i]), X1.trans noteH_ext fun _ _ z => .inr z, fun l o => .inl o, noteH_get hnt1, by rw [noteH_ne (fun z => by rw [z, hnt1] at hrd1; cases hrd1)]; exact hrd1⟩
              rw [hD]
              unfold DC_0 callC
              rw [hcap]
              show outF (sSeq (sExp (eBM .lst gAppend (eLoc 3) (aCons (eLoc 2) aNil))) _ [some (.ref rd), some (.int (ex : Nat)), some (.int ((0 : Nat) : Int)), some (.ref lg)] h) = _
              rw [sq hs1]
              have z0 : ((0 : Nat) : Int) = 0 := rfl
              rw [z0] at hrd1 q ⊢
              simp [sSeq, sRet, Zk.e2, eLoc, Res.bind, eIf, tB2, isB, oEq, oEqB, A.dat, FU, shI, PyData.eqv, eCon, eMeth, methA, hrd1, tb_cell, List.lookup, kOf, aCons, aNil, q, oAdd, orE, oAddI, iOp, RS.ofE, outF]
            | _ => simp [addP, runP] at e
        · simp only [if_neg hk, runP] at e
          cases ec : cl (nmN (k - 1)) [] { S with log := S.log ++ [.int (k : Nat)] } with
          | none => simp [ec] at e
          | some w =>
            obtain ⟨cv, S1⟩ := w
            cases ekn : noteK "node" (.tup [.str (nmN (k - 1)), .tup []]) with
            | none => simp [ec, ekn] at e
            | some key =>
              simp only [ec, ekn, List.length_nil] at e
              rw [if_pos (by decide)] at e
              cases cv with
              | int i =>
                simp only [addP, runP] at e
                cases e
                obtain ⟨hv, h2, k2, q, R2, F2⟩ := rcall_ok C n R1 hrd1 hnt1 ord ont (by simp) (by simp) ekn ec
                have hrd2 := F2.get R1.wf hrd1 ord
                have hnt2 := F2.get R1.wf hnt1 ont
                refine ⟨_, k2, ?_, R2.note K hnt2 n1 n2 n3 (.inr key) (.tup [.str "node", .tup [.str (nmN (k - 1)), .tup []], .int i]), (X1.trans F2.x fun _ _ z => .inl z).trans noteH_ext fun _ _ z => .inr z, F2.o, noteH_get hnt2, by rw [noteH_ne (fun z => by rw [z, hnt1] at hrd1; cases hrd1)]; exact hrd2⟩
                rw [hD]
                unfold DC_0 callC
                rw [hcap]
                show outF (sSeq (sExp (eBM .lst gAppend (eLoc 3) (aCons (eLoc 2) aNil))) _ [some (.ref rd), some (.int (ex : Nat)), some (.int (k : Nat)), some (.ref lg)] h) = _
                rw [sq hs1]
                have hk0 : ((k : Int) == 0) = false := beq_eq_false_iff_ne.mpr (by omega)
                have hnm : ("link" : Str) ++ ((toString ((k : Int) - 1) : String) : Str) = nmN (k - 1) := by
                  unfold nmN
                  rw [show ((k - 1 : Nat) : Int) = (k : Int) - 1 by omega]
                have hlg : ((k : Int) - 1).natAbs.log2 < 1920 := (lk_str k hk6).1
                have hll2 : ("link" : Str).length + ((toString ((k : Int) - 1) : String) : Str).length ≤ 16777216 := (lk_str k hk6).2
                have hnm2 : ("link" : Str) ++ ((((k : Int) - 1).repr : String) : Str) = nmN (k - 1) := hnm
                have hll3 : ("link" : Str).length + ((((k : Int) - 1).repr : String) : Str).length ≤ 16777216 := hll2
                simp [sSeq, sRet, Zk.e2, eLoc, Res.bind, eIf, tB2, isB, oEq, oEqB, A.dat, FU, shI, PyData.eqv, hk0, hk, eCon, eMeth, methA, hrd1, tb_call, List.lookup, kOf, aCons, aNil, oSub, iOp, eCB, Zk.g1, strA, hlg, oAdd, orE, oAddI, oAddS, SZ, hll3, hnm2, q, RS.ofE, outF]
              | _ => simp [addP, runP] at e
      · cases e
end K95
end
section
set_option Elab.async false
set_option linter.all false
set_option maxRecDepth 100000
set_option maxHeartbeats 0
namespace K95
open PySem PySem.Spec PyProof.Rows Zk
open L2 (Key)
theorem gcall_ok (lg : Nat) : ∀ f, CallOk (relK lg) lg (gcall prK f) (5 * f + 2)
  | 0 => fun n h S g c r kn b t kvs rn ps v S' R e => by cases e
  | f + 1 => call_ok (relK_ok lg) (m := 5 * f) (gcall_ok lg f) (impl_ok (gcall_ok lg f))
/-! ### the chain of links, plain -/
abbrev Kt := Nat → Option (Nat × Nat × Int)
def useP : Nat → Nat → A
  | 0, u => .tup [.str "cell", .str "base", .int (u : Nat)]
  | k + 1, u => .tup [.str "node", .tup [.str (nmN k), .tup []], .int (u : Nat)]
def mkNd (k : Nat) (p : Nat × Nat × Int) : Nd := ⟨nmN k, [], .int (p.1 : Nat), [useP k p.2.1], p.2.2⟩
structure Cs (n : Nat) (es V pv : Nat → Nat) (S : St Rl) (K : Kt) : Prop where
  n6 : n ≤ 6
  cell : findK S.cells (.inr "base") = some (.int ((10 : Nat) : Int))
  rule : ∀ k < n, findK S.rules (.inr (nmN k)) = some (some (es k, k))
  tl : S.tally.length = 4
  kn : ∀ k < n, findK S.known (.inr (txN k)) = (K k).map (mkNd k)
  ky : ∀ p ∈ S.known, ∃ k < n, p.1 = .inr (txN k)
  kd : (S.known.map (·.1)).Nodup
  ok : ∀ k < n, ∀ p, K k = some p → ((p.2.2 = S.rev ∨ p.2.1 = pv k) → p.1 = V k) ∧ p.2.1 < 64
  pv0 : pv 0 = 10
  pvS : ∀ k, pv (k + 1) = V k
  vS : ∀ k < n, V k = es k + pv k
  v64 : ∀ k < n, V k < 64 ∧ pv k < 64
def isCur (rev : Int) : Option (Nat × Nat × Int) → Bool
  | some p => decide (p.2.2 = rev)
  | none => false
def outK (V pv : Nat → Nat) (rev : Int) : Nat → Kt → Kt
  | 0, K => if isCur rev (K 0) = true then K else fun i => if i = 0 then some (V 0, pv 0, rev) else K i
  | k + 1, K => if isCur rev (K (k + 1)) = true then K else fun i => if i = k + 1 then some (V (k + 1), pv (k + 1), rev) else outK V pv rev k K i
def logK (pv : Nat → Nat) (rev : Int) : Nat → Kt → List Nat
  | 0, K => match K 0 with
    | none => [0]
    | some p => if p.2.2 = rev then [] else if p.2.1 = pv 0 then [] else [0]
  | k + 1, K => match K (k + 1) with
    | none => (k + 1) :: logK pv rev k K
    | some p => if p.2.2 = rev then [] else if p.2.1 = pv (k + 1) then logK pv rev k K else logK pv rev k K ++ [k + 1]
def bout (V pv : Nat → Nat) (rev : Int) : Nat → Kt → Kt
  | 0, K => K
  | k + 1, K => outK V pv rev k K
def blog (pv : Nat → Nat) (rev : Int) : Nat → Kt → List Nat
  | 0, _ => []
  | k + 1, K => logK pv rev k K
section
variable {V pv : Nat → Nat} {rev : Int}
theorem outK_gt : ∀ (k : Nat) (K : Kt) (i : Nat), k < i → outK V pv rev k K i = K i
  | 0, K, i, h => by
    unfold outK
    split
    · rfl
    · simp only [if_neg (show ¬ i = 0 by omega)]
  | k + 1, K, i, h => by
    unfold outK
    split
    · rfl
    · simp only [if_neg (show ¬ i = k + 1 by omega)]
      exact outK_gt k K i (by omega)
theorem bout_ge (k : Nat) (K : Kt) (i : Nat) (h : k ≤ i) : bout V pv rev k K i = K i := by
  cases k with
  | zero => rfl
  | succ k => exact outK_gt k K i h
theorem outK_cur : ∀ (k : Nat) (K : Kt), isCur rev (outK V pv rev k K k) = true
  | 0, K => by
    unfold outK
    split
    · rename_i h; exact h
    · simp [isCur]
  | k + 1, K => by
    unfold outK
    split
    · rename_i h; exact h
    · simp [isCur]
theorem outK_congr : ∀ (k : Nat) {K K' : Kt}, (∀ i, i ≤ k → K i = K' i) → ∀ i, i ≤ k → outK V pv rev k K i = outK V pv rev k K' i
  | 0, K, K', h, i, hi => by
    unfold outK
    rw [h 0 (Nat.le_refl 0)]
    split
    · exact h i hi
    · have : i = 0 := by omega
      simp [this]
  | k + 1, K, K', h, i, hi => by
    unfold outK
    rw [h (k + 1) (Nat.le_refl _)]
    split
    · exact h i hi
    · by_cases e : i = k + 1
      · simp [e]
      · simp only [if_neg e]
        exact outK_congr k (fun j hj => h j (by omega)) i (by omega)
theorem logK_congr : ∀ (k : Nat) {K K' : Kt}, (∀ i, i ≤ k → K i = K' i) → logK pv rev k K = logK pv rev k K'
  | 0, K, K', h => by unfold logK; rw [h 0 (Nat.le_refl 0)]
  | k + 1, K, K', h => by
    unfold logK
    rw [h (k + 1) (Nat.le_refl _), logK_congr k fun j hj => h j (by omega)]
theorem logK_len : ∀ (k : Nat) (K : Kt), (logK pv rev k K).length ≤ k + 1
  | 0, K => by
    unfold logK
    split
    · simp
    · split
      · simp
      · split <;> simp
  | k + 1, K => by
    have := logK_len k K
    unfold logK
    split
    · simp; omega
    · split
      · simp
      · split
        · omega
        · simp; omega
theorem blog_len (k : Nat) (K : Kt) : (blog pv rev k K).length ≤ k := by
  cases k with
  | zero => simp [blog]
  | succ k => exact logK_len k K
theorem cur_same : ∀ (k : Nat) (K : Kt), isCur rev (K k) = true → outK V pv rev k K = K ∧ logK pv rev k K = []
  | 0, K, h => by
    refine ⟨by unfold outK; rw [if_pos h], ?_⟩
    unfold logK
    cases e : K 0 with
    | none => rw [e] at h; cases h
    | some p => rw [e] at h; simp only [isCur, decide_eq_true_eq] at h; simp [h]
  | k + 1, K, h => by
    refine ⟨by unfold outK; rw [if_pos h], ?_⟩
    unfold logK
    cases e : K (k + 1) with
    | none => rw [e] at h; cases h
    | some p => rw [e] at h; simp only [isCur, decide_eq_true_eq] at h; simp [h]
theorem bout_twice (k : Nat) (K : Kt) : bout V pv rev k (bout V pv rev k K) = bout V pv rev k K ∧ blog pv rev k (bout V pv rev k K) = [] := by
  cases k with
  | zero => exact ⟨rfl, rfl⟩
  | succ k => exact cur_same k _ (outK_cur k K)
end
theorem sub_len {α : Type} [DecidableEq α] : ∀ (l m : List α), l.Nodup → (∀ x ∈ l, x ∈ m) → l.length ≤ m.length
  | [], _, _, _ => Nat.zero_le _
  | x :: l, m, nd, h => by
    have nd' := List.nodup_cons.mp nd
    have hx := h x (.head _)
    have z := sub_len l (m.erase x) nd'.2 fun y hy => (List.mem_erase_of_ne (fun e => nd'.1 (by rw [← e]; exact hy))).mpr (h y (.tail _ hy))
    rw [List.length_erase_of_mem hx] at z
    have : 0 < m.length := List.length_pos_of_mem hx
    simp only [List.length_cons]
    omega
theorem Cs.few {n : Nat} {es V pv : Nat → Nat} {S : St Rl} {K : Kt} (C : Cs n es V pv S K) : S.known.length ≤ 6 := by
  have z := sub_len (S.known.map (·.1)) ((List.range n).map fun k => (.inr (txN k) : Key)) C.kd fun x hx => by
    obtain ⟨p, hp, e⟩ := List.mem_map.mp hx
    obtain ⟨k, hk, e2⟩ := C.ky p hp
    exact List.mem_map.mpr ⟨k, List.mem_range.mpr hk, by rw [← e2]; exact e⟩
  simp at z
  have := C.n6
  omega
/-- how the link below is read -/
def Prev (cl : Cl Rl) (pv : Nat → Nat) : Nat → St Rl → St Rl → Prop
  | 0, S, S1 => S1 = S
  | k + 1, S, S1 => cl (nmN k) [] S = some (.int ((pv (k + 1) : Nat) : Int), S1)
section
variable {n : Nat} {es V pv : Nat → Nat} {S : St Rl} {K : Kt} {cl : Cl Rl}
theorem unch_use (C : Cs n es V pv S K) {k u : Nat} (hk : k < n) (hu : u < 64) {S1 : St Rl} (p : Prev cl pv k S S1) : unch cl (useP k u) S = some (decide (pv k = u), S1) := by
  have h64 := (C.v64 k hk).2
  cases k with
  | zero =>
    have p : S1 = S := p
    subst p
    have := same_int 10 (by decide) u hu
    simp [useP, unch, pureA, C.cell, C.pv0] at this ⊢
    exact this
  | succ k =>
    have p : cl (nmN k) [] S = some (.int ((pv (k + 1) : Nat) : Int), S1) := p
    have := same_int _ h64 u hu
    have hne : ("node" : Str) ≠ "cell" := by decide +kernel
    simp [useP, unch, pureA, hne, p, this]
theorem comp_use (C : Cs n es V pv S K) {k : Nat} (hk : k < n) (hl : S.log.length < 100000) {S1 : St Rl} (p : Prev cl pv k { S with log := S.log ++ [.int (k : Nat)] } S1) : comp prK cl (nmN k) [] S = some (mkNd k (V k, pv k, S1.rev), S1) := by
  have hr := C.rule k hk
  have hv := C.vS k hk
  have hn6 := C.n6
  cases k with
  | zero =>
    have p : S1 = { S with log := S.log ++ [.int ((0 : Nat) : Int)] } := p
    subst p
    have e1 : runP cl (prK (some (es 0, 0)) []) [] S = some (.int ((V 0 : Nat) : Int), [(.inr keyC, useP 0 10)], { S with log := S.log ++ [.int ((0 : Nat) : Int)] }) := by
      simp only [prK, runP, if_pos hl, if_true, keyC_ok, C.cell, List.length_nil]
      rw [if_pos (by decide)]
      simp only [addP, runP, hv, C.pv0]
      rfl
    unfold comp
    rw [hr]
    simp only [e1]
    rw [if_pos ⟨rfl, by simp⟩, C.pv0]
    rfl
  | succ k =>
    have p : cl (nmN k) [] { S with log := S.log ++ [.int ((k + 1 : Nat) : Int)] } = some (.int ((pv (k + 1) : Nat) : Int), S1) := p
    have e1 : runP cl (prK (some (es (k + 1), k + 1)) []) [] S = some (.int ((V (k + 1) : Nat) : Int), [(.inr (keyN k), useP (k + 1) (pv (k + 1)))], S1) := by
      simp only [prK, runP, if_pos hl, if_neg (Nat.succ_ne_zero k), Nat.add_sub_cancel, p, keyN_ok k (by omega), List.length_nil]
      rw [if_pos (by decide)]
      simp only [addP, runP, hv]
      rfl
    unfold comp
    rw [hr]
    simp only [e1]
    rw [if_pos ⟨rfl, by simp⟩]
    rfl
end
end K95
end
section
set_option Elab.async false
set_option linter.all false
set_option maxRecDepth 100000
set_option maxHeartbeats 0
namespace K95
open PySem PySem.Spec PyProof.Rows Zk
open L2 (Key)
section
variable {n : Nat} {es V pv : Nat → Nat} {S : St Rl} {K : Kt} {cl : Cl Rl}
def setN (K : Kt) (k : Nat) (x : Option (Nat × Nat × Int)) : Kt := fun i => if i = k then x else K i
/-- after a call of the k-th link -/
structure After (n : Nat) (es V pv : Nat → Nat) (S : St Rl) (k : Nat) (S1 : St Rl) (K1 : Kt) (lg : List Nat) : Prop where
  cs : Cs n es V pv S1 K1
  busy : S1.busy = S.busy
  rev : S1.rev = S.rev
  log : S1.log = S.log ++ lg.map fun k => A.int (k : Nat)
  cells : S1.cells = S.cells
  rules : S1.rules = S.rules
theorem dropK_find {β : Type} {l : List (Key × β)} {k k' : Key} : findK (dropK l k) k' = if k' = k then none else findK l k' := by
  unfold dropK findK
  induction l with
  | nil => simp
  | cons x l ih =>
    by_cases e : x.1 = k
    · rw [List.filter_cons_of_neg (by simp [e])]
      by_cases e2 : k' = k
      · simp only [if_pos e2] at ih ⊢; exact ih
      · simp only [if_neg e2] at ih ⊢
        rw [List.find?_cons_of_neg (by simp [e]; exact fun z => e2 z.symm)]
        exact ih
    · rw [List.filter_cons_of_pos (by simp [e])]
      by_cases e3 : x.1 = k'
      · have : k' ≠ k := fun z => e (e3.trans z)
        simp [e3, this]
      · rw [List.find?_cons_of_neg (by simp [e3]), List.find?_cons_of_neg (by simp [e3])]
        exact ih
theorem app_find {β : Type} {l : List (Key × β)} {k k' : Key} {v : β} (e : findK l k = none) : findK (l ++ [(k, v)]) k' = if k' = k then some v else findK l k' := by
  unfold findK at e ⊢
  rw [List.find?_append]
  by_cases e2 : k' = k
  · subst e2
    cases q : l.find? fun kv => decide (kv.1 = k') with
    | some p => rw [q] at e; cases e
    | none => simp
  · have : ¬ k = k' := fun z => e2 z.symm
    cases q : l.find? fun kv => decide (kv.1 = k') <;> simp [this, e2]
theorem Cs.bump (C : Cs n es V pv S K) (i : Nat) : Cs n es V pv (K95.bump S i) K :=
  ⟨C.n6, C.cell, C.rule, by simp [K95.bump, C.tl], C.kn, C.ky, C.kd, C.ok, C.pv0, C.pvS, C.vS, C.v64⟩
theorem Cs.busy (C : Cs n es V pv S K) (bs : List Str) : Cs n es V pv { S with busy := bs } K := ⟨C.n6, C.cell, C.rule, C.tl, C.kn, C.ky, C.kd, C.ok, C.pv0, C.pvS, C.vS, C.v64⟩
theorem Cs.log (C : Cs n es V pv S K) (xs : List A) : Cs n es V pv { S with log := xs } K := ⟨C.n6, C.cell, C.rule, C.tl, C.kn, C.ky, C.kd, C.ok, C.pv0, C.pvS, C.vS, C.v64⟩
theorem txi {i k : Nat} (hi : i < 6) (hk : k < 6) : ((.inr (txN i) : Key) = .inr (txN k)) ↔ i = k :=
  ⟨fun e => tx_inj i hi k hk (Sum.inr.inj e), fun e => by rw [e]⟩
theorem Cs.drop (C : Cs n es V pv S K) {k : Nat} (hk : k < n) : Cs n es V pv { S with known := dropK S.known (.inr (txN k)) } (setN K k none) := by
  have n6 := C.n6
  refine ⟨C.n6, C.cell, C.rule, C.tl, fun i hi => ?_, fun p hp => C.ky p (drop_sub hp).1, (List.Sublist.map _ List.filter_sublist).nodup C.kd, fun i hi p e => ?_, C.pv0, C.pvS, C.vS, C.v64⟩
  · show findK (dropK S.known (.inr (txN k))) (.inr (txN i)) = _
    rw [dropK_find, C.kn i hi]
    unfold setN
    by_cases e : i = k
    · subst e; simp
    · rw [if_neg (fun z => e ((txi (by omega) (by omega)).mp z)), if_neg e]
  · unfold setN at e
    split at e
    · cases e
    · exact C.ok i hi p e
theorem Cs.put (C : Cs n es V pv S K) {k : Nat} (hk : k < n) (h0 : K k = none) : Cs n es V pv { S with known := S.known ++ [(.inr (txN k), mkNd k (V k, pv k, S.rev))] } (setN K k (some (V k, pv k, S.rev))) := by
  have n6 := C.n6
  have ef : findK S.known (.inr (txN k)) = none := by rw [C.kn k hk, h0]; rfl
  refine ⟨C.n6, C.cell, C.rule, C.tl, fun i hi => ?_, fun p hp => ?_, ?_, fun i hi p e => ?_, C.pv0, C.pvS, C.vS, C.v64⟩
  · show findK (S.known ++ [(.inr (txN k), mkNd k (V k, pv k, S.rev))]) (.inr (txN i)) = _
    rw [app_find ef, C.kn i hi]
    unfold setN
    by_cases e : i = k
    · subst e; simp
    · rw [if_neg (fun z => e ((txi (by omega) (by omega)).mp z)), if_neg e]
  · rcases List.mem_append.mp hp with hp | hp
    · exact C.ky p hp
    · simp at hp; subst hp; exact ⟨k, hk, rfl⟩
  · rw [List.map_append]
    refine List.nodup_append.mpr ⟨C.kd, by simp, fun x hx y hy z => ?_⟩
    simp at hy
    subst hy z
    obtain ⟨p, hp, ep⟩ := List.mem_map.mp hx
    exact find_no ef p hp ep
  · unfold setN at e
    split at e
    · rename_i z; subst z; cases e; exact ⟨fun _ => rfl, (C.v64 i hi).2⟩
    · exact C.ok i hi p e
theorem keep_ok (C : Cs n es V pv S K) {k : Nat} (hk : k < n) (h0 : K k = none) (j : Nat) {d : Nd} (hd : d = mkNd k (V k, pv k, S.rev)) :
    ∃ S1, keep S (txN k) d j = some (.int ((V k : Nat) : Int), S1) ∧ Cs n es V pv S1 (setN K k (some (V k, pv k, S.rev))) ∧ S1.busy = S.busy ∧ S1.rev = S.rev ∧ S1.log = S.log ∧ S1.cells = S.cells ∧ S1.rules = S.rules := by
  subst hd
  have ef : findK S.known (.inr (txN k)) = none := by rw [C.kn k hk, h0]; rfl
  have fw := C.few
  refine ⟨bump { S with known := S.known ++ [(.inr (txN k), mkNd k (V k, pv k, S.rev))] } j, ?_, (C.put hk h0).bump j, rfl, rfl, rfl, rfl, rfl⟩
  unfold keep
  rw [if_pos ⟨by omega, by rw [ef]; rfl, C.tl⟩]
  rfl
def PrevOk (n : Nat) (es V pv : Nat → Nat) (cl : Cl Rl) (k : Nat) : Prop := ∀ (S : St Rl) (K : Kt), Cs n es V pv S K → (∀ i < k, txN i ∉ S.busy) → S.busy.length + k < 1000 → S.log.length + 10 * k < 80000 → ∃ S1, Prev cl pv k S S1 ∧ After n es V pv S k S1 (bout V pv S.rev k K) (blog pv S.rev k K)
theorem step_ok {k : Nat} (P : PrevOk n es V pv cl k) (hk : k < n) (C : Cs n es V pv S K) (hb : ∀ i ≤ k, txN i ∉ S.busy) (hbl : S.busy.length + (k + 1) < 1000) (hl : S.log.length + 10 * (k + 1) < 80000) :
    ∃ S1, gstep prK cl (nmN k) [] S = some (.int ((V k : Nat) : Int), S1) ∧ After n es V pv S k S1 (if isCur S.rev (K k) = true then K else setN (bout V pv S.rev k (setN K k none)) k (some (V k, pv k, S.rev))) (match K k with
      | none => k :: blog pv S.rev k K
      | some p => if p.2.2 = S.rev then [] else if p.2.1 = pv k then blog pv S.rev k K else blog pv S.rev k K ++ [k]) := by
  have n6 := C.n6
  have hk6 : k < 6 := by omega
  have hg : (findK S.rules (.inr (nmN k))).isSome = true ∧ ([] : List A).all flatS = true ∧ ([] : List A).length < 100 ∧ S.busy.length < 1000 ∧ S.tally.length = 4 ∧ SeqAt.shaped (.str (nmN k)) = true := ⟨by rw [C.rule k hk]; rfl, rfl, by decide, by omega, C.tl, nm_sh k hk6⟩
  unfold gstep
  rw [if_pos hg, tx_ok k hk6]
  simp only
  rw [if_neg (hb k (Nat.le_refl k))]
  have ekn := C.kn k hk
  have bc : ∀ K2 : Kt, (∀ i, i < k → K2 i = K i) → blog pv S.rev k K2 = blog pv S.rev k K := fun K2 h => by
    cases k with
    | zero => rfl
    | succ k => exact logK_congr k fun i hi => h i (by omega)
  have bnd : ∀ i < k, txN i ∉ S.busy ++ [txN k] := fun i hi m => by
    rcases List.mem_append.mp m with m | m
    · exact hb i (by omega) m
    · simp at m
      exact absurd (tx_inj i (by omega) k hk6 m) (by omega)
  cases eK : K k with
  | none =>
    rw [eK] at ekn
    have ecur : curr S (txN k) = none := by unfold curr; rw [ekn]; rfl
    have enot : isCur S.rev none = false := rfl
    rw [ecur]
    simp only
    unfold refr
    simp only [ekn, Option.map_none]
    have C1 := (C.busy (S.busy ++ [txN k])).log (S.log ++ [.int (k : Nat)])
    have hK : setN K k none = K := by
      funext i
      unfold setN
      split
      · rename_i z; rw [z, eK]
      · rfl
    obtain ⟨S1, p, Af⟩ := P _ _ C1 bnd (by simp; omega) (by simp; omega)
    have ecomp := comp_use (C.busy (S.busy ++ [txN k])) hk (by show S.log.length < 100000; omega) p
    rw [ecomp]
    simp only
    have h0 : bout V pv S.rev k K k = none := by rw [bout_ge k K k (Nat.le_refl k)]; exact eK
    obtain ⟨S2, q, C2, b2, r2, l2, c2, u2⟩ := keep_ok Af.cs hk h0 3 (d := mkNd k (V k, pv k, S1.rev)) (by rw [Af.rev])
    rw [q]
    refine ⟨{ S2 with busy := S.busy }, rfl, ?_⟩
    have r1 : S1.rev = S.rev := Af.rev
    refine ⟨?_, rfl, r2.trans r1, ?_, c2.trans Af.cells, u2.trans Af.rules⟩
    · rw [enot]
      simp only [hK]
      rw [r1] at C2
      exact C2.busy _
    · show S2.log = _
      rw [l2, Af.log]
      simp
  | some pp =>
    obtain ⟨f, u, s⟩ := pp
    rw [eK] at ekn
    have ekn : findK S.known (.inr (txN k)) = some (mkNd k (f, u, s)) := ekn
    obtain ⟨okv, ok64⟩ := C.ok k hk _ eK
    by_cases es' : s = S.rev
    · have ecur : curr S (txN k) = some (.int (f : Nat)) := by unfold curr; rw [ekn]; simp [mkNd, es']
      rw [ecur]
      have hf : f = V k := okv (.inl es')
      refine ⟨bump S 0, by rw [hf], ?_⟩
      have : isCur S.rev (some (f, u, s)) = true := by simp [isCur, es']
      rw [this]
      simp only [es']
      exact ⟨C.bump 0, rfl, rfl, by simp [bump], rfl, rfl⟩
    · have ecur : curr S (txN k) = none := by unfold curr; rw [ekn]; simp [mkNd, es']
      rw [ecur]
      have enot : isCur S.rev (some (f, u, s)) = false := by simp [isCur, es']
      simp only
      unfold refr
      simp only [ekn]
      have C1 := (C.busy (S.busy ++ [txN k])).drop hk
      obtain ⟨S1, p, Af⟩ := P _ _ C1 bnd (by simp; omega) (by show S.log.length + 10 * k < 80000; omega)
      have eu := unch_use C1 hk ok64 p
      have r1 : S1.rev = S.rev := Af.rev
      have hbl2 : blog pv S.rev k (setN K k none) = blog pv S.rev k K := bc _ fun i hi => by unfold setN; rw [if_neg (by omega)]
      have l1 : S1.log = S.log ++ (blog pv S.rev k K).map fun k => A.int (k : Nat) := by rw [Af.log]; show S.log ++ (blog pv S.rev k (setN K k none)).map _ = _; rw [hbl2]
      have h0 : bout V pv S.rev k (setN K k none) k = none := by rw [bout_ge k _ k (Nat.le_refl k)]; simp [setN]
      have econf : conf cl (mkNd k (f, u, s)).uses { S with busy := S.busy ++ [txN k], known := dropK S.known (.inr (txN k)) } = some (decide (pv k = u), S1) := by
        show conf cl [useP k u] _ = _
        unfold conf
        rw [eu]
        by_cases e : pv k = u
        · simp only [e, decide_true]; rfl
        · simp only [e, decide_false]
      rw [econf]
      by_cases e : pv k = u
      · simp only [e, decide_true]
        have hf : f = V k := okv (.inr e.symm)
        obtain ⟨S2, q, C2, b2, r2, l2, c2, u2⟩ := keep_ok Af.cs hk h0 1 (d := { mkNd k (f, u, s) with seen := S1.rev }) (by rw [hf, ← e]; rfl)
        rw [q]
        refine ⟨{ S2 with busy := S.busy }, rfl, ?_⟩
        refine ⟨?_, rfl, r2.trans r1, ?_, c2.trans Af.cells, u2.trans Af.rules⟩
        · rw [enot]
          rw [r1, e] at C2
          exact C2.busy _
        · show S2.log = _
          rw [l2, l1]
          simp [es']
      · simp only [e, decide_false]
        have hll := blog_len (pv := pv) (rev := S.rev) k K
        have l1n : S1.log.length ≤ S.log.length + k := by rw [l1]; simp; omega
        have b1 : S1.busy = S.busy ++ [txN k] := Af.busy
        obtain ⟨S3, p3, Af3⟩ := P _ _ (Af.cs.log (S1.log ++ [.int (k : Nat)])) (by rw [b1]; exact bnd) (by rw [b1]; simp; omega) (by simp; omega)
        have ecomp := comp_use Af.cs hk (by omega) p3
        rw [ecomp]
        simp only
        obtain ⟨t1, t2⟩ := bout_twice (V := V) (pv := pv) (rev := S.rev) k (setN K k none)
        have r3 : S3.rev = S.rev := Af3.rev.trans r1
        have Cs3 : Cs n es V pv S3 (bout V pv S.rev k (setN K k none)) := by
          have := Af3.cs
          rw [show ({ S1 with log := S1.log ++ [.int (k : Nat)] } : St Rl).rev = S.rev from r1, t1] at this
          exact this
        have l3 : S3.log = S1.log ++ [.int (k : Nat)] := by
          have := Af3.log
          rw [show ({ S1 with log := S1.log ++ [.int (k : Nat)] } : St Rl).rev = S.rev from r1, t2] at this
          simpa using this
        obtain ⟨S2, q, C2, b2, r2, l2, c2, u2⟩ := keep_ok Cs3 hk h0 2 (d := mkNd k (V k, pv k, S3.rev)) rfl
        rw [q]
        refine ⟨{ S2 with busy := S.busy }, rfl, ?_⟩
        refine ⟨?_, rfl, r2.trans r3, ?_, (c2.trans Af3.cells).trans Af.cells, (u2.trans Af3.rules).trans Af.rules⟩
        · rw [enot]
          rw [r3] at C2
          exact C2.busy _
        · show S2.log = _
          have e' : ¬ u = pv k := fun z => e z.symm
          rw [l2, l3, l1]
          simp [es', e']
end
end K95
end
section
set_option Elab.async false
set_option linter.all false
set_option maxRecDepth 100000
set_option maxHeartbeats 0
namespace K95
open PySem PySem.Spec PyProof.Rows Zk
open L2 (Key)
section
variable {n : Nat} {es V pv : Nat → Nat} {S : St Rl} {K : Kt}
theorem outK_eq (rev : Int) (k : Nat) (K : Kt) : (if isCur rev (K k) = true then K else setN (bout V pv rev k (setN K k none)) k (some (V k, pv k, rev))) = outK V pv rev k K := by
  cases k with
  | zero =>
    unfold outK
    split
    · rfl
    · funext i
      simp only [setN, bout]
      by_cases e : i = 0 <;> simp [e]
  | succ k =>
    unfold outK
    split
    · rfl
    · funext i
      simp only [setN, bout]
      by_cases e : i = k + 1
      · simp [e]
      · simp only [if_neg e]
        by_cases h : i ≤ k
        · exact outK_congr k (fun j hj => by show setN K (k + 1) none j = K j; unfold setN; rw [if_neg (by omega)]) i h
        · rw [outK_gt k _ i (by omega), outK_gt k _ i (by omega)]
          unfold setN
          rw [if_neg e]
theorem logK_eq (rev : Int) (k : Nat) (K : Kt) : (match K k with
      | none => k :: blog pv rev k K
      | some p => if p.2.2 = rev then [] else if p.2.1 = pv k then blog pv rev k K else blog pv rev k K ++ [k]) = logK pv rev k K := by
  cases k with
  | zero => unfold logK blog; rfl
  | succ k => unfold logK blog; rfl
theorem chain : ∀ (k f : Nat) {S : St Rl} {K : Kt}, k < f → k < n → Cs n es V pv S K → (∀ i ≤ k, txN i ∉ S.busy) → S.busy.length + (k + 1) < 1000 → S.log.length + 10 * (k + 1) < 80000 →
    ∃ S1, gcall prK f (nmN k) [] S = some (.int ((V k : Nat) : Int), S1) ∧ After n es V pv S k S1 (outK V pv S.rev k K) (logK pv S.rev k K)
  | k, 0, S, K, h, _, _, _, _, _ => absurd h (Nat.not_lt_zero _)
  | 0, f + 1, S, K, h, hk, C, hb, hbl, hl => by
    have P : PrevOk n es V pv (gcall prK f) 0 := fun S K C _ _ _ => ⟨S, rfl, C, rfl, rfl, by simp [blog], rfl, rfl⟩
    have z := step_ok P hk C hb hbl hl
    rw [outK_eq] at z
    obtain ⟨S1, q, A⟩ := z
    refine ⟨S1, q, ?_⟩
    rw [← logK_eq]
    exact A
  | k + 1, f + 1, S, K, h, hk, C, hb, hbl, hl => by
    have P : PrevOk n es V pv (gcall prK f) (k + 1) := fun S K C hb hbl hl => by
      obtain ⟨S1, q, A⟩ := chain k f (by omega) (by omega) C (fun i hi => hb i (by omega)) (by omega) (by omega)
      exact ⟨S1, by show gcall prK f (nmN k) [] S = _; rw [q, C.pvS k], ⟨A.cs, A.busy, A.rev, A.log, A.cells, A.rules⟩⟩
    have z := step_ok P hk C hb hbl hl
    rw [outK_eq] at z
    obtain ⟨S1, q, A⟩ := z
    refine ⟨S1, q, ?_⟩
    rw [← logK_eq]
    exact A
/-! ### how many -/
def cntK : Nat → Kt → Nat
  | 0, _ => 0
  | n + 1, K => (if (K n).isSome = true then 1 else 0) + cntK n K
theorem drop_len {β : Type} {k : Key} : ∀ {l : List (Key × β)}, (l.map (·.1)).Nodup → (findK l k).isSome = true → (dropK l k).length + 1 = l.length
  | [], _, h => by cases h
  | x :: l, nd, h => by
    rw [List.map_cons] at nd
    have nd' := List.nodup_cons.mp nd
    by_cases e : x.1 = k
    · have hno : dropK l k = l := by
        unfold dropK
        exact List.filter_eq_self.mpr fun p hp => decide_eq_true fun z => nd'.1 (List.mem_map.mpr ⟨p, hp, z.trans e.symm⟩)
      have : dropK (x :: l) k = dropK l k := by unfold dropK; rw [List.filter_cons_of_neg (by simp [e])]
      rw [this, hno]; rfl
    · have h2 : (findK l k).isSome = true := by
        unfold findK at h ⊢
        rw [List.find?_cons_of_neg (by simp [e])] at h
        exact h
      have z := drop_len nd'.2 h2
      have : dropK (x :: l) k = x :: dropK l k := by unfold dropK; rw [List.filter_cons_of_pos (by simp [e])]
      rw [this, List.length_cons, List.length_cons, z]
theorem len_cnt : ∀ (n : Nat) (l : List (Key × Nd)) (K : Kt), n ≤ 6 → (l.map (·.1)).Nodup → (∀ p ∈ l, ∃ k < n, p.1 = .inr (txN k)) → (∀ k < n, (findK l (.inr (txN k))).isSome = (K k).isSome) → l.length = cntK n K
  | 0, l, K, _, _, ky, _ => by
    cases l with
    | nil => rfl
    | cons p l => obtain ⟨k, hk, _⟩ := ky p (.head _); omega
  | n + 1, l, K, n6, kd, ky, kn => by
    have h0 := kn n (Nat.lt_succ_self n)
    have ih := len_cnt n (dropK l (.inr (txN n))) K (by omega) ((List.Sublist.map _ List.filter_sublist).nodup kd) (fun p hp => by
      obtain ⟨h1, h2⟩ := drop_sub hp
      obtain ⟨k, hk, e⟩ := ky p h1
      refine ⟨k, ?_, e⟩
      have : k ≠ n := fun z => h2 (by rw [e, z])
      omega) fun k hk => by
      rw [dropK_find, if_neg (fun z => by have := (txi (by omega) (by omega)).mp z; omega)]
      exact kn k (by omega)
    unfold cntK
    cases e : (K n).isSome with
    | true =>
      rw [e] at h0
      have := drop_len kd h0
      simp only [if_true]
      omega
    | false =>
      rw [e] at h0
      have hno : dropK l (.inr (txN n)) = l := by
        unfold dropK
        refine List.filter_eq_self.mpr fun p hp => decide_eq_true fun z => ?_
        cases q : findK l (.inr (txN n)) with
        | some v => rw [q] at h0; cases h0
        | none => exact find_no q p hp z
      rw [hno] at ih
      simp
      exact ih
theorem Cs.len (C : Cs n es V pv S K) : S.known.length = cntK n K := len_cnt n S.known K C.n6 C.kd C.ky fun k hk => by rw [C.kn k hk]; cases K k <;> rfl
/-- each node by its number -/
theorem Cs.node (C : Cs n es V pv S K) {p : Key × Nd} (hp : p ∈ S.known) : ∃ k < n, ∃ x, K k = some x ∧ p.2 = mkNd k x := by
  obtain ⟨k, hk, e⟩ := C.ky p hp
  have key : ∀ {l : List (Key × Nd)} {p : Key × Nd}, (l.map (·.1)).Nodup → p ∈ l → findK l p.1 = some p.2 := by
    intro l p
    induction l with
    | nil => intro _ m; cases m
    | cons x l ih =>
      intro nd m
      rw [List.map_cons] at nd
      have nd' := List.nodup_cons.mp nd
      unfold findK
      rcases List.mem_cons.mp m with rfl | m
      · simp
      · have : ¬ x.1 = p.1 := fun z => nd'.1 (List.mem_map.mpr ⟨p, m, z.symm⟩)
        rw [List.find?_cons_of_neg (by simp [this])]
        exact ih nd'.2 m
  have q := key C.kd hp
  rw [e, C.kn k hk] at q
  cases eK : K k with
  | none => rw [eK] at q; cases q
  | some x => rw [eK] at q; exact ⟨k, hk, x, eK, (Option.some.inj q).symm⟩
theorem Cs.out0 (C : Cs n es V pv S K) (h : ∀ k < n, ∀ x, K k = some x → x.2.2 = S.rev) : outN S = 0 := by
  unfold outN
  rw [List.length_eq_zero_iff]
  refine List.filter_eq_nil_iff.mpr fun p hp => ?_
  obtain ⟨k, hk, x, eK, ep⟩ := C.node hp
  rw [ep]
  simp [mkNd, h k hk x eK]
theorem Cs.outAll (C : Cs n es V pv S K) (h : ∀ k < n, ∀ x, K k = some x → x.2.2 ≠ S.rev) : outN S = S.known.length := by
  unfold outN
  rw [List.filter_eq_self.mpr]
  intro p hp
  obtain ⟨k, hk, x, eK, ep⟩ := C.node hp
  rw [ep]
  simp [mkNd, h k hk x eK]
theorem cntK_congr : ∀ (n : Nat) {K K' : Kt}, (∀ k < n, (K k).isSome = (K' k).isSome) → cntK n K = cntK n K'
  | 0, _, _, _ => rfl
  | n + 1, K, K', h => by
    unfold cntK
    rw [h n (Nat.lt_succ_self n), cntK_congr n fun k hk => h k (by omega)]
theorem cntK_all : ∀ (n : Nat) {K : Kt}, (∀ k < n, (K k).isSome = true) → cntK n K = n
  | 0, _, _ => rfl
  | n + 1, K, h => by
    unfold cntK
    rw [if_pos (h n (Nat.lt_succ_self n)), cntK_all n fun k hk => h k (by omega)]
    omega
theorem cntK_but : ∀ (n : Nat) {K : Kt} {j : Nat}, j < n → K j = none → (∀ k < n, k ≠ j → (K k).isSome = true) → cntK n K + 1 = n
  | 0, _, _, hj, _, _ => absurd hj (Nat.not_lt_zero _)
  | n + 1, K, j, hj, h0, h => by
    unfold cntK
    by_cases e : j = n
    · subst e
      rw [h0, cntK_all j fun k hk => h k (by omega) (by omega)]
      simp
    · rw [if_pos (h n (Nat.lt_succ_self n) (fun z => e z.symm))]
      have := cntK_but n (by omega) h0 fun k hk ne => h k (by omega) ne
      omega
end
end K95
end
section
set_option Elab.async false
set_option linter.all false
set_option maxRecDepth 100000
set_option maxHeartbeats 0
namespace K95
open PySem PySem.Spec PyProof.Rows Zk
open L2 (Key)
section
variable {rel : Hq → A → Rl → Prop} {g lg c r kn b t : Nat} {kvs : List (Key × A)} {h : Hq} {S : St Rl}
/-- a change elsewhere -/
theorem Rx.oth (R : Rx rel g lg c r kn b t kvs h S) (K : RelOk rel) {m : Nat} {y : Ob} {h' : Hq} (w : Wf h') (x : Ext (fun l => l = m) h h') (em : h.get m = some y) (nc : ∀ v, y ≠ .cel v) (no : ¬ Ow g lg kn t kvs m) (mc : m ≠ c) (mr : m ≠ r) (mb : m ≠ b) : Rx rel g lg c r kn b t kvs h' S := by
  have k : ∀ {l o}, h.get l = some o → l ≠ m → h'.get l = some o := fun {l o} e n => x.get R.wf e n
  obtain ⟨rl, e1, e2⟩ := R.hr
  exact ⟨w, k R.hg (fun z => no (.inl z.symm)), k R.hc mc.symm, ⟨rl, k e1 mr.symm, e2.imp fun _ _ _ _ _ q => K.st _ _ _ _ q fun j x e => k e fun z => by rw [z, em] at e; cases e; exact nc _ rfl⟩, k R.hk (fun z => no (.inr (.inl z.symm))), k R.hb mb.symm, k R.ht (fun z => no (.inr (.inr (.inl z.symm)))), k R.hl (fun z => no (.inr (.inr (.inr (.inl z.symm))))),
    R.nd.imp fun _ _ _ hm _ ⟨a, e1, e2⟩ => ⟨a, e1, k e2 fun z => no (.inr (.inr (.inr (.inr (List.mem_map.mpr ⟨_, hm, by rw [e1, z]⟩)))))⟩, R.un, R.kc, R.kr, R.cr, R.tl, R.tb, R.lb, R.us, R.kd, R.cp⟩
end
abbrev natA (L : List Nat) : List A := L.map fun e => A.int ((e : Nat) : Int)
/-- a turn of the law under way -/
structure Tn (ns : List Int) (ma B g lg c r kn b t ea : Nat) (kvs : List (Key × A)) (h : Hq) (S : St Rl) (L : List Nat) : Prop where
  R : Rx (relK lg) g lg c r kn b t kvs h S
  M : MAt ns ma B h
  m0 : ma ≠ 0
  mkn : ma ≠ kn
  mc : ma ≠ c
  mr : ma ≠ r
  he : h.get ea = some (.lst (natA L))
  et : ea ≠ t
  el : ea ≠ lg
  eb : ea ≠ b
section
variable {ns : List Int} {ma B g lg c r kn b t ea : Nat} {kvs : List (Key × A)} {h : Hq} {S : St Rl} {L : List Nat}
theorem Tn.ow0 (T : Tn ns ma B g lg c r kn b t ea kvs h S L) : ¬ Ow g lg kn t kvs ma ∧ ¬ Ow g lg kn t kvs 0 ∧ ¬ Ow g lg kn t kvs ea := by
  obtain ⟨a, l, em, _⟩ := T.M.ex
  refine ⟨T.R.ins em T.mkn, fun o => ?_, T.R.inl T.he T.et T.el⟩
  obtain ⟨x, ex, q⟩ := T.R.ow o
  rw [T.M.sc] at ex
  cases ex
  rcases q with ⟨_, _, z⟩ | ⟨_, z, _⟩ | ⟨_, z, _⟩ <;> cases z
theorem Tn.fr (T : Tn ns ma B g lg c r kn b t ea kvs h S L) {kvs' : List (Key × A)} {h' : Hq} {S' : St Rl} (R' : Rx (relK lg) g lg c r kn b t kvs' h' S') (F : Fr g lg kn t kvs h kvs' h') : Tn ns ma B g lg c r kn b t ea kvs' h' S' L := by
  obtain ⟨o1, o2, o3⟩ := T.ow0
  exact ⟨R', T.M.ext T.R.wf F.x o1 o2, T.m0, T.mkn, T.mc, T.mr, F.get T.R.wf T.he o3, T.et, T.el, T.eb⟩
theorem Tn.grow (T : Tn ns ma B g lg c r kn b t ea kvs h S L) {h' : Hq} (w : Wf h') (x : Ext (fun _ => False) h h') : Tn ns ma B g lg c r kn b t ea kvs h' S L :=
  ⟨T.R.grow (relK_ok lg) w x, T.M.ext T.R.wf x id id, T.m0, T.mkn, T.mc, T.mr, x.get T.R.wf T.he id, T.et, T.el, T.eb⟩
theorem Tn.new (T : Tn ns ma B g lg c r kn b t ea kvs h S L) (o : Ob) : Tn ns ma B g lg c r kn b t ea kvs (h.new o) S L := T.grow (T.R.wf.new o) (Ext.new o)
theorem Tn.next (T : Tn ns ma B g lg c r kn b t ea kvs h S L) (hns : ns.length ≤ 63) (hB : B < 4294967296) (n : Nat) {total : Int} (ht : 0 < total) (ht2 : total < 1000) : ∃ h' v, Q (n + 1) (.fn 28) [.ref ma, .int total] [] h = .ok (.int v) h' ∧ 0 ≤ v ∧ v < total ∧ Tn ns ma (B + 1) g lg c r kn b t ea kvs h' S L := by
  obtain ⟨h', v, q, p1, p2, x, w, M⟩ := next_ok n T.R.wf T.M hns hB T.m0 ht ht2
  obtain ⟨a, l, em, _⟩ := T.M.ex
  obtain ⟨o1, o2, o3⟩ := T.ow0
  refine ⟨h', v, q, p1, p2, ⟨T.R.oth (relK_ok lg) w x em (fun v z => nomatch z) o1 T.mc T.mr (neg em T.R.hb (fun z => nomatch z)), M, T.m0, T.mkn, T.mc, T.mr, x.get T.R.wf T.he (neg T.he em (fun z => nomatch z)), T.et, T.el, T.eb⟩⟩
theorem Tn.call (T : Tn ns ma B g lg c r kn b t ea kvs h S L) {f n : Nat} {rn : Str} {v : A} {S' : St Rl} (e : gcall prK f rn [] S = some (v, S')) : flatS v = true ∧ ∃ h' kvs', Q (n + (5 * f + 2)) (.fn 20) [.ref g, .str rn] [] h = .ok v h' ∧ Tn ns ma B g lg c r kn b t ea kvs' h' S' L ∧ ∀ l xs, h.get l = some (.lst xs) → l ≠ t → l ≠ lg → h'.get l = some (.lst xs) := by
  obtain ⟨hf, h', kvs', q, R', F⟩ := gcall_ok lg f n h S g c r kn b t kvs rn [] v S' T.R e
  exact ⟨hf, h', kvs', q, T.fr R' F, fun l xs e n1 n2 => F.get T.R.wf e (T.R.inl e n1 n2)⟩
theorem Tn.rule (T : Tn ns ma B g lg c r kn b t ea kvs h S L) (n : Nat) (hb : S.busy = []) {x : Str} {fv : A} {ρ : Rl} (hx : nameOk x = true) (hsh : SeqAt.shaped (.str x) = true) (hrel : relK lg h fv ρ) (hl : S.known.length < 100000) (hr : S.rules.length < 100000) :
    ∃ h' kn' kvs', Q (n + 3) (.fn 11) [.ref g, .str x, fv] [] h = .ok .non h' ∧ Tn ns ma B g lg c r kn' b t ea kvs' h' (ruleS S x ρ) L ∧ ∀ l xs, h.get l = some (.lst xs) → h'.get l = some (.lst xs) := by
  obtain ⟨h', kn', kvs', q, R', X, OO⟩ := rule_ok (relK_ok lg) n T.R hb hx hsh hrel hl hr
  obtain ⟨a, l, em, _⟩ := T.M.ex
  obtain ⟨rl, er, _⟩ := T.R.hr
  have ng : ma ≠ g := neg em T.R.hg (fun z => nomatch z)
  have e2 := X.get T.R.wf em (fun z => z.elim ng T.mr)
  refine ⟨h', kn', kvs', q, ⟨R', T.M.ext T.R.wf X (fun z => z.elim ng T.mr) (fun z => z.elim (neg T.M.sc T.R.hg (fun z => nomatch z)) (neg T.M.sc er (fun z => nomatch z))), T.m0, ?_, T.mc, T.mr, X.get T.R.wf T.he (fun z => z.elim (neg T.he T.R.hg (fun z => nomatch z)) (neg T.he er (fun z => nomatch z))), T.et, T.el, T.eb⟩, fun l xs e => X.get T.R.wf e (fun z => z.elim (neg e T.R.hg (fun z => nomatch z)) (neg e er (fun z => nomatch z)))⟩
  intro z
  rcases OO kn' (.inr (.inl rfl)) with o | o
  · rw [← z] at o
    exact T.ow0.1 o
  · have := T.R.wf _ _ em
    omega
theorem Tn.put (T : Tn ns ma B g lg c r kn b t ea kvs h S L) (n : Nat) (hb : S.busy = []) {x : Str} {v : A} (hx : nameOk x = true) (hv : flatS v = true) (ha : findK S.cells (.inr x) = none) (hl : S.cells.length < 1000) :
    ∃ h', Q (n + 3) (.fn 10) [.ref g, .str x, v] [] h = .ok (.bl true) h' ∧ Tn ns ma B g lg c r kn b t ea kvs h' { S with cells := S.cells ++ [(.inr x, v)], rev := S.rev + 1 } L ∧ ∀ l xs, h.get l = some (.lst xs) → h'.get l = some (.lst xs) := by
  obtain ⟨h', q, R', X⟩ := put_ok (relK_ok lg) n T.R hb hx hv ha hl
  obtain ⟨a, l, em, _⟩ := T.M.ex
  have ng : ma ≠ g := neg em T.R.hg (fun z => nomatch z)
  exact ⟨h', q, ⟨R', T.M.ext T.R.wf X (fun z => z.elim ng T.mc) (fun z => z.elim (neg T.M.sc T.R.hg (fun z => nomatch z)) (neg T.M.sc T.R.hc (fun z => nomatch z))), T.m0, T.mkn, T.mc, T.mr, X.get T.R.wf T.he (fun z => z.elim (neg T.he T.R.hg (fun z => nomatch z)) (neg T.he T.R.hc (fun z => nomatch z))), T.et, T.el, T.eb⟩, fun l xs e => X.get T.R.wf e (fun z => z.elim (neg e T.R.hg (fun z => nomatch z)) (neg e T.R.hc (fun z => nomatch z)))⟩
theorem Tn.forget (T : Tn ns ma B g lg c r kn b t ea kvs h S L) (n : Nat) (hb : S.busy = []) {rn : Str} {tx : Str} (h1 : (findK S.rules (.inr rn)).isSome = true) (ht : reprP (.tup [.str rn, .tup []]) = some tx) :
    ∃ h' kvs', Q (n + 3) (.fn 24) [.ref g, .str rn] [] h = .ok (.bl (findK S.known (.inr tx)).isSome) h' ∧ Tn ns ma B g lg c r kn b t ea kvs' h' { S with known := dropK S.known (.inr tx) } L ∧ ∀ l xs, h.get l = some (.lst xs) → l ≠ t → l ≠ lg → h'.get l = some (.lst xs) := by
  obtain ⟨h', kvs', q, R', F⟩ := forget_ok (relK_ok lg) n T.R hb h1 (ps := []) rfl (by decide) ht
  exact ⟨h', kvs', q, T.fr R' F, fun l xs e n1 n2 => F.get T.R.wf e (T.R.inl e n1 n2)⟩
theorem Tn.clear (T : Tn ns ma B g lg c r kn b t ea kvs h S L) : Tn ns ma B g lg c r kn b t ea kvs (h.upd lg (.lst [])) { S with log := [] } L :=
  T.fr (T.R.setL (relK_ok lg) []) ⟨Ext.upd _ (.inr (.inr (.inr (.inl rfl)))), fun _ o => .inl o⟩
theorem Tn.setE (T : Tn ns ma B g lg c r kn b t ea kvs h S L) (L' : List Nat) : Tn ns ma B g lg c r kn b t ea kvs (h.upd ea (.lst (natA L'))) S L' := by
  obtain ⟨o1, o2, o3⟩ := T.ow0
  obtain ⟨a, l, em, _⟩ := T.M.ex
  obtain ⟨rl, er, _⟩ := T.R.hr
  have x : Ext (fun l => l = ea) h (h.upd ea (.lst (natA L'))) := Ext.upd _ rfl
  exact ⟨T.R.oth (relK_ok lg) (T.R.wf.upd _ (T.R.wf _ _ T.he)) x T.he (fun v z => nomatch z) o3 (neg T.he T.R.hc (fun z => nomatch z)) (neg T.he er (fun z => nomatch z)) T.eb, T.M.ext T.R.wf x (neg em T.he (fun z => nomatch z)) (neg T.M.sc T.he (fun z => nomatch z)), T.m0, T.mkn, T.mc, T.mr, upS _ _ _, T.et, T.el, T.eb⟩
end
end K95
end
section
set_option Elab.async false
set_option linter.all false
set_option maxRecDepth 100000
set_option maxHeartbeats 0
namespace K95
open PySem PySem.Spec PyProof.Rows Zk
open L2 (Key)
def VF (es : Nat → Nat) : Nat → Nat
  | 0 => es 0 + 10
  | k + 1 => es (k + 1) + VF es k
def pvF (es : Nat → Nat) : Nat → Nat
  | 0 => 10
  | k + 1 => VF es k
theorem VF_eq (es : Nat → Nat) : ∀ k, VF es k = es k + pvF es k
  | 0 => rfl
  | _ + 1 => rfl
theorem VF_le {es : Nat → Nat} (h : ∀ i, es i ≤ 4) : ∀ k, VF es k ≤ 14 + 4 * k
  | 0 => by have := h 0; simp only [VF]; omega
  | k + 1 => by have := h (k + 1); have := VF_le h k; simp only [VF]; omega
theorem pvF_le {es : Nat → Nat} (h : ∀ i, es i ≤ 4) (k : Nat) : pvF es k ≤ 14 + 4 * k := by
  cases k with
  | zero => simp [pvF]
  | succ k => have := VF_le h k; simp only [pvF]; omega
abbrev CsF (n : Nat) (es : Nat → Nat) (S : St Rl) (K : Kt) : Prop := Cs n es (VF es) (pvF es) S K
/-- all nodes are there and of today -/
structure Full (n : Nat) (es : Nat → Nat) (S : St Rl) (K : Kt) : Prop where
  cs : CsF n es S K
  all : ∀ k < n, K k = some (VF es k, pvF es k, S.rev)
  busy : S.busy = []
  e4 : ∀ i, es i ≤ 4
  n1 : 1 ≤ n
theorem outK_all {V pv : Nat → Nat} {rev : Int} : ∀ (m : Nat) (K : Kt), (∀ i ≤ m, isCur rev (K i) = false) → ∀ i ≤ m, outK V pv rev m K i = some (V i, pv i, rev)
  | 0, K, h, i, hi => by
    have e : i = 0 := by omega
    subst e
    unfold outK
    rw [h 0 (Nat.le_refl 0)]
    simp
  | m + 1, K, h, i, hi => by
    unfold outK
    rw [h (m + 1) (Nat.le_refl _)]
    by_cases e : i = m + 1
    · simp [e]
    · simp only [if_neg e, Bool.false_eq_true, if_false]
      exact outK_all m K (fun j hj => h j (by omega)) i (by omega)
theorem logK_good {pv : Nat → Nat} {rev : Int} : ∀ (m : Nat) (K : Kt), (∀ i ≤ m, ∃ f s, K i = some (f, pv i, s) ∧ s ≠ rev) → logK pv rev m K = []
  | 0, K, h => by
    obtain ⟨f, s, e, ne⟩ := h 0 (Nat.le_refl 0)
    unfold logK
    simp [e, ne]
  | m + 1, K, h => by
    obtain ⟨f, s, e, ne⟩ := h (m + 1) (Nat.le_refl _)
    unfold logK
    simp [e, ne, logK_good m K fun i hi => h i (by omega)]
/-! ### sums -/
def esL (L : List Nat) (i : Nat) : Nat := L.getD i 0
theorem VF_sum : ∀ (L : List Nat) (k : Nat), k < L.length → VF (esL L) k = 10 + (L.take (k + 1)).sum
  | [], k, h => by simp at h
  | x :: L, 0, _ => by simp [VF, esL]; omega
  | x :: L, k + 1, h => by
    have hk : k + 1 < (x :: L).length := h
    have ih := VF_sum (x :: L) k (by omega)
    have e : (x :: L).take (k + 1 + 1) = (x :: L).take (k + 1) ++ [(x :: L)[k + 1]] := by
      rw [List.take_succ_eq_append_getElem hk]
    rw [e, List.sum_append]
    show esL (x :: L) (k + 1) + VF (esL (x :: L)) k = _
    rw [ih]
    have : esL (x :: L) (k + 1) = (x :: L)[k + 1] := by unfold esL; simp [List.getD, List.getElem?_eq_getElem (show k < L.length by simpa using hk)]
    rw [this]
    simp
    omega
theorem sum_cast : ∀ L : List Nat, ((L.map fun e => ((e : Nat) : Int)).sum) = ((L.sum : Nat) : Int)
  | [] => rfl
  | x :: L => by simp [sum_cast L]
theorem ints_nat : ∀ L : List Nat, intsOf (natA L) = some (L.map fun e => ((e : Nat) : Int))
  | [] => rfl
  | x :: L => by
    show (intsOf (natA L)).map (((x : Nat) : Int) :: ·) = _
    rw [ints_nat L]
    rfl
theorem esL_set (L : List Nat) {k e : Nat} (hk : k < L.length) (i : Nat) : esL (L.set k e) i = if i = k then e else esL L i := by
  unfold esL
  simp only [List.getD_eq_getElem?_getD, List.getElem?_set]
  by_cases h : k = i
  · subst h; simp [hk]
  · rw [if_neg h, if_neg (fun z => h z.symm)]
/-! ### turns -/
theorem putK_find {β : Type} {l : List (Key × β)} {k k' : Key} {v : β} : findK (putK l k v) k' = if k' = k then some v else findK l k' := by
  cases e : findK l k with
  | none => rw [putK_none e, app_find e]
  | some w =>
    have hany : (l.any fun kv => decide (kv.1 = k)) = true := by
      refine List.any_eq_true.mpr ⟨(k, w), find_some e, by simp⟩
    unfold putK
    rw [if_pos hany]
    clear hany
    induction l with
    | nil => cases e
    | cons x l ih =>
      by_cases hx : x.1 = k
      · by_cases h2 : k' = k
        · subst h2; simp [findK, hx]
        · have hne : ¬ k = k' := fun z => h2 z.symm
          have hmap : ∀ l : List (Key × β), findK (l.map fun kv => if kv.1 = k then (kv.1, v) else kv) k' = findK l k' := by
            intro l
            unfold findK
            induction l with
            | nil => rfl
            | cons y l ih =>
              rw [List.map_cons]
              by_cases hy : y.1 = k
              · rw [if_pos hy, List.find?_cons_of_neg (by simp [hy, hne]), List.find?_cons_of_neg (by simp [hy, hne])]; exact ih
              · rw [if_neg hy]
                by_cases hy2 : y.1 = k'
                · simp [hy2]
                · rw [List.find?_cons_of_neg (by simp [hy2]), List.find?_cons_of_neg (by simp [hy2])]; exact ih
          rw [if_neg h2]
          exact hmap (x :: l)
      · have e2 : findK l k = some w := by
          unfold findK at e ⊢
          rw [List.find?_cons_of_neg (by simp [hx])] at e
          exact e
        have ih := ih e2
        rw [List.map_cons, if_neg hx]
        unfold findK at ih ⊢
        by_cases h3 : x.1 = k'
        · have : ¬ k' = k := fun z => hx (h3.trans z)
          simp [h3, this]
        · rw [List.find?_cons_of_neg (by simp [h3]), List.find?_cons_of_neg (by simp [h3])]
          exact ih
theorem filter_drop {n : Nat} {es V pv : Nat → Nat} {S : St Rl} {K : Kt} (C : Cs n es V pv S K) {k : Nat} (hk : k < n) : (S.known.filter fun p => !(p.2.rn == nmN k)) = dropK S.known (.inr (txN k)) := by
  have n6 := C.n6
  unfold dropK
  refine List.filter_congr fun p hp => ?_
  obtain ⟨j, hj, e⟩ := C.ky p hp
  obtain ⟨j2, hj2, x, _, e2⟩ := C.node hp
  have q : findK S.known p.1 = some p.2 := by
    have key : ∀ {l : List (Key × Nd)} {p : Key × Nd}, (l.map (·.1)).Nodup → p ∈ l → findK l p.1 = some p.2 := by
      intro l p
      induction l with
      | nil => intro _ m; cases m
      | cons x l ih =>
        intro nd m
        rw [List.map_cons] at nd
        have nd' := List.nodup_cons.mp nd
        unfold findK
        rcases List.mem_cons.mp m with rfl | m
        · simp
        · have : ¬ x.1 = p.1 := fun z => nd'.1 (List.mem_map.mpr ⟨p, m, z.symm⟩)
          rw [List.find?_cons_of_neg (by simp [this])]
          exact ih nd'.2 m
    exact key C.kd hp
  rw [e, C.kn j hj] at q
  cases eK : K j with
  | none => rw [eK] at q; cases q
  | some y =>
    rw [eK] at q
    have q : mkNd j y = p.2 := Option.some.inj q
    rw [e, ← q]
    show (!(nmN j == nmN k)) = decide ((.inr (txN j) : Key) ≠ .inr (txN k))
    by_cases h : j = k
    · subst h; simp
    · have h1 : (nmN j == nmN k) = false := beq_eq_false_iff_ne.mpr fun z => h (nm_inj j (by omega) k (by omega) z)
      have h2 : (.inr (txN j) : Key) ≠ .inr (txN k) := fun z => h ((txi (by omega) (by omega)).mp z)
      rw [h1]; simp [h2]
/-- the k-th link's rule replaced -/
theorem Full.rule {n : Nat} {es : Nat → Nat} {S : St Rl} {K : Kt} (F : Full n es S K) {k e' : Nat} (hk : k < n) (he : e' ≤ 4) {es' : Nat → Nat} (hes : ∀ i, es' i = if i = k then e' else es i) : CsF n es' (ruleS S (nmN k) (some (e', k))) (setN K k none) := by
  have C := F.cs
  have n6 := C.n6
  have h4 : ∀ i, es' i ≤ 4 := fun i => by rw [hes]; split; exact he; exact F.e4 i
  have D := C.drop hk
  refine ⟨C.n6, C.cell, fun i hi => ?_, C.tl, ?_, ?_, ?_, fun i hi p e => ?_, rfl, fun _ => rfl, fun i _ => VF_eq es' i, fun i hi => ⟨?_, ?_⟩⟩
  · show findK (putK S.rules (.inr (nmN k)) (some (e', k))) (.inr (nmN i)) = _
    rw [putK_find, hes]
    by_cases h : i = k
    · subst h; simp
    · rw [if_neg (fun z => h (nm_inj i (by omega) k (by omega) (Sum.inr.inj z))), if_neg h]
      exact C.rule i hi
  · intro i hi
    show findK (S.known.filter fun p => !(p.2.rn == nmN k)) _ = _
    rw [filter_drop C hk]
    exact D.kn i hi
  · show ∀ p ∈ S.known.filter (fun p => !(p.2.rn == nmN k)), _
    rw [filter_drop C hk]
    exact D.ky
  · show ((S.known.filter fun p => !(p.2.rn == nmN k)).map (·.1)).Nodup
    rw [filter_drop C hk]
    exact D.kd
  · unfold setN at e
    split at e
    · cases e
    · rename_i hne
      rw [F.all i hi] at e
      cases e
      refine ⟨fun h => ?_, ?_⟩
      · rcases h with h | h
        · have h : S.rev = S.rev + 1 := h
          omega
        · show VF es i = VF es' i
          have h : pvF es i = pvF es' i := h
          rw [VF_eq es i, VF_eq es' i, h, hes i, if_neg hne]
      · show pvF es i < 64
        have := pvF_le F.e4 i; omega
  · have := VF_le h4 i; omega
  · have := pvF_le h4 i; omega
end K95
end
section
set_option Elab.async false
set_option linter.all false
set_option maxRecDepth 100000
set_option maxHeartbeats 0
namespace K95
open PySem PySem.Spec PyProof.Rows Zk
open L2 (Key)
/-- what a turn leaves -/
structure TO (n k : Nat) (es' : Nat → Nat) (S S1 : St Rl) (way : Nat) (due : List Nat) (K1 : Kt) : Prop where
  cs : CsF n es' S1 K1
  busy : S1.busy = []
  log : S1.log = S.log
  e4 : ∀ i, es' i ≤ 4
  rev : S1.rev = S.rev + (if way = 1 then 0 else 1)
  out : outN S1 = if way = 1 then 0 else S1.known.length
  due : logK (pvF es') S1.rev (n - 1) K1 = due
  cur : ∀ i < n, ∀ x, outK (VF es') (pvF es') S1.rev (n - 1) K1 i = some x → x.2.2 = S1.rev
  non1 : way ≠ 1 → ∀ i < n, outK (VF es') (pvF es') S1.rev (n - 1) K1 i = some (VF es' i, pvF es' i, S1.rev)
  one : way = 1 → (∀ i < n, i ≠ k → outK (VF es') (pvF es') S1.rev (n - 1) K1 i = some (VF es' i, pvF es' i, S1.rev)) ∧ (k < n - 1 → outK (VF es') (pvF es') S1.rev (n - 1) K1 k = none) ∧ (k = n - 1 → outK (VF es') (pvF es') S1.rev (n - 1) K1 k = some (VF es' k, pvF es' k, S1.rev))
section
variable {n : Nat} {es : Nat → Nat} {S : St Rl} {K : Kt} {k e' : Nat} {es' : Nat → Nat}
theorem VF_lt (hes : ∀ i, es' i = if i = k then e' else es i) : ∀ i, i < k → VF es' i = VF es i
  | 0, h => by simp only [VF]; rw [hes, if_neg (by omega)]
  | i + 1, h => by simp only [VF]; rw [hes, if_neg (by omega), VF_lt hes i (by omega)]
theorem pvF_eq (hes : ∀ i, es' i = if i = k then e' else es i) (i : Nat) (h : i ≤ k) : pvF es' i = pvF es i := by
  cases i with
  | zero => rfl
  | succ i => exact VF_lt hes i (by omega)
theorem VF_ge (hes : ∀ i, es' i = if i = k then e' else es i) : ∀ i, k ≤ i → VF es' i + es k = VF es i + e'
  | 0, h => by
    have : k = 0 := by omega
    subst this
    have e0 := hes 0
    simp at e0
    simp only [VF, e0]; omega
  | i + 1, h => by
    by_cases e : k = i + 1
    · subst e
      have e0 := hes (i + 1)
      simp at e0
      have := VF_lt hes i (Nat.lt_succ_self i)
      simp only [VF, e0, this]; omega
    · have := VF_ge hes i (by omega)
      have e0 := hes (i + 1)
      rw [if_neg (fun z => e z.symm)] at e0
      simp only [VF, e0]; omega
theorem log_rule {rev' r : Int} (hr : r ≠ rev') (hes : ∀ i, es' i = if i = k then e' else es i) (hK : ∀ i, i < n → K i = some (VF es i, pvF es i, r)) : ∀ m, k ≤ m → m < n → logK (pvF es') rev' m (setN K k none) = if e' = es k then [k] else (List.range (m + 1 - k)).map (k + ·)
  | 0, h, hm => by
    have : k = 0 := by omega
    subst this
    unfold logK
    simp [setN]
  | m + 1, h, hm => by
    by_cases e : k = m + 1
    · subst e
      have hg : logK (pvF es') rev' m (setN K (m + 1) none) = [] := logK_good m _ fun i hi => ⟨VF es i, r, by
        unfold setN
        rw [if_neg (by omega), hK i (by omega), pvF_eq hes i (by omega)], hr⟩
      unfold logK
      simp only [setN, if_true] at hg ⊢
      have : m + 1 + 1 - (m + 1) = 1 := by omega
      rw [this]
      show (m + 1) :: logK (pvF es') rev' m (fun i => if i = m + 1 then none else K i) = _
      have hg2 : logK (pvF es') rev' m (fun i => if i = m + 1 then none else K i) = [] := hg
      rw [hg2]
      simp
    · have ih := log_rule hr hes hK m (by omega) (by omega)
      have hk1 : setN K k none (m + 1) = some (VF es (m + 1), pvF es (m + 1), r) := by
        unfold setN
        rw [if_neg (fun z => e z.symm), hK (m + 1) hm]
      have hv := VF_ge hes m (by omega)
      unfold logK
      rw [hk1]
      simp only [if_neg hr]
      have hp : (pvF es (m + 1) = pvF es' (m + 1)) ↔ e' = es k := by
        show VF es m = VF es' m ↔ _
        omega
      by_cases he : e' = es k
      · rw [if_pos (hp.mpr he), ih]
        simp only [if_pos he]
      · rw [if_neg (fun z => he (hp.mp z)), ih]
        simp only [if_neg he]
        have : m + 1 + 1 - k = (m + 1 - k) + 1 := by omega
        rw [this, List.range_succ, List.map_append]
        simp
        omega
theorem Full.to_rule (F : Full n es S K) (hk : k < n) (he : e' ≤ 4) (hes : ∀ i, es' i = if i = k then e' else es i) : TO n k es' S (ruleS S (nmN k) (some (e', k))) 0 (if e' = es k then [k] else (List.range (n - k)).map (k + ·)) (setN K k none) ∧ (ruleS S (nmN k) (some (e', k))).known.length + 1 = n := by
  have C := F.rule hk he hes
  have h4 : ∀ i, es' i ≤ 4 := fun i => by rw [hes]; split; exact he; exact F.e4 i
  have n1 := F.n1
  have hne : S.rev ≠ S.rev + 1 := by omega
  have hnc : ∀ i ≤ n - 1, isCur (S.rev + 1) (setN K k none i) = false := fun i hi => by
    unfold setN
    split
    · rfl
    · rw [F.all i (by omega)]; simp [isCur]; omega
  have ha := outK_all (V := VF es') (pv := pvF es') (n - 1) (setN K k none) hnc
  refine ⟨⟨C, F.busy, rfl, h4, rfl, ?_, ?_, fun i hi x e => ?_, fun _ i hi => ha i (by omega), fun z => by omega⟩, ?_⟩
  · rw [if_neg (by decide)]
    refine C.outAll fun i hi x e => ?_
    unfold setN at e
    split at e
    · cases e
    · rw [F.all i hi] at e; cases e; exact hne
  · have := log_rule (es' := es') hne hes F.all (n - 1) (by omega) (by omega)
    rw [show n - 1 + 1 - k = n - k by omega] at this
    exact this
  · have := ha i (by omega)
    rw [show (ruleS S (nmN k) (some (e', k))).rev = S.rev + 1 from rfl] at e
    rw [this] at e
    cases e; rfl
  · rw [C.len]
    exact cntK_but n hk (by simp [setN]) fun i hi ne => by
      unfold setN
      rw [if_neg ne, F.all i hi]; rfl
theorem setN_twice {k : Nat} {x : Option (Nat × Nat × Int)} : setN (setN K k x) k x = setN K k x := by
  funext i
  unfold setN
  split <;> rfl
theorem Full.to_forget (F : Full n es S K) (hk : k < n) {S1 : St Rl} (hS : S1 = { S with known := dropK (dropK S.known (.inr (txN k))) (.inr (txN k)) }) : TO n k es S S1 1 (if k = n - 1 then [k] else []) (setN K k none) := by
  subst hS
  have D := (F.cs.drop hk).drop hk
  rw [setN_twice] at D
  have n1 := F.n1
  have hcur : ∀ i < n, i ≠ k → setN K k none i = some (VF es i, pvF es i, S.rev) := fun i hi ne => by unfold setN; rw [if_neg ne, F.all i hi]
  have hK0 : setN K k none k = none := by simp [setN]
  by_cases e : k = n - 1
  · -- the top is gone
    have hb : ∀ m, m < k → isCur S.rev (setN K k none m) = true := fun m hm => by rw [hcur m (by omega) (by omega)]; simp [isCur]
    have ho : ∀ i < n, outK (VF es) (pvF es) S.rev (n - 1) (setN K k none) i = some (VF es i, pvF es i, S.rev) := fun i hi => by
      rw [← outK_eq, ← e, hK0]
      rw [if_neg (by simp [isCur])]
      unfold setN
      by_cases h : i = k
      · rw [if_pos h, h]
      · rw [if_neg h]
        have : bout (VF es) (pvF es) S.rev k (setN K k none) = setN K k none := by
          cases k with
          | zero => rfl
          | succ k => exact (cur_same k _ (hb k (by omega))).1
        show bout (VF es) (pvF es) S.rev k (setN (setN K k none) k none) i = _
        rw [setN_twice, this]
        exact hcur i hi h
    refine ⟨D, F.busy, rfl, F.e4, by simp, ?_, ?_, fun i hi x ex => ?_, fun z => absurd rfl z, fun _ => ⟨fun i hi _ => ho i hi, fun z => by omega, fun _ => ho k hk⟩⟩
    · rw [if_pos rfl]
      exact D.out0 fun i hi x ex => by
        by_cases h : i = k
        · rw [h, hK0] at ex; cases ex
        · rw [hcur i hi h] at ex; cases ex; rfl
    · show logK (pvF es) S.rev (n - 1) (setN K k none) = _
      rw [if_pos e, ← e, ← logK_eq, hK0]
      show k :: blog (pvF es) S.rev k (setN K k none) = _
      have : blog (pvF es) S.rev k (setN K k none) = [] := by
        cases k with
        | zero => rfl
        | succ k => exact (cur_same (V := VF es) k _ (hb k (by omega))).2
      rw [this]
    · have := ho i hi
      rw [show ({ S with known := dropK (dropK S.known (.inr (txN k))) (.inr (txN k)) } : St Rl).rev = S.rev from rfl] at ex
      rw [this] at ex; cases ex; rfl
  · have ht : isCur S.rev (setN K k none (n - 1)) = true := by rw [hcur (n - 1) (by omega) (fun z => e z.symm)]; simp [isCur]
    obtain ⟨t1, t2⟩ := cur_same (V := VF es) (pv := pvF es) (n - 1) _ ht
    refine ⟨D, F.busy, rfl, F.e4, by simp, ?_, ?_, fun i hi x ex => ?_, fun z => absurd rfl z, fun _ => ⟨fun i hi ne => ?_, fun _ => ?_, fun z => absurd z e⟩⟩
    · rw [if_pos rfl]
      exact D.out0 fun i hi x ex => by
        by_cases h : i = k
        · rw [h, hK0] at ex; cases ex
        · rw [hcur i hi h] at ex; cases ex; rfl
    · show logK (pvF es) S.rev (n - 1) (setN K k none) = _
      rw [if_neg e, t2]
    · have ex : outK (VF es) (pvF es) S.rev (n - 1) (setN K k none) i = some x := ex
      rw [t1] at ex
      by_cases h : i = k
      · rw [h, hK0] at ex; cases ex
      · rw [hcur i hi h] at ex; cases ex; rfl
    · show outK (VF es) (pvF es) S.rev (n - 1) (setN K k none) i = _
      rw [t1]; exact hcur i hi ne
    · show outK (VF es) (pvF es) S.rev (n - 1) (setN K k none) k = _
      rw [t1]; exact hK0
/-- a turn that only counts the revision up -/
theorem Full.to_more (F : Full n es S K) (k : Nat) {way : Nat} (hw : way ≠ 1) {S1 : St Rl} (C : CsF n es S1 K) (hb : S1.busy = []) (hl : S1.log = S.log) (hr : S1.rev = S.rev + 1) : TO n k es S S1 way [] K := by
  have n1 := F.n1
  have hne : S.rev ≠ S1.rev := by omega
  have hnc : ∀ i ≤ n - 1, isCur S1.rev (K i) = false := fun i hi => by rw [F.all i (by omega)]; simp [isCur]; omega
  have ha := outK_all (V := VF es) (pv := pvF es) (n - 1) K hnc
  refine ⟨C, hb, hl, F.e4, by rw [if_neg hw]; exact hr, ?_, ?_, fun i hi x ex => ?_, fun _ i hi => ha i (by omega), fun z => absurd z hw⟩
  · rw [if_neg hw]
    exact C.outAll fun i hi x ex => by rw [F.all i hi] at ex; cases ex; exact hne
  · exact logK_good (n - 1) K fun i hi => ⟨VF es i, S.rev, F.all i (by omega), hne⟩
  · rw [ha i (by omega)] at ex; cases ex; rfl
theorem Full.cs_put (F : Full n es S K) {x : Key} {v : A} : CsF n es { S with cells := S.cells ++ [(x, v)], rev := S.rev + 1 } K := by
  have C := F.cs
  refine ⟨C.n6, ?_, C.rule, C.tl, C.kn, C.ky, C.kd, fun i hi p e => ?_, C.pv0, C.pvS, C.vS, C.v64⟩
  · show findK (S.cells ++ [(x, v)]) (.inr "base") = _
    have := C.cell
    unfold findK at this ⊢
    rw [List.find?_append]
    cases q : S.cells.find? fun kv => decide (kv.1 = (.inr "base" : Key)) with
    | none => rw [q] at this; cases this
    | some p => rw [q] at this; exact this
  · rw [F.all i hi] at e
    cases e
    refine ⟨fun _ => rfl, ?_⟩
    exact (C.v64 i hi).2
theorem Full.cs_other (F : Full n es S K) {x : Str} (hx : ∀ i < 6, nmN i ≠ x) : CsF n es (ruleS S x none) K := by
  have C := F.cs
  have n6 := C.n6
  have hf : (S.known.filter fun p => !(p.2.rn == x)) = S.known := List.filter_eq_self.mpr fun p hp => by
    obtain ⟨j, hj, y, _, e2⟩ := C.node hp
    rw [e2]
    have : (nmN j == x) = false := beq_eq_false_iff_ne.mpr (hx j (by omega))
    simp [mkNd, this]
  refine ⟨C.n6, C.cell, fun i hi => ?_, C.tl, ?_, ?_, ?_, fun i hi p e => ?_, C.pv0, C.pvS, C.vS, C.v64⟩
  · show findK (putK S.rules (.inr x) none) (.inr (nmN i)) = _
    rw [putK_find, if_neg (fun z => hx i (by omega) (Sum.inr.inj z))]
    exact C.rule i hi
  · intro i hi
    show findK (S.known.filter fun p => !(p.2.rn == x)) _ = _
    rw [hf]; exact C.kn i hi
  · show ∀ p ∈ S.known.filter (fun p => !(p.2.rn == x)), _
    rw [hf]; exact C.ky
  · show ((S.known.filter fun p => !(p.2.rn == x)).map (·.1)).Nodup
    rw [hf]; exact C.kd
  · rw [F.all i hi] at e
    cases e
    exact ⟨fun _ => rfl, (C.v64 i hi).2⟩
end
end K95
end
section
set_option Elab.async false
set_option linter.all false
set_option maxRecDepth 100000
set_option maxHeartbeats 0
namespace K95
open PySem PySem.Spec PyProof.Rows Zk
open L2 (Key)
def ceN (k : Nat) : Str := ("cell" : Str) ++ ((toString ((k : Nat) : Int) : String) : Str)
def otN (k : Nat) : Str := ("other" : Str) ++ ((toString ((k : Nat) : Int) : String) : Str)
theorem ce_ok : ∀ k : Nat, k < 4 → nameOk (ceN k) = true ∧ (((k : Nat) : Int)).natAbs.log2 < 1920 ∧ ("cell" : Str).length + ((((k : Nat) : Int).repr : String) : Str).length ≤ 16777216 := by decide +kernel
theorem ot_ok : ∀ k : Nat, k < 4 → nameOk (otN k) = true ∧ SeqAt.shaped (.str (otN k)) = true ∧ ("other" : Str).length + ((((k : Nat) : Int).repr : String) : Str).length ≤ 16777216 := by decide +kernel
theorem ot_ne : ∀ i < 6, ∀ k < 4, nmN i ≠ otN k := by decide +kernel
theorem ce_inj : ∀ k < 4, ∀ j < 4, ceN k = ceN j → k = j := by decide +kernel
section
variable {ns : List Int} {ma B g lg c r kn b t ea : Nat} {kvs : List (Key × A)} {h : Hq} {S : St Rl} {L : List Nat}
theorem lnk (Lc0 : Lc) (h : Hq) {i k : Nat} (hk : k < 6) (hL : eLoc i Lc0 h = .ok (.int ((k : Nat) : Int)) h) : Zk.e2 oAdd (eCon (.str "link")) (eCB (Zk.g1 strA) (aCons (eLoc i) aNil)) Lc0 h = .ok (.str (nmN k)) h := by
  obtain ⟨a, b⟩ := lk_str0 k hk
  have b' : ("link" : Str).length + ((((k : Nat) : Int).repr : String) : Str).length ≤ 16777216 := b
  have e : ("link" : Str) ++ ((((k : Nat) : Int).repr : String) : Str) = nmN k := rfl
  simp only [Zk.e2, eCon, Res.bind, eCB, aCons, aNil, hL, Zk.g1, strA]
  have a' : k.log2 < 1920 := by simpa using a
  simp [a', oAdd, orE, oAddI, iOp, oAddS, SZ, b', e]
theorem cel (Lc0 : Lc) (h : Hq) {i k : Nat} (hk : k < 4) (hL : eLoc i Lc0 h = .ok (.int ((k : Nat) : Int)) h) : Zk.e2 oAdd (eCon (.str "cell")) (eCB (Zk.g1 strA) (aCons (eLoc i) aNil)) Lc0 h = .ok (.str (ceN k)) h := by
  obtain ⟨_, a, b⟩ := ce_ok k hk
  have e : ("cell" : Str) ++ ((((k : Nat) : Int).repr : String) : Str) = ceN k := rfl
  simp only [Zk.e2, eCon, Res.bind, eCB, aCons, aNil, hL, Zk.g1, strA]
  have a' : k.log2 < 1920 := by simpa using a
  simp [a', oAdd, orE, oAddI, iOp, oAddS, SZ, b, e]
theorem oth (Lc0 : Lc) (h : Hq) {i k : Nat} (hk : k < 4) (hL : eLoc i Lc0 h = .ok (.int ((k : Nat) : Int)) h) : Zk.e2 oAdd (eCon (.str "other")) (eCB (Zk.g1 strA) (aCons (eLoc i) aNil)) Lc0 h = .ok (.str (otN k)) h := by
  obtain ⟨_, a, _⟩ := ce_ok k hk
  obtain ⟨_, _, b⟩ := ot_ok k hk
  have e : ("other" : Str) ++ ((((k : Nat) : Int).repr : String) : Str) = otN k := rfl
  simp only [Zk.e2, eCon, Res.bind, eCB, aCons, aNil, hL, Zk.g1, strA]
  have a' : k.log2 < 1920 := by simpa using a
  simp [a', oAdd, orE, oAddI, iOp, oAddS, SZ, b, e]
abbrev LEN (Φ : Dn) (i : Nat) : ME := eCB (orG (Zk.g1 lenA) (orG (Zk.g1 lenD) (Zk.g1 (lenO Φ tb_len)))) (aCons (eLoc i) aNil)
theorem len_g (m : Nat) {Lc0 : Lc} {i : Nat} (R : Rx (relK lg) g lg c r kn b t kvs h S) (hL : eLoc i Lc0 h = .ok (.ref g) h) (hl : S.known.length < 1000) : LEN (Q (m + 1)) i Lc0 h = .ok (.int ((S.known.length : Nat) : Int)) h := by
  have q := len_ok m R
  have z : ((S.known.length : Nat) : Int) < 9223372036854775808 := by omega
  simp only [LEN, eCB, aCons, aNil, hL, Res.bind]
  simp [orG, Zk.g1, lenA, seqOf, R.hg, lenD, lenO, tb_len, q, Res.bind, z]
theorem len_l {Φ : Dn} {Lc0 : Lc} {i a : Nat} {xs : List A} (e : h.get a = some (.lst xs)) (hL : eLoc i Lc0 h = .ok (.ref a) h) : LEN Φ i Lc0 h = .ok (.int ((xs.length : Nat) : Int)) h := by
  simp only [LEN, eCB, aCons, aNil, hL, Res.bind]
  simp [orG, Zk.g1, lenA, seqOf, e]
theorem at_nat {L : List Nat} {k : Nat} (hk : k < L.length) : L2.atI (natA L) ((k : Nat) : Int) = some (.int ((esL L k : Nat) : Int)) := by
  unfold L2.atI L2.ixN
  rw [if_pos (by omega), if_pos (by unfold natA; rw [List.length_map]; omega)]
  simp [natA, esL, hk]
theorem ix_nat {L : List Nat} {k : Nat} (hk : k < L.length) : L2.ixN (natA L).length ((k : Nat) : Int) = some k := by
  unfold L2.ixN
  rw [if_pos (by omega), if_pos (by unfold natA; rw [List.length_map]; omega)]
  simp
theorem set_nat {L : List Nat} {k e : Nat} : (natA L).set k (.int ((e : Nat) : Int)) = natA (L.set k e) := by
  unfold natA
  rw [List.map_set]
theorem rg_nat {k n : Nat} : rgL ((k : Nat) : Int) ((n : Nat) : Int) = natA ((List.range (n - k)).map (k + ·)) := by
  unfold rgL natA
  rw [List.map_map]
  have : ((((n : Nat) : Int) - ((k : Nat) : Int)).toNat) = n - k := by omega
  rw [this]
  refine List.map_congr_left fun i _ => ?_
  simp
theorem rg_ok {k n : Nat} (hk : k < 1000) (hn : n < 1000) : rgOk ((k : Nat) : Int) ((n : Nat) : Int) = true := by
  unfold rgOk B62
  simp only [Bool.and_eq_true, decide_eq_true_eq]
  omega
/-- a turn: what it gives -/
structure TR (ns : List Int) (ma B g lg c r b t ea n k tm : Nat) (S : St Rl) (h0 : Hq) (L : List Nat) (n0 : Nat) : Prop where
  ex : ∃ (way : Nat) (due L' : List Nat) (h' : Hq) (kn' : Nat) (kvs' : List (Key × A)) (S' : St Rl) (K' : Kt) (d : Nat),
    Q (n0 + 5) (.fn 30) [.ref ma, .ref g, .ref lg, .ref ea, .int ((k : Nat) : Int), .int ((tm : Nat) : Int)] [] h0 = .ok (.tup [.int ((way : Nat) : Int), .ref d]) h' ∧ Tn ns ma (B + 2) g lg c r kn' b t ea kvs' h' S' L' ∧ TO n k (esL L') S S' way due K' ∧
    L'.length = n ∧ h'.get d = some (.lst (natA due)) ∧ d ≠ t ∧ d ≠ lg ∧ (S'.cells = S.cells ∨ S'.cells = S.cells ++ [(.inr (ceN tm), .int 0)]) ∧ S'.rules.length ≤ S.rules.length + 1
theorem putK_len {β : Type} {l : List (Key × β)} {k : Key} {v : β} : (putK l k v).length ≤ l.length + 1 := by
  unfold putK
  split <;> simp
def A0 (Φ : Dn) : MS := (sSeq (sAsg (gNm 9) (eIf (tB2 (Zk.e2 oNe (eLoc 6) (Zk.e2 oIx (eLoc 3) (eLoc 4)))) (eLr2 (eLoc 4) (eCB (orG (Zk.g1 lenA) (orG (Zk.g1 lenD) (Zk.g1 (lenO Φ tb_len)))) (aCons (eLoc 3) aNil))) (eLst (aCons (eLoc 4) aNil))))
    (sSeq (sSetI (eLoc 3) (eLoc 4) (eLoc 6))
    (sSeq (sAsg (gNm 10) (eMeth Φ tb_rule 26 (eLoc 1) (kOf (aCons (eLoc 8) (aCons (eCallF Φ (.fn 29) (kOf (aCons (eLoc 4) (aCons (eLoc 6) (aCons (eLoc 2) aNil))))) aNil)))))
    (sSeq (sRet (eIf (tAnd (tB2 (Zk.e2 (oIs false) (eLoc 10) (eCon .non))) (tB2 (Zk.e2 oEq (eCB (orG (Zk.g1 lenA) (orG (Zk.g1 lenD) (Zk.g1 (lenO Φ tb_len)))) (aCons (eLoc 1) aNil)) (Zk.e2 oSub (eCB (orG (Zk.g1 lenA) (orG (Zk.g1 lenD) (Zk.g1 (lenO Φ tb_len)))) (aCons (eLoc 3) aNil)) (eCon (.int 1)))))) (eTup (aCons (eLoc 7) (aCons (eLoc 9) aNil))) (eCon .non)))
    sNil))))
theorem a0_ok {n k e' n0 : Nat} {K : Kt} (T : Tn ns ma B g lg c r kn b t ea kvs h S L) (F : Full n (esL L) S K) (hL : L.length = n) (hk : k < n) (he : e' ≤ 4) (hrl : S.rules.length < 1000) (x6 x7 : Nat) (tm : A) :
    ∃ h' kn' kvs' d L1, A0 (Q (n0 + 4)) [some (.ref ma), some (.ref g), some (.ref lg), some (.ref ea), some (.int ((k : Nat) : Int)), some tm, some (.int ((e' : Nat) : Int)), some (.int 0), some (.str (nmN k)), none, none] h = .ok (.rt (.tup [.int 0, .ref d])) L1 h' ∧
      Tn ns ma B g lg c r kn' b t ea kvs' h' (ruleS S (nmN k) (some (e', k))) (L.set k e') ∧ h'.get d = some (.lst (natA (if e' = esL L k then [k] else (List.range (n - k)).map (k + ·)))) ∧ d ≠ t ∧ d ≠ lg := by
  have n6 := F.cs.n6
  have hk6 : k < 6 := by omega
  have lt := T.R.lt
  -- due
  have s1 : (sAsg (gNm 9) (eIf (tB2 (Zk.e2 oNe (eLoc 6) (Zk.e2 oIx (eLoc 3) (eLoc 4)))) (eLr2 (eLoc 4) (eCB (orG (Zk.g1 lenA) (orG (Zk.g1 lenD) (Zk.g1 (lenO (Q (n0 + 4)) tb_len)))) (aCons (eLoc 3) aNil))) (eLst (aCons (eLoc 4) aNil)))) [some (.ref ma), some (.ref g), some (.ref lg), some (.ref ea), some (.int ((k : Nat) : Int)), some tm, some (.int ((e' : Nat) : Int)), some (.int 0), some (.str (nmN k)), none, none] h =
      .ok .nx [some (.ref ma), some (.ref g), some (.ref lg), some (.ref ea), some (.int ((k : Nat) : Int)), some tm, some (.int ((e' : Nat) : Int)), some (.int 0), some (.str (nmN k)), some (.ref h.n), none] (h.new (.lst (natA (if e' = esL L k then [k] else (List.range (n - k)).map (k + ·))))) := by
    have hat := at_nat (L := L) (k := k) (by omega)
    have he := T.he
    have hlen : (natA L).length = n := by unfold natA; rw [List.length_map]; exact hL
    by_cases e : e' = esL L k
    · have e1 : (((e' : Nat) : Int) == ((esL L k : Nat) : Int)) = true := by rw [e]; simp
      rw [if_pos e]
      simp [sAsg, eIf, tB2, isB, Zk.e2, eLoc, Res.bind, oIx, orE, oIxS, seqOf, he, hat, oNe, oEqB, A.dat, FU, shI, PyData.eqv, e1, eLst, aCons, aNil, SZ, RS.ofE, gNm, natA, e]
    · have e1 : (((e' : Nat) : Int) == ((esL L k : Nat) : Int)) = false := beq_eq_false_iff_ne.mpr (by omega)
      rw [if_neg e]
      have hr := rg_nat (k := k) (n := n)
      have hro := rg_ok (k := k) (n := n) (by omega) (by omega)
      simp [sAsg, eIf, tB2, isB, Zk.e2, eLoc, Res.bind, oIx, orE, oIxS, seqOf, he, hat, oNe, oEqB, A.dat, FU, shI, PyData.eqv, e1, eLr2, eCB, aCons, aNil, orG, Zk.g1, lenA, hlen, rgN, hro, hr, RS.ofE, gNm]
  have T1 := T.new (.lst (natA (if e' = esL L k then [k] else (List.range (n - k)).map (k + ·))))
  have hd1 : (h.new (.lst (natA (if e' = esL L k then [k] else (List.range (n - k)).map (k + ·))))).get h.n = some (.lst (natA (if e' = esL L k then [k] else (List.range (n - k)).map (k + ·)))) := nwS _ _
  -- the extra
  have s2 : (sSetI (eLoc 3) (eLoc 4) (eLoc 6)) [some (.ref ma), some (.ref g), some (.ref lg), some (.ref ea), some (.int ((k : Nat) : Int)), some tm, some (.int ((e' : Nat) : Int)), some (.int 0), some (.str (nmN k)), some (.ref h.n), none] (h.new (.lst (natA (if e' = esL L k then [k] else (List.range (n - k)).map (k + ·))))) =
      .ok .nx [some (.ref ma), some (.ref g), some (.ref lg), some (.ref ea), some (.int ((k : Nat) : Int)), some tm, some (.int ((e' : Nat) : Int)), some (.int 0), some (.str (nmN k)), some (.ref h.n), none] ((h.new (.lst (natA (if e' = esL L k then [k] else (List.range (n - k)).map (k + ·))))).upd ea (.lst (natA (L.set k e')))) := by
    have he := T1.he
    have hix := ix_nat (L := L) (k := k) (by omega)
    simp only [sSetI, eLoc, RS.ofE, List.getElem?_cons_succ, List.getElem?_cons_zero, Zk.setAt, he, hix, set_nat]
  have T2 := T1.setE (L.set k e')
  have nea : h.n ≠ ea := by have := T.R.wf _ _ T.he; omega
  have hd2 : ((h.new (.lst (natA (if e' = esL L k then [k] else (List.range (n - k)).map (k + ·))))).upd ea (.lst (natA (L.set k e')))).get h.n = some (.lst (natA (if e' = esL L k then [k] else (List.range (n - k)).map (k + ·)))) := by rw [upN _ _ _ nea]; exact hd1
  obtain ⟨h2, eh2⟩ : ∃ h2 : Hq, h2 = ((h.new (.lst (natA (if e' = esL L k then [k] else (List.range (n - k)).map (k + ·))))).upd ea (.lst (natA (L.set k e')))) := ⟨_, rfl⟩
  rw [← eh2] at s2 T2 hd2
  -- the rule
  obtain ⟨h3, q3, r3, x3, w3⟩ := link_ok (n0 + 3) T2.R.wf lg e' k hk6
  have T3 := T2.grow w3 x3
  have few := F.cs.few
  obtain ⟨h4, kn', kvs', q4, T4, k4⟩ := T3.rule (n0 + 1) F.busy (nm_ok k hk6) (nm_sh k hk6) r3 (by omega) (by omega)
  have q3 : Q (n0 + 4) (.fn 29) [.int ((k : Nat) : Int), .int ((e' : Nat) : Int), .ref lg] [] h2 = .ok (.clo 0 [h2.n + 1, h2.n + 0, h2.n + 2]) h3 := q3
  have q4 : Q (n0 + 4) (.fn 11) [.ref g, .str (nmN k), .clo 0 [h2.n + 1, h2.n + 0, h2.n + 2]] [] h3 = .ok .non h4 := q4
  have hd3 := x3.get T2.R.wf hd2 id
  have ndt : h.n ≠ t := by omega
  have ndl : h.n ≠ lg := by omega
  have hd4 : h4.get h.n = some (.lst (natA (if e' = esL L k then [k] else (List.range (n - k)).map (k + ·)))) := k4 _ _ hd3
  have s3 : (sAsg (gNm 10) (eMeth (Q (n0 + 4)) tb_rule 26 (eLoc 1) (kOf (aCons (eLoc 8) (aCons (eCallF (Q (n0 + 4)) (.fn 29) (kOf (aCons (eLoc 4) (aCons (eLoc 6) (aCons (eLoc 2) aNil))))) aNil))))) [some (.ref ma), some (.ref g), some (.ref lg), some (.ref ea), some (.int ((k : Nat) : Int)), some tm, some (.int ((e' : Nat) : Int)), some (.int 0), some (.str (nmN k)), some (.ref h.n), none] h2 =
      .ok .nx [some (.ref ma), some (.ref g), some (.ref lg), some (.ref ea), some (.int ((k : Nat) : Int)), some tm, some (.int ((e' : Nat) : Int)), some (.int 0), some (.str (nmN k)), some (.ref h.n), some .non] h4 := by
    simp [sAsg, eMeth, methA, eLoc, Res.bind, T2.R.hg, tb_rule, List.lookup, kOf, aCons, aNil, eCallF, q3]
    have q4' := q4
    simp at q4'
    simp [q4', RS.ofE, gNm]
  have hes : ∀ i, esL (L.set k e') i = if i = k then e' else esL L i := fun i => esL_set L (by omega) i
  obtain ⟨_, hlen1⟩ := F.to_rule hk he hes
  have hl4 : (ruleS S (nmN k) (some (e', k))).known.length < 1000 := by omega
  have s4 : (sRet (eIf (tAnd (tB2 (Zk.e2 (oIs false) (eLoc 10) (eCon .non))) (tB2 (Zk.e2 oEq (eCB (orG (Zk.g1 lenA) (orG (Zk.g1 lenD) (Zk.g1 (lenO (Q (n0 + 4)) tb_len)))) (aCons (eLoc 1) aNil)) (Zk.e2 oSub (eCB (orG (Zk.g1 lenA) (orG (Zk.g1 lenD) (Zk.g1 (lenO (Q (n0 + 4)) tb_len)))) (aCons (eLoc 3) aNil)) (eCon (.int 1)))))) (eTup (aCons (eLoc 7) (aCons (eLoc 9) aNil))) (eCon .non))) [some (.ref ma), some (.ref g), some (.ref lg), some (.ref ea), some (.int ((k : Nat) : Int)), some tm, some (.int ((e' : Nat) : Int)), some (.int 0), some (.str (nmN k)), some (.ref h.n), some .non] h4 =
      .ok (.rt (.tup [.int 0, .ref h.n])) [some (.ref ma), some (.ref g), some (.ref lg), some (.ref ea), some (.int ((k : Nat) : Int)), some tm, some (.int ((e' : Nat) : Int)), some (.int 0), some (.str (nmN k)), some (.ref h.n), some .non] h4 := by
    have g1 := len_g (n0 + 3) (Lc0 := [some (.ref ma), some (.ref g), some (.ref lg), some (.ref ea), some (.int ((k : Nat) : Int)), some tm, some (.int ((e' : Nat) : Int)), some (.int 0), some (.str (nmN k)), some (.ref h.n), some .non]) (i := 1) T4.R rfl hl4
    have g2 := len_l (Φ := Q (n0 + 4)) (Lc0 := [some (.ref ma), some (.ref g), some (.ref lg), some (.ref ea), some (.int ((k : Nat) : Int)), some tm, some (.int ((e' : Nat) : Int)), some (.int 0), some (.str (nmN k)), some (.ref h.n), some .non]) (i := 3) T4.he rfl
    have hl5 : (natA (L.set k e')).length = n := by unfold natA; rw [List.length_map, List.length_set]; exact hL
    rw [hl5] at g2
    have e5 : ((((ruleS S (nmN k) (some (e', k))).known.length : Nat) : Int) == ((n : Nat) : Int) - 1) = true := by
      have : (((ruleS S (nmN k) (some (e', k))).known.length : Nat) : Int) = ((n : Nat) : Int) - 1 := by omega
      rw [this]; simp
    unfold sRet eIf tAnd
    have t1 : tB2 (Zk.e2 (oIs false) (eLoc 10) (eCon .non)) [some (.ref ma), some (.ref g), some (.ref lg), some (.ref ea), some (.int ((k : Nat) : Int)), some tm, some (.int ((e' : Nat) : Int)), some (.int 0), some (.str (nmN k)), some (.ref h.n), some .non] h4 = .ok true h4 := by simp [tB2, isB, Zk.e2, eLoc, Res.bind, eCon, oIs]
    have t2 : tB2 (Zk.e2 oEq (LEN (Q (n0 + 4)) 1) (Zk.e2 oSub (LEN (Q (n0 + 4)) 3) (eCon (.int 1)))) [some (.ref ma), some (.ref g), some (.ref lg), some (.ref ea), some (.int ((k : Nat) : Int)), some tm, some (.int ((e' : Nat) : Int)), some (.int 0), some (.str (nmN k)), some (.ref h.n), some .non] h4 = .ok true h4 := by
      simp only [tB2, Zk.e2, g1, g2, Res.bind]
      simp [isB, eCon, oSub, iOp, oEq, oEqB, A.dat, FU, shI, PyData.eqv, e5, Res.bind]
    rw [t1]
    simp only [Res.bind, if_true]
    rw [t2]
    simp [Res.bind, eTup, aCons, aNil, eLoc, SZ, RS.ofE]
  refine ⟨h4, kn', kvs', h.n, [some (.ref ma), some (.ref g), some (.ref lg), some (.ref ea), some (.int ((k : Nat) : Int)), some tm, some (.int ((e' : Nat) : Int)), some (.int 0), some (.str (nmN k)), some (.ref h.n), some .non], ?_, T4, hd4, ndt, ndl⟩
  unfold A0
  rw [sq s1, sq s2, sq s3]
  exact sqR s4
end
end K95
end
section
set_option Elab.async false
set_option linter.all false
set_option maxRecDepth 100000
set_option maxHeartbeats 0
namespace K95
open PySem PySem.Spec PyProof.Rows Zk
open L2 (Key)
section
variable {ns : List Int} {ma B g lg c r kn b t ea : Nat} {kvs : List (Key × A)} {h : Hq} {S : St Rl} {L : List Nat}
def A1 (Φ : Dn) : MS := (sSeq (sAsg (gNm 10) (eLst (aCons (eMeth Φ tb_forget 28 (eLoc 1) (kOf (aCons (eLoc 8) aNil))) (aCons (eMeth Φ tb_forget 28 (eLoc 1) (kOf (aCons (eLoc 8) aNil))) (aCons (eMeth Φ tb_is_current 27 (eLoc 1) (kOf (aCons (eLoc 8) aNil))) aNil)))))
    (sSeq (sRet (eIf (tB2 (Zk.e2 oEq (eLoc 10) (eLst (aCons (eCon (.bl true)) (aCons (eCon (.bl false)) (aCons (eCon (.bl false)) aNil)))))) (eTup (aCons (eLoc 7) (aCons (eIf (tB2 (Zk.e2 oEq (eLoc 4) (Zk.e2 oSub (eCB (orG (Zk.g1 lenA) (orG (Zk.g1 lenD) (Zk.g1 (lenO Φ tb_len)))) (aCons (eLoc 3) aNil)) (eCon (.int 1))))) (eLst (aCons (eLoc 4) aNil)) (eLst aNil)) aNil))) (eCon .non)))
    sNil))
theorem a1_ok {n k e' n0 : Nat} {K : Kt} (T : Tn ns ma B g lg c r kn b t ea kvs h S L) (F : Full n (esL L) S K) (hL : L.length = n) (hk : k < n) (tm : A) (x6 : A) :
    ∃ h' kvs' d L1 S1, A1 (Q (n0 + 4)) [some (.ref ma), some (.ref g), some (.ref lg), some (.ref ea), some (.int ((k : Nat) : Int)), some tm, some x6, some (.int 1), some (.str (nmN k)), none, none] h = .ok (.rt (.tup [.int 1, .ref d])) L1 h' ∧
      Tn ns ma B g lg c r kn b t ea kvs' h' S1 L ∧ S1 = { S with known := dropK (dropK S.known (.inr (txN k))) (.inr (txN k)) } ∧ h'.get d = some (.lst (natA (if k = n - 1 then [k] else []))) ∧ d ≠ t ∧ d ≠ lg := by
  have n6 := F.cs.n6
  have hk6 : k < 6 := by omega
  have n1 := F.n1
  have lt := T.R.lt
  have h1r : (findK S.rules (.inr (nmN k))).isSome = true := by rw [F.cs.rule k hk]; rfl
  have hp : (findK S.known (.inr (txN k))).isSome = true := by rw [F.cs.kn k hk, F.all k hk]; rfl
  obtain ⟨h1, k1, q1, T1, kp1⟩ := T.forget (n0 + 1) F.busy h1r (tx_ok k hk6)
  obtain ⟨h2, k2, q2, T2, kp2⟩ := T1.forget (n0 + 1) F.busy h1r (tx_ok k hk6)
  have q3 := iscur_ok n0 T2.R (rn := nmN k) (ps := []) h1r rfl (by decide) (tx_ok k hk6)
  have e2 : findK (dropK S.known (.inr (txN k))) (.inr (txN k)) = none := by rw [dropK_find, if_pos rfl]
  have e3 : curr { S with known := dropK (dropK S.known (.inr (txN k))) (.inr (txN k)) } (txN k) = none := by
    unfold curr
    show (match findK (dropK (dropK S.known (.inr (txN k))) (.inr (txN k))) (.inr (txN k)) with | some d => _ | none => none) = none
    rw [dropK_find, if_pos rfl]
  rw [hp] at q1
  have q1 : Q (n0 + 4) (.fn 24) [.ref g, .str (nmN k)] [] h = .ok (.bl true) h1 := q1
  have q2 : Q (n0 + 4) (.fn 24) [.ref g, .str (nmN k)] [] h1 = .ok (.bl false) h2 := by
    have q2 := q2
    rw [show (({ S with known := dropK S.known (.inr (txN k)) } : St Rl)).known = dropK S.known (.inr (txN k)) from rfl, e2] at q2
    exact q2
  have q3 : Q (n0 + 4) (.fn 23) [.ref g, .str (nmN k)] [] h2 = .ok (.bl false) h2 := by
    have q3 := q3
    rw [e3] at q3
    exact q3
  have lt2 := T2.R.lt
  have hw2 := T2.R.wf
  -- the lists
  have T3 := T2.new (.lst [.bl true, .bl false, .bl false])
  have T4 := T3.new (.lst [.bl true, .bl false, .bl false])
  have T5 := T4.new (.lst (natA (if k = n - 1 then [k] else [])))
  have nn : ((h2.new (.lst [.bl true, .bl false, .bl false])).new (.lst [.bl true, .bl false, .bl false])).n = h2.n + 2 := rfl
  have s1 : (sAsg (gNm 10) (eLst (aCons (eMeth (Q (n0 + 4)) tb_forget 28 (eLoc 1) (kOf (aCons (eLoc 8) aNil))) (aCons (eMeth (Q (n0 + 4)) tb_forget 28 (eLoc 1) (kOf (aCons (eLoc 8) aNil))) (aCons (eMeth (Q (n0 + 4)) tb_is_current 27 (eLoc 1) (kOf (aCons (eLoc 8) aNil))) aNil))))) [some (.ref ma), some (.ref g), some (.ref lg), some (.ref ea), some (.int ((k : Nat) : Int)), some tm, some x6, some (.int 1), some (.str (nmN k)), none, none] h =
      .ok .nx [some (.ref ma), some (.ref g), some (.ref lg), some (.ref ea), some (.int ((k : Nat) : Int)), some tm, some x6, some (.int 1), some (.str (nmN k)), none, some (.ref h2.n)] (h2.new (.lst [.bl true, .bl false, .bl false])) := by
    simp [sAsg, eLst, aCons, aNil, eMeth, methA, eLoc, Res.bind, T.R.hg, T1.R.hg, T2.R.hg, tb_forget, tb_is_current, List.lookup, kOf, q1, q2, q3, SZ, RS.ofE, gNm]
  have g1 : ((h2.new (.lst [.bl true, .bl false, .bl false])).new (.lst [.bl true, .bl false, .bl false])).get h2.n = some (.lst [.bl true, .bl false, .bl false]) := by simp [Hq.get_new, Hq.n_new]
  have g2 : ((h2.new (.lst [.bl true, .bl false, .bl false])).new (.lst [.bl true, .bl false, .bl false])).get (h2.n + 1) = some (.lst [.bl true, .bl false, .bl false]) := by simp [Hq.get_new, Hq.n_new]
  have hl5 : (natA L).length = n := by unfold natA; rw [List.length_map]; exact hL
  have t0 : tB2 (Zk.e2 oEq (eLoc 10) (eLst (aCons (eCon (.bl true)) (aCons (eCon (.bl false)) (aCons (eCon (.bl false)) aNil))))) [some (.ref ma), some (.ref g), some (.ref lg), some (.ref ea), some (.int ((k : Nat) : Int)), some tm, some x6, some (.int 1), some (.str (nmN k)), none, some (.ref h2.n)] (h2.new (.lst [.bl true, .bl false, .bl false])) = .ok true ((h2.new (.lst [.bl true, .bl false, .bl false])).new (.lst [.bl true, .bl false, .bl false])) := by
    simp [tB2, isB, Zk.e2, eLoc, Res.bind, eLst, aCons, aNil, eCon, SZ, oEq, oEqB, A.dat, A.dats, FU, g1, g2, Hq.n_new, PyData.eqv, PyData.eqvAll, show SeqAt.shaped (.list [.bool true, .bool false, .bool false]) = true from by decide +kernel]
  have g3 := len_l (Φ := Q (n0 + 4)) (Lc0 := [some (.ref ma), some (.ref g), some (.ref lg), some (.ref ea), some (.int ((k : Nat) : Int)), some tm, some x6, some (.int 1), some (.str (nmN k)), none, some (.ref h2.n)]) (i := 3) T4.he rfl
  rw [hl5] at g3
  have t1 : tB2 (Zk.e2 oEq (eLoc 4) (Zk.e2 oSub (LEN (Q (n0 + 4)) 3) (eCon (.int 1)))) [some (.ref ma), some (.ref g), some (.ref lg), some (.ref ea), some (.int ((k : Nat) : Int)), some tm, some x6, some (.int 1), some (.str (nmN k)), none, some (.ref h2.n)] ((h2.new (.lst [.bl true, .bl false, .bl false])).new (.lst [.bl true, .bl false, .bl false])) = .ok (decide (k = n - 1)) ((h2.new (.lst [.bl true, .bl false, .bl false])).new (.lst [.bl true, .bl false, .bl false])) := by
    simp only [tB2, Zk.e2, g3, Res.bind, eLoc, List.getElem?_cons_succ, List.getElem?_cons_zero, eCon, oSub, iOp, oEq, oEqB]
    have e9 : (((k : Nat) : Int) == ((n : Nat) : Int) - 1) = decide (k = n - 1) := by
      by_cases e : k = n - 1
      · have : ((k : Nat) : Int) = ((n : Nat) : Int) - 1 := by omega
        rw [this]; simp [e]
      · have : ¬ ((k : Nat) : Int) = ((n : Nat) : Int) - 1 := by omega
        simp [e, this]
    simp [A.dat, FU, shI, PyData.eqv, e9, isB, Res.bind]
  have s2 : (sRet (eIf (tB2 (Zk.e2 oEq (eLoc 10) (eLst (aCons (eCon (.bl true)) (aCons (eCon (.bl false)) (aCons (eCon (.bl false)) aNil)))))) (eTup (aCons (eLoc 7) (aCons (eIf (tB2 (Zk.e2 oEq (eLoc 4) (Zk.e2 oSub (LEN (Q (n0 + 4)) 3) (eCon (.int 1))))) (eLst (aCons (eLoc 4) aNil)) (eLst aNil)) aNil))) (eCon .non))) [some (.ref ma), some (.ref g), some (.ref lg), some (.ref ea), some (.int ((k : Nat) : Int)), some tm, some x6, some (.int 1), some (.str (nmN k)), none, some (.ref h2.n)] (h2.new (.lst [.bl true, .bl false, .bl false])) =
      .ok (.rt (.tup [.int 1, .ref (h2.n + 2)])) [some (.ref ma), some (.ref g), some (.ref lg), some (.ref ea), some (.int ((k : Nat) : Int)), some tm, some x6, some (.int 1), some (.str (nmN k)), none, some (.ref h2.n)] (((h2.new (.lst [.bl true, .bl false, .bl false])).new (.lst [.bl true, .bl false, .bl false])).new (.lst (natA (if k = n - 1 then [k] else [])))) := by
    unfold sRet eIf
    rw [t0]
    simp only [Res.bind, if_true, eTup, aCons, eLoc, List.getElem?_cons_succ, List.getElem?_cons_zero]
    rw [t1]
    by_cases e : k = n - 1
    · simp [e, Res.bind, eLst, aCons, aNil, eLoc, SZ, RS.ofE, natA, Hq.n_new]
    · simp [e, Res.bind, eLst, aCons, aNil, eLoc, SZ, RS.ofE, natA, Hq.n_new]
  refine ⟨_, k2, h2.n + 2, [some (.ref ma), some (.ref g), some (.ref lg), some (.ref ea), some (.int ((k : Nat) : Int)), some tm, some x6, some (.int 1), some (.str (nmN k)), none, some (.ref h2.n)], _, ?_, T5, rfl, ?_, by omega, by omega⟩
  · unfold A1
    rw [sq s1]
    exact sqR s2
  · exact nwS ((h2.new (.lst [.bl true, .bl false, .bl false])).new (.lst [.bl true, .bl false, .bl false])) _
end
end K95
end
section
set_option Elab.async false
set_option linter.all false
set_option maxRecDepth 100000
set_option maxHeartbeats 0
namespace K95
open PySem PySem.Spec PyProof.Rows Zk
open L2 (Key)
section
variable {ns : List Int} {ma B g lg c r kn b t ea : Nat} {kvs : List (Key × A)} {h : Hq} {S : St Rl} {L : List Nat}
def A2 (Φ : Dn) : MS := (sSeq (sRet (eIf (tOfE (eMeth Φ tb_put 29 (eLoc 1) (kOf (aCons (Zk.e2 oAdd (eCon (.str "cell")) (eCB (Zk.g1 strA) (aCons (eLoc 5) aNil))) (aCons (eCon (.int 0)) aNil))))) (eTup (aCons (eLoc 7) (aCons (eLst aNil) aNil))) (eCon .non)))
    sNil)
def A3 (Φ : Dn) : MS := (sSeq (sRet (eIf (tB2 (Zk.e2 (oIs false) (eMeth Φ tb_rule 26 (eLoc 1) (kOf (aCons (Zk.e2 oAdd (eCon (.str "other")) (eCB (Zk.g1 strA) (aCons (eLoc 5) aNil))) (aCons (eClo 1 []) aNil)))) (eCon .non))) (eTup (aCons (eLoc 7) (aCons (eLst aNil) aNil))) (eCon .non)))
    sNil)
theorem tIsNon {a : ME} {Lc0 : Lc} {h h1 : Hq} (e : a Lc0 h = .ok .non h1) : tB2 (Zk.e2 (oIs false) a (eCon .non)) Lc0 h = .ok true h1 := by
  unfold tB2 Zk.e2
  rw [e]
  rfl
theorem a2_ok {n k tm n0 : Nat} {K : Kt} (T : Tn ns ma B g lg c r kn b t ea kvs h S L) (F : Full n (esL L) S K) (ht : tm < 4) (hc : findK S.cells (.inr (ceN tm)) = none) (hcl : S.cells.length < 1000) (x6 : A) :
    ∃ h' d L1, A2 (Q (n0 + 4)) [some (.ref ma), some (.ref g), some (.ref lg), some (.ref ea), some (.int ((k : Nat) : Int)), some (.int ((tm : Nat) : Int)), some x6, some (.int 2), some (.str (nmN k)), none, none] h = .ok (.rt (.tup [.int 2, .ref d])) L1 h' ∧
      Tn ns ma B g lg c r kn b t ea kvs h' { S with cells := S.cells ++ [(.inr (ceN tm), .int 0)], rev := S.rev + 1 } L ∧ h'.get d = some (.lst (natA [])) ∧ d ≠ t ∧ d ≠ lg := by
  obtain ⟨h1, q1, T1, k1⟩ := T.put (n0 + 1) F.busy (ce_ok tm ht).1 (v := .int 0) rfl hc hcl
  have q1 : Q (n0 + 4) (.fn 10) [.ref g, .str (ceN tm), .int 0] [] h = .ok (.bl true) h1 := q1
  have lt1 := T1.R.lt
  have ec := cel [some (.ref ma), some (.ref g), some (.ref lg), some (.ref ea), some (.int ((k : Nat) : Int)), some (.int ((tm : Nat) : Int)), some x6, some (.int 2), some (.str (nmN k)), none, none] h (i := 5) ht rfl
  refine ⟨h1.new (.lst []), h1.n, [some (.ref ma), some (.ref g), some (.ref lg), some (.ref ea), some (.int ((k : Nat) : Int)), some (.int ((tm : Nat) : Int)), some x6, some (.int 2), some (.str (nmN k)), none, none], ?_, T1.new _, nwS _ _, by omega, by omega⟩
  have et : tOfE (eMeth (Q (n0 + 4)) tb_put 29 (eLoc 1) (kOf (aCons (Zk.e2 oAdd (eCon (.str "cell")) (eCB (Zk.g1 strA) (aCons (eLoc 5) aNil))) (aCons (eCon (.int 0)) aNil)))) [some (.ref ma), some (.ref g), some (.ref lg), some (.ref ea), some (.int ((k : Nat) : Int)), some (.int ((tm : Nat) : Int)), some x6, some (.int 2), some (.str (nmN k)), none, none] h = .ok true h1 := by
    simp only [tOfE, eMeth, eLoc, List.getElem?_cons_succ, List.getElem?_cons_zero, Res.bind, methA, T.R.hg, tb_put, List.lookup, kOf, aCons, ec, eCon, aNil]
    simp [q1, truth, Res.bind]
  unfold A2
  refine sqR ?_
  unfold sRet eIf
  rw [et]
  simp [Res.bind, eTup, aCons, aNil, eLoc, eLst, SZ, RS.ofE]
theorem a3_ok {n k tm n0 : Nat} {K : Kt} (T : Tn ns ma B g lg c r kn b t ea kvs h S L) (F : Full n (esL L) S K) (ht : tm < 4) (hrl : S.rules.length < 1000) (x6 x7 : A) :
    ∃ h' kn' kvs' d L1, A3 (Q (n0 + 4)) [some (.ref ma), some (.ref g), some (.ref lg), some (.ref ea), some (.int ((k : Nat) : Int)), some (.int ((tm : Nat) : Int)), some x6, some x7, some (.str (nmN k)), none, none] h = .ok (.rt (.tup [x7, .ref d])) L1 h' ∧
      Tn ns ma B g lg c r kn' b t ea kvs' h' (ruleS S (otN tm) none) L ∧ h'.get d = some (.lst (natA [])) ∧ d ≠ t ∧ d ≠ lg := by
  have few := F.cs.few
  obtain ⟨o1, o2, _⟩ := ot_ok tm ht
  obtain ⟨h1, kn', kvs', q1, T1, k1⟩ := T.rule (n0 + 1) F.busy o1 o2 (fv := .clo 1 []) (ρ := none) rfl (by omega) (by omega)
  have q1 : Q (n0 + 4) (.fn 11) [.ref g, .str (otN tm), .clo 1 []] [] h = .ok .non h1 := q1
  have lt1 := T1.R.lt
  have ec := oth [some (.ref ma), some (.ref g), some (.ref lg), some (.ref ea), some (.int ((k : Nat) : Int)), some (.int ((tm : Nat) : Int)), some x6, some x7, some (.str (nmN k)), none, none] h (i := 5) ht rfl
  refine ⟨h1.new (.lst []), kn', kvs', h1.n, [some (.ref ma), some (.ref g), some (.ref lg), some (.ref ea), some (.int ((k : Nat) : Int)), some (.int ((tm : Nat) : Int)), some x6, some x7, some (.str (nmN k)), none, none], ?_, T1.new _, nwS _ _, by omega, by omega⟩
  have et : tB2 (Zk.e2 (oIs false) (eMeth (Q (n0 + 4)) tb_rule 26 (eLoc 1) (kOf (aCons (Zk.e2 oAdd (eCon (.str "other")) (eCB (Zk.g1 strA) (aCons (eLoc 5) aNil))) (aCons (eClo 1 []) aNil)))) (eCon .non)) [some (.ref ma), some (.ref g), some (.ref lg), some (.ref ea), some (.int ((k : Nat) : Int)), some (.int ((tm : Nat) : Int)), some x6, some x7, some (.str (nmN k)), none, none] h = .ok true h1 := by
    have em : (eMeth (Q (n0 + 4)) tb_rule 26 (eLoc 1) (kOf (aCons (Zk.e2 oAdd (eCon (.str "other")) (eCB (Zk.g1 strA) (aCons (eLoc 5) aNil))) (aCons (eClo 1 []) aNil)))) [some (.ref ma), some (.ref g), some (.ref lg), some (.ref ea), some (.int ((k : Nat) : Int)), some (.int ((tm : Nat) : Int)), some x6, some x7, some (.str (nmN k)), none, none] h = .ok .non h1 := by
      simp only [eMeth, eLoc, List.getElem?_cons_succ, List.getElem?_cons_zero, Res.bind, methA, T.R.hg, tb_rule, List.lookup, kOf, aCons, ec, eClo, aNil]
      exact q1
    refine tIsNon em
  unfold A3
  refine sqR ?_
  unfold sRet eIf
  rw [et]
  simp [Res.bind, eTup, aCons, aNil, eLoc, eLst, SZ, RS.ofE]
theorem turn_ok {n k tm n0 : Nat} {K : Kt} (T : Tn ns ma B g lg c r kn b t ea kvs h S L) (F : Full n (esL L) S K) (hL : L.length = n) (hk : k < n) (ht : tm < 4) (hns : ns.length ≤ 63) (hB : B < 4000000000) (hrl : S.rules.length < 1000) (hc : findK S.cells (.inr (ceN tm)) = none) (hcl : S.cells.length < 1000) : TR ns ma B g lg c r b t ea n k tm S h L n0 := by
  have n6 := F.cs.n6
  have hk6 : k < 6 := by omega
  obtain ⟨h1, v5, q1, a1, a2, T1⟩ := T.next hns (by omega) (n0 + 3) (total := 5) (by decide) (by decide)
  obtain ⟨h2, v4, q2, b1, b2, T2⟩ := T1.next hns (by omega) (n0 + 3) (total := 4) (by decide) (by decide)
  obtain ⟨e', rfl⟩ : ∃ e' : Nat, v5 = ((e' : Nat) : Int) := ⟨v5.toNat, by omega⟩
  obtain ⟨way, rfl⟩ : ∃ w : Nat, v4 = ((w : Nat) : Int) := ⟨v4.toNat, by omega⟩
  have q1 : Q (n0 + 4) (.fn 28) [.ref ma, .int 5] [] h = .ok (.int ((e' : Nat) : Int)) h1 := q1
  have q2 : Q (n0 + 4) (.fn 28) [.ref ma, .int 4] [] h1 = .ok (.int ((way : Nat) : Int)) h2 := q2
  have el := lnk [some (.ref ma), some (.ref g), some (.ref lg), some (.ref ea), some (.int ((k : Nat) : Int)), some (.int ((tm : Nat) : Int)), none, none, none, none, none] h2 (i := 4) hk6 rfl
  have s0 : (sPar [6, 7, 8] (aCons (eCallF (Q (n0 + 4)) (.fn 28) (kOf (aCons (eLoc 0) (aCons (eCon (.int 5)) aNil)))) (aCons (eCallF (Q (n0 + 4)) (.fn 28) (kOf (aCons (eLoc 0) (aCons (eCon (.int 4)) aNil)))) (aCons (Zk.e2 oAdd (eCon (.str "link")) (eCB (Zk.g1 strA) (aCons (eLoc 4) aNil))) aNil)))) [some (.ref ma), some (.ref g), some (.ref lg), some (.ref ea), some (.int ((k : Nat) : Int)), some (.int ((tm : Nat) : Int)), none, none, none, none, none] h =
      .ok .nx [some (.ref ma), some (.ref g), some (.ref lg), some (.ref ea), some (.int ((k : Nat) : Int)), some (.int ((tm : Nat) : Int)), some (.int ((e' : Nat) : Int)), some (.int ((way : Nat) : Int)), some (.str (nmN k)), none, none] h2 := by
    simp only [sPar, aCons, eCallF, kOf, eLoc, List.getElem?_cons_succ, List.getElem?_cons_zero, Res.bind, eCon, aNil, q1, q2, el]
    rfl
  have test : ∀ (j : Nat), tB2 (Zk.e2 oEq (eLoc 7) (eCon (.int ((j : Nat) : Int)))) [some (.ref ma), some (.ref g), some (.ref lg), some (.ref ea), some (.int ((k : Nat) : Int)), some (.int ((tm : Nat) : Int)), some (.int ((e' : Nat) : Int)), some (.int ((way : Nat) : Int)), some (.str (nmN k)), none, none] h2 = .ok (decide (way = j)) h2 := fun j => by
    have e9 : (((way : Nat) : Int) == ((j : Nat) : Int)) = decide (way = j) := by
      by_cases e : way = j
      · simp [e]
      · have : ¬ ((way : Nat) : Int) = ((j : Nat) : Int) := by omega
        simp [e, this]
    simp [tB2, isB, Zk.e2, eLoc, Res.bind, eCon, oEq, oEqB, A.dat, FU, shI, PyData.eqv, e9]
  have hD : Q (n0 + 5) (.fn 30) [.ref ma, .ref g, .ref lg, .ref ea, .int ((k : Nat) : Int), .int ((tm : Nat) : Int)] [] h = outF ((sSeq (sIf (tB2 (Zk.e2 oEq (eLoc 7) (eCon (.int ((0 : Nat) : Int))))) (A0 (Q (n0 + 4))) sNil) (sSeq (sIf (tB2 (Zk.e2 oEq (eLoc 7) (eCon (.int ((1 : Nat) : Int))))) (A1 (Q (n0 + 4))) sNil) (sSeq (sIf (tB2 (Zk.e2 oEq (eLoc 7) (eCon (.int ((2 : Nat) : Int))))) (A2 (Q (n0 + 4))) sNil) (A3 (Q (n0 + 4))))))
      [some (.ref ma), some (.ref g), some (.ref lg), some (.ref ea), some (.int ((k : Nat) : Int)), some (.int ((tm : Nat) : Int)), some (.int ((e' : Nat) : Int)), some (.int ((way : Nat) : Int)), some (.str (nmN k)), none, none] h2) := congrArg outF (sq s0)
  have no : ∀ (j : Nat) (X : MS), way ≠ j → sIf (tB2 (Zk.e2 oEq (eLoc 7) (eCon (.int ((j : Nat) : Int))))) X sNil [some (.ref ma), some (.ref g), some (.ref lg), some (.ref ea), some (.int ((k : Nat) : Int)), some (.int ((tm : Nat) : Int)), some (.int ((e' : Nat) : Int)), some (.int ((way : Nat) : Int)), some (.str (nmN k)), none, none] h2 = .ok .nx [some (.ref ma), some (.ref g), some (.ref lg), some (.ref ea), some (.int ((k : Nat) : Int)), some (.int ((tm : Nat) : Int)), some (.int ((e' : Nat) : Int)), some (.int ((way : Nat) : Int)), some (.str (nmN k)), none, none] h2 := fun j X e => by
    unfold sIf
    rw [test j, decide_eq_false e]
    rfl
  have yes : ∀ (j : Nat) (X : MS) {Lx : Lc} {hx : Hq} {v : A}, way = j → X [some (.ref ma), some (.ref g), some (.ref lg), some (.ref ea), some (.int ((k : Nat) : Int)), some (.int ((tm : Nat) : Int)), some (.int ((e' : Nat) : Int)), some (.int ((way : Nat) : Int)), some (.str (nmN k)), none, none] h2 = .ok (.rt v) Lx hx → sIf (tB2 (Zk.e2 oEq (eLoc 7) (eCon (.int ((j : Nat) : Int))))) X sNil [some (.ref ma), some (.ref g), some (.ref lg), some (.ref ea), some (.int ((k : Nat) : Int)), some (.int ((tm : Nat) : Int)), some (.int ((e' : Nat) : Int)), some (.int ((way : Nat) : Int)), some (.str (nmN k)), none, none] h2 = .ok (.rt v) Lx hx := fun j X Lx hx v e ex => by
    unfold sIf
    rw [test j, decide_eq_true e]
    exact ex
  have hw : way = 0 ∨ way = 1 ∨ way = 2 ∨ way = 3 := by omega
  refine ⟨?_⟩
  rcases hw with rfl | rfl | rfl | rfl
  · obtain ⟨h', kn', kvs', d, L1, q, T', hd, d1, d2⟩ := a0_ok (n0 := n0) (e' := e') T2 F hL hk (by omega) hrl 0 0 (.int ((tm : Nat) : Int))
    have hes : ∀ i, esL (L.set k e') i = if i = k then e' else esL L i := fun i => esL_set L (by omega) i
    obtain ⟨TO', hlen⟩ := F.to_rule hk (by omega) hes
    refine ⟨0, _, L.set k e', h', kn', kvs', _, _, d, ?_, T', TO', by rw [List.length_set]; exact hL, hd, d1, d2, .inl rfl, putK_len⟩
    rw [hD, sqR (yes 0 _ rfl q)]
    rfl
  · obtain ⟨h', kvs', d, L1, S1, q, T', eS, hd, d1, d2⟩ := a1_ok (e' := 0) (n0 := n0) T2 F hL hk (.int ((tm : Nat) : Int)) (.int ((e' : Nat) : Int))
    have TO' := F.to_forget hk eS
    refine ⟨1, _, L, h', kn, kvs', S1, _, d, ?_, T', TO', hL, hd, d1, d2, .inl (by rw [eS]), by rw [eS]; exact Nat.le_succ _⟩
    rw [hD, sq (no 0 _ (by decide)), sqR (yes 1 _ rfl q)]
    rfl
  · obtain ⟨h', d, L1, q, T', hd, d1, d2⟩ := a2_ok (k := k) (n0 := n0) T2 F ht hc hcl (.int ((e' : Nat) : Int))
    have TO' := F.to_more k (way := 2) (by decide) (S1 := { S with cells := S.cells ++ [(.inr (ceN tm), .int 0)], rev := S.rev + 1 }) F.cs_put F.busy rfl rfl
    refine ⟨2, [], L, h', kn, kvs, _, K, d, ?_, T', TO', hL, hd, d1, d2, .inr rfl, Nat.le_succ _⟩
    rw [hD, sq (no 0 _ (by decide)), sq (no 1 _ (by decide)), sqR (yes 2 _ rfl q)]
    rfl
  · obtain ⟨h', kn', kvs', d, L1, q, T', hd, d1, d2⟩ := a3_ok (k := k) (n0 := n0) T2 F ht hrl (.int ((e' : Nat) : Int)) (.int ((3 : Nat) : Int))
    have TO' := F.to_more k (way := 3) (by decide) (S1 := ruleS S (otN tm) none) (F.cs_other fun i hi => ot_ne i hi tm ht) F.busy rfl rfl
    refine ⟨3, [], L, h', kn', kvs', _, K, d, ?_, T', TO', hL, hd, d1, d2, .inl rfl, putK_len⟩
    rw [hD, sq (no 0 _ (by decide)), sq (no 1 _ (by decide)), sq (no 2 _ (by decide)), q]
    rfl
end
end K95
end
section
set_option Elab.async false
set_option linter.all false
set_option maxRecDepth 100000
set_option maxHeartbeats 0
namespace K95
open PySem PySem.Spec PyProof.Rows Zk
open L2 (Key)
section
variable {L0 : Lc} {h h1 h2 : Hq}
theorem or_ff {a b : MT} (ea : a L0 h = .ok false h1) (eb : b L0 h1 = .ok false h2) : tOr a b L0 h = .ok false h2 := by
  unfold tOr; rw [ea]; exact eb
theorem and_f {a b : MT} (ea : a L0 h = .ok false h1) : tAnd a b L0 h = .ok false h1 := by
  unfold tAnd; rw [ea]; rfl
theorem and_t {a b : MT} {r : Res Bool} (ea : a L0 h = .ok true h1) (eb : b L0 h1 = r) : tAnd a b L0 h = r := by
  unfold tAnd; rw [ea]; exact eb
theorem if_f {c : MT} {X : MS} (e : c L0 h = .ok false h1) : sIf c X sNil L0 h = .ok .nx L0 h1 := by
  unfold sIf; rw [e]; rfl
theorem eqv_int (i : Int) : PyData.eqv (.int i) (.int i) = true := by simp [PyData.eqv]
theorem ne_int {a b : ME} {i : Int} (ea : a L0 h = .ok (.int i) h1) (eb : b L0 h1 = .ok (.int i) h2) : tB2 (Zk.e2 oNe a b) L0 h = .ok false h2 := by
  simp [tB2, isB, Zk.e2, ea, eb, Res.bind, oNe, oEqB, A.dat, FU, shI, eqv_int]
theorem eq_int {a b : ME} {i j : Int} (ea : a L0 h = .ok (.int i) h1) (eb : b L0 h1 = .ok (.int j) h2) : tB2 (Zk.e2 oEq a b) L0 h = .ok (decide (i = j)) h2 := by
  have e9 : (i == j) = decide (i = j) := rfl
  simp [tB2, isB, Zk.e2, ea, eb, Res.bind, oEq, oEqB, A.dat, FU, shI, PyData.eqv, e9]
theorem lt_int {a b : ME} {i j : Int} (ea : a L0 h = .ok (.int i) h1) (eb : b L0 h1 = .ok (.int j) h2) : tB2 (Zk.e2 oLt a b) L0 h = .ok (decide (i < j)) h2 := by
  simp [tB2, isB, Zk.e2, ea, eb, Res.bind, oLt, iOp]
theorem add_int {a b : ME} {i j : Int} (ea : a L0 h = .ok (.int i) h1) (eb : b L0 h1 = .ok (.int j) h2) : Zk.e2 oAdd a b L0 h = .ok (.int (i + j)) h2 := by
  simp [Zk.e2, ea, eb, Res.bind, oAdd, orE, oAddI, iOp]
theorem sub_int {a b : ME} {i j : Int} (ea : a L0 h = .ok (.int i) h1) (eb : b L0 h1 = .ok (.int j) h2) : Zk.e2 oSub a b L0 h = .ok (.int (i - j)) h2 := by
  simp [Zk.e2, ea, eb, Res.bind, oSub, iOp]
theorem eqv_ints : ∀ xs : List Int, PyData.eqvAll (xs.map PyData.int) (xs.map PyData.int) = true
  | [] => by simp [PyData.eqvAll]
  | x :: xs => by simp [PyData.eqvAll, PyData.eqv, eqv_ints xs]
theorem ne_lst {a b : ME} {l1 l2 : Nat} {xs : List Int} (ea : a L0 h = .ok (.ref l1) h1) (eb : b L0 h1 = .ok (.ref l2) h2) (e1 : h2.get l1 = some (.lst (xs.map A.int))) (e2 : h2.get l2 = some (.lst (xs.map A.int))) (hl : xs.length ≤ 1000) : tB2 (Zk.e2 oNe a b) L0 h = .ok false h2 := by
  have hd : A.dats h2 1999 (xs.map A.int) = some (xs.map PyData.int) := dats_ints _ 1999 xs (by omega)
  have hq : PyData.eqv (.list (xs.map PyData.int)) (.list (xs.map PyData.int)) = true := by simp [PyData.eqv, eqv_ints]
  simp [tB2, isB, Zk.e2, ea, eb, Res.bind, oNe, oEqB, A.dat, FU, e1, e2, hd, shL, hq]
theorem natA_int (L : List Nat) : natA L = (L.map fun e => ((e : Nat) : Int)).map A.int := by
  unfold natA; rw [List.map_map]; rfl
theorem sum_ok {i l : Nat} {EL : List Nat} (e1 : h.get l = some (.lst (natA EL))) (hL : eLoc i L0 h = .ok (.ref l) h) : eCB (Zk.g1 sumA) (aCons (eLoc i) aNil) L0 h = .ok (.int ((EL.sum : Nat) : Int)) h := by
  simp only [eCB, aCons, aNil, hL, Res.bind, Zk.g1, sumA, seqOf, e1, ints_nat, sum_cast]
theorem con_ok {x : A} : eCon x L0 h = .ok x h := rfl
theorem meth1 {Φ : Dn} {tb : Nat → Option Nat} {i j g : Nat} {mo ma : ME} {fs : List (Nat × A)} {x : A} (e1 : mo L0 h = .ok (.ref g) h) (e2 : h.get g = some (.ins 3 fs)) (e3 : tb 3 = some j) (e4 : ma L0 h = .ok x h) (e5 : fs.lookup i = none) : eMeth Φ tb i mo (kOf (aCons ma aNil)) L0 h = Φ (.fn j) [.ref g, x] [] h := by
  simp only [eMeth, e1, Res.bind, kOf, aCons, e4, aNil, methA, e2, e3, e5]
theorem attr1 {Φ : Dn} {at_ : Nat → Ak} {i j g : Nat} {mo : ME} {fs : List (Nat × A)} {x : A} (e1 : mo L0 h = .ok (.ref g) h) (e2 : h.get g = some (.ins 3 fs)) (e3 : at_ 3 = .prop j) (q : Φ (.fn j) [.ref g] [] h = .ok x h1) : eAttr Φ at_ i mo L0 h = .ok x h1 := by
  simp [eAttr, e1, Res.bind, getA, e2, e3, q, Res.calm]
end
end K95
end
section
set_option Elab.async false
set_option linter.all false
set_option maxRecDepth 100000
set_option maxHeartbeats 0
namespace K95
open PySem PySem.Spec PyProof.Rows Zk
open L2 (Key)
abbrev LS (v2 : A) (ma g lg n ea : Nat) (x6 x9 x10 x11 : Option A) : Lc := [some (.ref 0), some (.ref ma), some v2, some (.ref g), some (.ref lg), some (.int ((n : Nat) : Int)), x6, some (.ref ea), some (.str (nmN (n - 1))), x9, x10, x11]
/-- what stands between turns -/
structure LI (ns : List Int) (ma B g lg c r b t ea n i : Nat) (h : Hq) : Prop where
  ex : ∃ kn kvs S K EL, Tn ns ma B g lg c r kn b t ea kvs h S EL ∧ Full n (esL EL) S K ∧ EL.length = n ∧ S.rules.length ≤ 10 + i ∧ S.cells.length ≤ 10 + i ∧ ∀ j < 4, i ≤ j → findK S.cells (.inr (ceN j)) = none
/-- one below is of today, this one not known: filled in alone -/
theorem outK_fill {V pv : Nat → Nat} {rev : Int} {k : Nat} {K : Kt} (h0 : K k = none) (hc : ∀ i < k, isCur rev (K i) = true) (i : Nat) : outK V pv rev k K i = if i = k then some (V k, pv k, rev) else K i := by
  rw [← outK_eq, h0, if_neg (by simp [isCur])]
  unfold setN
  by_cases e : i = k
  · simp [e]
  · rw [if_neg e, if_neg e]
    cases k with
    | zero => simp [bout, e]
    | succ k =>
      have hk : isCur rev ((fun j => if j = k + 1 then none else K j) k) = true := by
        have : ¬ k = k + 1 := by omega
        simp only [if_neg this]
        exact hc k (by omega)
      have := (cur_same (V := V) (pv := pv) (rev := rev) k (fun j => if j = k + 1 then none else K j) hk).1
      show outK V pv rev k (fun j => if j = k + 1 then none else K j) i = K i
      rw [this]
      simp [e]
section
variable {n : Nat} {es : Nat → Nat} {S S1 : St Rl} {K K1 : Kt} {k way : Nat} {due : List Nat}
theorem Full.log (F : Full n es S K) (xs : List A) : Full n es { S with log := xs } K := ⟨F.cs.log xs, F.all, F.busy, F.e4, F.n1⟩
/-- the call of the top after a turn -/
theorem TO.top (X : TO n k es S S1 way due K1) (n1 : 1 ≤ n) (hl : S.log = []) : ∃ S2, gcall prK 6 (nmN (n - 1)) [] S1 = some (.int ((VF es (n - 1) : Nat) : Int), S2) ∧ After n es (VF es) (pvF es) S1 (n - 1) S2 (outK (VF es) (pvF es) S1.rev (n - 1) K1) due ∧ outN S2 = 0 ∧ S2.log = natA due ∧ due.length ≤ 6 := by
  have n6 := X.cs.n6
  have hlog : S1.log = [] := by rw [X.log, hl]
  obtain ⟨S2, e, Af⟩ := chain (n - 1) 6 (by omega) (by omega) X.cs (fun i _ => by rw [X.busy]; simp) (by rw [X.busy]; simp; omega) (by rw [hlog]; simp; omega)
  have hd := X.due
  rw [hd] at Af
  refine ⟨S2, e, Af, ?_, ?_, ?_⟩
  · refine Af.cs.out0 fun j hj x ex => ?_
    rw [Af.rev]
    exact X.cur j hj x ex
  · rw [Af.log, hlog]; rfl
  · rw [← hd]
    have := logK_len (pv := pvF es) (rev := S1.rev) (n - 1) K1
    omega
/-- after it: whole again, or but for one -/
theorem TO.full (X : TO n k es S S1 way due K1) (n1 : 1 ≤ n) {S2 : St Rl} (Af : After n es (VF es) (pvF es) S1 (n - 1) S2 (outK (VF es) (pvF es) S1.rev (n - 1) K1) due) (hw : way ≠ 1 ∨ k = n - 1) (hk : k < n) : Full n es S2 (outK (VF es) (pvF es) S1.rev (n - 1) K1) := by
  refine ⟨Af.cs, fun j hj => ?_, by rw [Af.busy, X.busy], X.e4, n1⟩
  rw [Af.rev]
  by_cases e : way = 1
  · have hw : k = n - 1 := hw.resolve_left fun z => z e
    by_cases ej : j = k
    · rw [ej]; exact (X.one e).2.2 hw
    · exact (X.one e).1 j hj ej
  · exact X.non1 e j hj
/-- the call of the one that was let go -/
theorem TO.again (X : TO n k es S S1 way due K1) (n1 : 1 ≤ n) {S2 : St Rl} (Af : After n es (VF es) (pvF es) S1 (n - 1) S2 (outK (VF es) (pvF es) S1.rev (n - 1) K1) due) (hw : way = 1) (hk : k < n) (hl2 : S2.log.length ≤ 6) : ∃ S3 K3, gcall prK 6 (nmN k) [] S2 = some (.int ((VF es k : Nat) : Int), S3) ∧ Full n es S3 K3 ∧ S3.rules = S2.rules ∧ S3.cells = S2.cells := by
  have n6 := X.cs.n6
  obtain ⟨S3, e, A3⟩ := chain k 6 (by omega) hk Af.cs (fun i _ => by rw [Af.busy, X.busy]; simp) (by rw [Af.busy, X.busy]; simp; omega) (by omega)
  refine ⟨S3, _, e, ⟨A3.cs, fun j hj => ?_, by rw [A3.busy, Af.busy, X.busy], X.e4, n1⟩, A3.rules, A3.cells⟩
  rw [A3.rev, Af.rev]
  obtain ⟨o1, o2, o3⟩ := X.one hw
  by_cases ek : k = n - 1
  · have hc : isCur S1.rev (outK (VF es) (pvF es) S1.rev (n - 1) K1 k) = true := by rw [o3 ek]; simp [isCur]
    rw [(cur_same k _ hc).1]
    by_cases ej : j = k
    · rw [ej]; exact o3 ek
    · exact o1 j hj ej
  · rw [outK_fill (o2 (by omega)) (fun i hi => by rw [o1 i (by omega) (by omega)]; simp [isCur])]
    by_cases ej : j = k
    · rw [if_pos ej, ej]
    · rw [if_neg ej]; exact o1 j hj ej
/-- how many are known when one is missing -/
theorem TO.miss (X : TO n k es S S1 way due K1) {S2 : St Rl} (Af : After n es (VF es) (pvF es) S1 (n - 1) S2 (outK (VF es) (pvF es) S1.rev (n - 1) K1) due) (hw : way = 1) (hk : k < n - 1) : S2.known.length + 1 = n ∧ findK S2.known (.inr (txN k)) = none := by
  obtain ⟨o1, o2, _⟩ := X.one hw
  have hn := o2 hk
  refine ⟨?_, ?_⟩
  · rw [Af.cs.len]
    exact cntK_but n (by omega) hn fun j hj ne => by rw [o1 j hj ne]; rfl
  · rw [Af.cs.kn k (by omega), hn]; rfl
end
end K95
end
section
set_option Elab.async false
set_option linter.all false
set_option maxRecDepth 100000
set_option maxHeartbeats 0
namespace K95
open PySem PySem.Spec PyProof.Rows Zk
open L2 (Key)
def C4 (Φ : Dn) : MT := (tOr (tB2 (Zk.e2 (oIs false) (eLoc 11) (eCon .non))) (tB2 (Zk.e2 oNe (eAttr Φ at_revision 30 (eLoc 3)) (Zk.e2 oAdd (eLoc 10) (eCB (Zk.g1 intA) (aCons (Zk.e2 oNe (Zk.e2 oIx (eLoc 11) (eCon (.int 0))) (eCon (.int 1))) aNil))))))
def C5 (Φ : Dn) : MT := (tB2 (Zk.e2 oNe (eAttr Φ at_outdated 31 (eLoc 3)) (eIf (tB2 (Zk.e2 oEq (Zk.e2 oIx (eLoc 11) (eCon (.int 0))) (eCon (.int 1)))) (eCon (.int 0)) (eCB (orG (Zk.g1 lenA) (orG (Zk.g1 lenD) (Zk.g1 (lenO Φ tb_len)))) (aCons (eLoc 3) aNil)))))
def C6 (Φ : Dn) : MT := (tOr (tB2 (Zk.e2 oNe (eMeth Φ tb_call 9 (eLoc 3) (kOf (aCons (eLoc 8) aNil))) (Zk.e2 oAdd (eCon (.int 10)) (eCB (Zk.g1 sumA) (aCons (eLoc 7) aNil))))) (tOr (tB2 (Zk.e2 oNe (eLoc 4) (Zk.e2 oIx (eLoc 11) (eCon (.int 1))))) (tB2 (Zk.e2 oNe (eAttr Φ at_outdated 31 (eLoc 3)) (eCon (.int 0))))))
def C7 (Φ : Dn) : MT := (tAnd (tB2 (Zk.e2 oEq (Zk.e2 oIx (eLoc 11) (eCon (.int 0))) (eCon (.int 1)))) (tAnd (tB2 (Zk.e2 oLt (eLoc 6) (Zk.e2 oSub (eLoc 5) (eCon (.int 1))))) (tOr (tB2 (Zk.e2 oNe (eCB (orG (Zk.g1 lenA) (orG (Zk.g1 lenD) (Zk.g1 (lenO Φ tb_len)))) (aCons (eLoc 3) aNil)) (Zk.e2 oSub (eLoc 5) (eCon (.int 1))))) (tB2 (Zk.e2 (oIs true) (eMeth Φ tb_uses 32 (eLoc 3) (kOf (aCons (Zk.e2 oAdd (eCon (.str "link")) (eCB (Zk.g1 strA) (aCons (eLoc 6) aNil))) aNil))) (eCon .non))))))
def C8 (Φ : Dn) : MT := (tAnd (tB2 (Zk.e2 oEq (Zk.e2 oIx (eLoc 11) (eCon (.int 0))) (eCon (.int 1)))) (tB2 (Zk.e2 oNe (eMeth Φ tb_call 9 (eLoc 3) (kOf (aCons (Zk.e2 oAdd (eCon (.str "link")) (eCB (Zk.g1 strA) (aCons (eLoc 6) aNil))) aNil))) (Zk.e2 oAdd (eCon (.int 10)) (eCB (Zk.g1 sumA) (aCons (eSl (eLoc 7) oNo (oSome (Zk.e2 oAdd (eLoc 6) (eCon (.int 1))))) aNil))))))
def BT (Φ : Dn) : MS := (sSeq (sPar [6, 10] (aCons (eCallF Φ (.fn 28) (kOf (aCons (eLoc 1) (aCons (eLoc 5) aNil)))) (aCons (eAttr Φ at_revision 30 (eLoc 3)) aNil)))
    (sSeq (sExp (eBM .lst gClear (eLoc 4) aNil))
    (sSeq (sAsg (gNm 11) (eCallF Φ (.fn 30) (kOf (aCons (eLoc 1) (aCons (eLoc 3) (aCons (eLoc 4) (aCons (eLoc 7) (aCons (eLoc 6) (aCons (eLoc 9) aNil)))))))))
    (sSeq (sIf (C4 Φ) (sSeq (sRet (eCon (.bl false)))
    sNil) sNil)
    (sSeq (sIf (C5 Φ) (sSeq (sRet (eCon (.bl false)))
    sNil) sNil)
    (sSeq (sIf (C6 Φ) (sSeq (sRet (eCon (.bl false)))
    sNil) sNil)
    (sSeq (sIf (C7 Φ) (sSeq (sRet (eCon (.bl false)))
    sNil) sNil)
    (sSeq (sIf (C8 Φ) (sSeq (sRet (eCon (.bl false)))
    sNil) sNil)
    sNil))))))))
section
variable {L0 : Lc} {h h1 h2 : Hq}
theorem ix0 {i : Nat} {u v : A} (hL : eLoc i L0 h = .ok (.tup [u, v]) h) : Zk.e2 oIx (eLoc i) (eCon (.int 0)) L0 h = .ok u h := by
  simp [Zk.e2, hL, Res.bind, eCon, oIx, orE, oIxS, oIxT, seqOf, L2.atI, L2.ixN]
theorem ix1 {i : Nat} {u v : A} (hL : eLoc i L0 h = .ok (.tup [u, v]) h) : Zk.e2 oIx (eLoc i) (eCon (.int 1)) L0 h = .ok v h := by
  simp [Zk.e2, hL, Res.bind, eCon, oIx, orE, oIxS, oIxT, seqOf, L2.atI, L2.ixN]
theorem neB {a : ME} {way : Nat} (ea : a L0 h = .ok (.int ((way : Nat) : Int)) h) : eCB (Zk.g1 intA) (aCons (Zk.e2 oNe a (eCon (.int 1))) aNil) L0 h = .ok (.int (if way = 1 then 0 else 1)) h := by
  have e9 : (((way : Nat) : Int) == 1) = decide (way = 1) := by
    by_cases e : way = 1
    · simp [e]
    · have : ¬ ((way : Nat) : Int) = 1 := by omega
      simp [e, this]
  simp [eCB, aCons, aNil, Zk.e2, ea, Res.bind, eCon, oNe, oEqB, A.dat, FU, shI, PyData.eqv, e9, Zk.g1, intA]
end
end K95
end
section
set_option Elab.async false
set_option linter.all false
set_option maxRecDepth 100000
set_option maxHeartbeats 0
namespace K95
open PySem PySem.Spec PyProof.Rows Zk
open L2 (Key)
theorem take_nat {EL : List Nat} {k : Nat} (hk : k + 1 ≤ EL.length) : cutA (natA EL) none (some (((k : Nat) : Int) + 1)) = natA (EL.take (k + 1)) := by
  unfold cutA HT.sIx natA
  simp only [List.length_map]
  have : (min (((k : Nat) : Int) + 1) ((EL.length : Nat) : Int)).toNat = k + 1 := by omega
  have hz : ¬ (((k : Nat) : Int) + 1 < 0) := by omega
  simp [hz, List.map_take]
  try omega
section
variable {ns : List Int} {ma B g lg c r kn b t ea : Nat} {kvs : List (Key × A)} {h : Hq} {S S1 S2 : St Rl} {EL : List Nat} {n k way d : Nat} {due : List Nat} {K1 : Kt} {v2 : A} {rev0 : Int} {x9 : Option A}
theorem wayD : decide (((way : Nat) : Int) = 1) = decide (way = 1) := by
  by_cases e : way = 1
  · simp [e]
  · have : ¬ ((way : Nat) : Int) = 1 := by omega
    simp [e, this]
theorem c4_ok (m : Nat) (R : Rx (relK lg) g lg c r kn b t kvs h S) (hr : S.rev = rev0 + (if way = 1 then 0 else 1)) :
    C4 (Q (m + 1)) (LS v2 ma g lg n ea (some (.int ((k : Nat) : Int))) x9 (some (.int rev0)) (some (.tup [.int ((way : Nat) : Int), .ref d]))) h = .ok false h := by
  have q := revision_ok m R
  unfold C4
  refine or_ff (h1 := h) ?_ (ne_int (i := S.rev) (attr1 (g := g) rfl R.hg rfl q) ?_)
  · simp [tB2, isB, Zk.e2, eLoc, Res.bind, eCon, oIs]
  · rw [hr]
    exact add_int rfl (neB (ix0 rfl))
theorem c5_ok (m : Nat) (T : Tn ns ma B g lg c r kn b t ea kvs h S EL) (hl : S.known.length < 1000) (ho : outN S = if way = 1 then 0 else S.known.length) :
    ∃ h', C5 (Q (m + 1)) (LS v2 ma g lg n ea (some (.int ((k : Nat) : Int))) x9 (some (.int rev0)) (some (.tup [.int ((way : Nat) : Int), .ref d]))) h = .ok false h' ∧ Tn ns ma B g lg c r kn b t ea kvs h' S EL ∧ ∀ l xs, h.get l = some (.lst xs) → h'.get l = some (.lst xs) := by
  obtain ⟨h', q, x, w⟩ := outdated_ok m T.R (by omega)
  have T' := T.grow w x
  refine ⟨h', ?_, T', fun l xs e => x.get T.R.wf e id⟩
  unfold C5
  refine ne_int (attr1 (g := g) rfl T.R.hg rfl q) ?_
  unfold eIf
  rw [eq_int (ix0 (v := .ref d) (u := .int ((way : Nat) : Int)) rfl) (con_ok (x := .int 1)), wayD]
  by_cases e : way = 1
  · rw [if_pos e] at ho
    simp [e, Res.bind, ho, eCon]
  · rw [if_neg e] at ho
    have q2 := len_g m (Lc0 := LS v2 ma g lg n ea (some (.int ((k : Nat) : Int))) x9 (some (.int rev0)) (some (.tup [.int ((way : Nat) : Int), .ref d]))) (i := 3) T'.R rfl hl
    rw [ho]
    simp only [e, decide_false, Res.bind]
    exact q2
theorem c6_ok (m : Nat) (T : Tn ns ma B g lg c r kn b t ea kvs h S1 EL) (hL : EL.length = n) (X : TO n k (esL EL) S S1 way due K1) (n1 : 1 ≤ n) (hlog : S.log = []) (hd : h.get d = some (.lst (natA due))) (d1 : d ≠ t) (d2 : d ≠ lg) :
    ∃ h' kvs' S2, C6 (Q (m + 32)) (LS v2 ma g lg n ea (some (.int ((k : Nat) : Int))) x9 (some (.int rev0)) (some (.tup [.int ((way : Nat) : Int), .ref d]))) h = .ok false h' ∧ Tn ns ma B g lg c r kn b t ea kvs' h' S2 EL ∧ After n (esL EL) (VF (esL EL)) (pvF (esL EL)) S1 (n - 1) S2 (outK (VF (esL EL)) (pvF (esL EL)) S1.rev (n - 1) K1) due ∧ S2.log.length ≤ 6 := by
  obtain ⟨S2, e, Af, o0, lg2, l6⟩ := X.top n1 hlog
  obtain ⟨_, h2, kvs2, q, T2, kp⟩ := T.call (n := m) e
  have few := Af.cs.few
  obtain ⟨h3, q3, x3, w3⟩ := outdated_ok (m + 31) T2.R (by omega)
  have T3 := T2.grow w3 x3
  have hv : ((VF (esL EL) (n - 1) : Nat) : Int) = 10 + ((EL.sum : Nat) : Int) := by
    have := VF_sum EL (n - 1) (by omega)
    rw [List.take_of_length_le (by omega)] at this
    omega
  rw [hv] at q
  rw [o0] at q3
  refine ⟨h3, kvs2, S2, ?_, T3, Af, by rw [lg2]; unfold natA; rw [List.length_map]; exact l6⟩
  unfold C6
  refine or_ff (h1 := h2) (ne_int (h1 := h2) ((meth1 (g := g) (tb := tb_call) (i := 9) (mo := eLoc 3) (Φ := Q (m + 32)) (x := .str (nmN (n - 1))) rfl T.R.hg rfl rfl rfl).trans q) (add_int con_ok (sum_ok T2.he rfl))) (or_ff (h1 := h2) (ne_lst (l1 := lg) (l2 := d) (xs := due.map fun e => ((e : Nat) : Int)) rfl (ix1 rfl) ?_ ?_ ?_) (ne_int (attr1 (g := g) rfl T2.R.hg rfl q3) rfl))
  · have := T2.R.hl
    rw [lg2, natA_int] at this
    exact this
  · have := kp _ _ hd d1 d2
    rw [natA_int] at this
    exact this
  · rw [List.length_map]; omega
theorem c7_ok (m : Nat) (T : Tn ns ma B g lg c r kn b t ea kvs h S2 EL) (hk : k < n) (X : TO n k (esL EL) S S1 way due K1) (Af : After n (esL EL) (VF (esL EL)) (pvF (esL EL)) S1 (n - 1) S2 (outK (VF (esL EL)) (pvF (esL EL)) S1.rev (n - 1) K1) due) :
    C7 (Q (m + 4)) (LS v2 ma g lg n ea (some (.int ((k : Nat) : Int))) x9 (some (.int rev0)) (some (.tup [.int ((way : Nat) : Int), .ref d]))) h = .ok false h := by
  have n6 := X.cs.n6
  have ew := eq_int (ix0 (i := 11) (L0 := LS v2 ma g lg n ea (some (.int ((k : Nat) : Int))) x9 (some (.int rev0)) (some (.tup [.int ((way : Nat) : Int), .ref d]))) (h := h) (v := .ref d) (u := .int ((way : Nat) : Int)) rfl) (con_ok (x := .int 1))
  rw [wayD] at ew
  unfold C7
  by_cases e : way = 1
  · rw [decide_eq_true e] at ew
    refine and_t ew ?_
    have el := lt_int (a := eLoc 6) (b := Zk.e2 oSub (eLoc 5) (eCon (.int 1))) (L0 := LS v2 ma g lg n ea (some (.int ((k : Nat) : Int))) x9 (some (.int rev0)) (some (.tup [.int ((way : Nat) : Int), .ref d]))) (h := h) (i := ((k : Nat) : Int)) (j := ((n : Nat) : Int) - 1) rfl (sub_int rfl rfl)
    by_cases e2 : k < n - 1
    · have : ((k : Nat) : Int) < ((n : Nat) : Int) - 1 := by omega
      rw [decide_eq_true this] at el
      refine and_t el ?_
      obtain ⟨m1, m2⟩ := X.miss Af e e2
      have few := Af.cs.few
      have q2 := len_g (m + 3) (Lc0 := LS v2 ma g lg n ea (some (.int ((k : Nat) : Int))) x9 (some (.int rev0)) (some (.tup [.int ((way : Nat) : Int), .ref d]))) (i := 3) T.R rfl (by omega)
      have h1r : (findK S2.rules (.inr (nmN k))).isSome = true := by rw [Af.cs.rule k hk]; rfl
      have q3 := uses_ok m T.R (rn := nmN k) (ps := []) h1r rfl (by decide) (tx_ok k (by omega))
      rw [m2] at q3
      refine or_ff (h1 := h) (ne_int q2 ?_) ?_
      · have : ((S2.known.length : Nat) : Int) = ((n : Nat) : Int) - 1 := by omega
        rw [this]
        exact sub_int rfl rfl
      · have := (meth1 (g := g) (tb := tb_uses) (i := 32) (mo := eLoc 3) (Φ := Q (m + 4)) rfl T.R.hg rfl (lnk (LS v2 ma g lg n ea (some (.int ((k : Nat) : Int))) x9 (some (.int rev0)) (some (.tup [.int ((way : Nat) : Int), .ref d]))) h (i := 6) (k := k) (by omega) rfl) rfl).trans q3
        unfold tB2 isB
        rw [show ∀ (a b : ME), Zk.e2 (oIs true) a b (LS v2 ma g lg n ea (some (.int ((k : Nat) : Int))) x9 (some (.int rev0)) (some (.tup [.int ((way : Nat) : Int), .ref d]))) h = (a (LS v2 ma g lg n ea (some (.int ((k : Nat) : Int))) x9 (some (.int rev0)) (some (.tup [.int ((way : Nat) : Int), .ref d]))) h).bind fun x h1 => (b (LS v2 ma g lg n ea (some (.int ((k : Nat) : Int))) x9 (some (.int rev0)) (some (.tup [.int ((way : Nat) : Int), .ref d]))) h1).bind fun y h2 => oIs true x y h2 from fun _ _ => rfl, this]
        rfl
    · have : ¬ ((k : Nat) : Int) < ((n : Nat) : Int) - 1 := by omega
      rw [decide_eq_false this] at el
      exact and_f el
  · rw [decide_eq_false e] at ew
    exact and_f ew
theorem c8_ok (m : Nat) (T : Tn ns ma B g lg c r kn b t ea kvs h S2 EL) (hL : EL.length = n) (hk : k < n) (X : TO n k (esL EL) S S1 way due K1) (n1 : 1 ≤ n) (Af : After n (esL EL) (VF (esL EL)) (pvF (esL EL)) S1 (n - 1) S2 (outK (VF (esL EL)) (pvF (esL EL)) S1.rev (n - 1) K1) due) (hl2 : S2.log.length ≤ 6) :
    ∃ h' kvs' S3 K3, C8 (Q (m + 32)) (LS v2 ma g lg n ea (some (.int ((k : Nat) : Int))) x9 (some (.int rev0)) (some (.tup [.int ((way : Nat) : Int), .ref d]))) h = .ok false h' ∧ Tn ns ma B g lg c r kn b t ea kvs' h' S3 EL ∧ Full n (esL EL) S3 K3 ∧ S3.rules = S2.rules ∧ S3.cells = S2.cells := by
  have n6 := X.cs.n6
  have ew := eq_int (ix0 (i := 11) (L0 := LS v2 ma g lg n ea (some (.int ((k : Nat) : Int))) x9 (some (.int rev0)) (some (.tup [.int ((way : Nat) : Int), .ref d]))) (h := h) (v := .ref d) (u := .int ((way : Nat) : Int)) rfl) (con_ok (x := .int 1))
  rw [wayD] at ew
  unfold C8
  by_cases e : way = 1
  · rw [decide_eq_true e] at ew
    obtain ⟨S3, K3, e3, F3, r3, c3⟩ := X.again n1 Af e hk hl2
    obtain ⟨_, h2, kvs2, q, T2, kp⟩ := T.call (n := m) e3
    have T3 := T2.new (.lst (natA (EL.take (k + 1))))
    refine ⟨h2.new (.lst (natA (EL.take (k + 1)))), kvs2, S3, K3, and_t ew ?_, T3, F3, r3, c3⟩
    have hv : ((VF (esL EL) k : Nat) : Int) = 10 + (((EL.take (k + 1)).sum : Nat) : Int) := by
      have := VF_sum EL k (by omega)
      omega
    rw [hv] at q
    refine ne_int (h1 := h2) ((meth1 (g := g) (tb := tb_call) (i := 9) (mo := eLoc 3) (Φ := Q (m + 32)) rfl T.R.hg rfl (lnk (LS v2 ma g lg n ea (some (.int ((k : Nat) : Int))) x9 (some (.int rev0)) (some (.tup [.int ((way : Nat) : Int), .ref d]))) h (i := 6) (k := k) (by omega) rfl) rfl).trans q) (add_int con_ok ?_)
    have he := T2.he
    have tk := take_nat (EL := EL) (k := k) (by omega)
    have hsl : eSl (eLoc 7) oNo (oSome (Zk.e2 oAdd (eLoc 6) (eCon (.int 1)))) (LS v2 ma g lg n ea (some (.int ((k : Nat) : Int))) x9 (some (.int rev0)) (some (.tup [.int ((way : Nat) : Int), .ref d]))) h2 = .ok (.ref h2.n) (h2.new (.lst (natA (EL.take (k + 1))))) := by
      simp only [eSl, eLoc, List.getElem?_cons_succ, List.getElem?_cons_zero, Res.bind, oNo, oSome, Zk.e2, eCon, oAdd, orE, oAddI, iOp, oCut, seqOf, he, tk]
    have hnew : (h2.new (.lst (natA (EL.take (k + 1))))).get h2.n = some (.lst (natA (EL.take (k + 1)))) := nwS _ _
    simp only [eCB, aCons, aNil, hsl, Res.bind, Zk.g1, sumA, seqOf, hnew, ints_nat, sum_cast]
  · rw [decide_eq_false e] at ew
    exact ⟨h, kvs, S2, _, and_f ew, T, X.full n1 Af (.inl e) hk, rfl, rfl⟩
end
end K95
end
section
set_option Elab.async false
set_option linter.all false
set_option maxRecDepth 100000
set_option maxHeartbeats 0
namespace K95
open PySem PySem.Spec PyProof.Rows Zk
open L2 (Key)
section
variable {ns : List Int} {ma B g lg c r b t ea n i : Nat} {h : Hq}
theorem body_ok (m : Nat) (I : LI ns ma B g lg c r b t ea n i h) (hi : i < 4) (hns : ns.length ≤ 63) (hB : B < 3000000000) (v2 : A) (x6 x10 x11 : Option A) :
    ∃ h' y6 y10 y11, BT (Q (m + 32)) (LS v2 ma g lg n ea x6 (some (.int ((i : Nat) : Int))) x10 x11) h = .ok .nx (LS v2 ma g lg n ea y6 (some (.int ((i : Nat) : Int))) y10 y11) h' ∧ LI ns ma (B + 3) g lg c r b t ea n (i + 1) h' := by
  obtain ⟨kn, kvs, S, K, EL, T, F, hL, hr, hc, ha⟩ := I.ex
  have n1 := F.n1
  have n6 := F.cs.n6
  obtain ⟨h1, v, q1, a1, a2, T1⟩ := T.next hns (by omega) (m + 31) (total := ((n : Nat) : Int)) (by omega) (by omega)
  obtain ⟨k, rfl⟩ : ∃ k : Nat, v = ((k : Nat) : Int) := ⟨v.toNat, by omega⟩
  have hk : k < n := by omega
  have q1 : Q (m + 32) (.fn 28) [.ref ma, .int ((n : Nat) : Int)] [] h = .ok (.int ((k : Nat) : Int)) h1 := q1
  have q2 : Q (m + 32) (.fn 25) [.ref g] [] h1 = .ok (.int S.rev) h1 := revision_ok (m + 31) T1.R
  have s1 : (sPar [6, 10] (aCons (eCallF (Q (m + 32)) (.fn 28) (kOf (aCons (eLoc 1) (aCons (eLoc 5) aNil)))) (aCons (eAttr (Q (m + 32)) at_revision 30 (eLoc 3)) aNil))) (LS v2 ma g lg n ea x6 (some (.int ((i : Nat) : Int))) x10 x11) h = .ok .nx (LS v2 ma g lg n ea (some (.int ((k : Nat) : Int))) (some (.int ((i : Nat) : Int))) (some (.int S.rev)) x11) h1 := by
    have e2 := attr1 (L0 := LS v2 ma g lg n ea x6 (some (.int ((i : Nat) : Int))) x10 x11) (mo := eLoc 3) (at_ := at_revision) (i := 30) (g := g) rfl T1.R.hg rfl q2
    have e1 : eCallF (Q (m + 32)) (.fn 28) (kOf (aCons (eLoc 1) (aCons (eLoc 5) aNil))) (LS v2 ma g lg n ea x6 (some (.int ((i : Nat) : Int))) x10 x11) h = .ok (.int ((k : Nat) : Int)) h1 := by
      simp only [eCallF, kOf, aCons, eLoc, List.getElem?_cons_succ, List.getElem?_cons_zero, Res.bind, aNil, q1]
    simp only [sPar, aCons, e1, e2, Res.bind, aNil, RS.ofA]
    rfl
  have T2 := T1.clear
  have F2 := F.log []
  have s2 : (sExp (eBM .lst gClear (eLoc 4) aNil)) (LS v2 ma g lg n ea (some (.int ((k : Nat) : Int))) (some (.int ((i : Nat) : Int))) (some (.int S.rev)) x11) h1 = .ok .nx (LS v2 ma g lg n ea (some (.int ((k : Nat) : Int))) (some (.int ((i : Nat) : Int))) (some (.int S.rev)) x11) (h1.upd lg (.lst [])) := by
    have hl := T1.R.hl
    simp only [sExp, eBM, eLoc, List.getElem?_cons_succ, List.getElem?_cons_zero, Res.bind, tyA, hl, aNil, gClear, RS.ofE]
    rfl
  obtain ⟨way, due, L', h3, kn', kvs', S1, K1, d, q3, T3, X, hL', hd, d1, d2, hcells, hrules⟩ := (turn_ok (n0 := m + 27) T2 F2 hL hk hi hns (by omega) (show S.rules.length < 1000 by omega) (ha i hi (Nat.le_refl i)) (show S.cells.length < 1000 by omega)).ex
  have q3 : Q (m + 32) (.fn 30) [.ref ma, .ref g, .ref lg, .ref ea, .int ((k : Nat) : Int), .int ((i : Nat) : Int)] [] (h1.upd lg (.lst [])) = .ok (.tup [.int ((way : Nat) : Int), .ref d]) h3 := q3
  have s3 : (sAsg (gNm 11) (eCallF (Q (m + 32)) (.fn 30) (kOf (aCons (eLoc 1) (aCons (eLoc 3) (aCons (eLoc 4) (aCons (eLoc 7) (aCons (eLoc 6) (aCons (eLoc 9) aNil))))))))) (LS v2 ma g lg n ea (some (.int ((k : Nat) : Int))) (some (.int ((i : Nat) : Int))) (some (.int S.rev)) x11) (h1.upd lg (.lst [])) = .ok .nx (LS v2 ma g lg n ea (some (.int ((k : Nat) : Int))) (some (.int ((i : Nat) : Int))) (some (.int S.rev)) (some (.tup [.int ((way : Nat) : Int), .ref d]))) h3 := by
    simp only [sAsg, eCallF, kOf, aCons, eLoc, List.getElem?_cons_succ, List.getElem?_cons_zero, Res.bind, aNil, q3, RS.ofE, gNm]
    rfl
  have few := X.cs.few
  have hrev := X.rev
  have s4 := c4_ok (m + 31) (ma := ma) (v2 := v2) (n := n) (ea := ea) (k := k) (x9 := some (.int ((i : Nat) : Int))) (d := d) (way := way) (rev0 := S.rev) T3.R hrev
  obtain ⟨h5, s5, T5, k5⟩ := c5_ok (m + 31) (v2 := v2) (n := n) (k := k) (x9 := some (.int ((i : Nat) : Int))) (d := d) (way := way) (rev0 := S.rev) T3 (by omega) X.out
  obtain ⟨h6, kvs6, S2, s6, T6, Af, l6⟩ := c6_ok m (v2 := v2) (x9 := some (.int ((i : Nat) : Int))) (rev0 := S.rev) T5 hL' X n1 rfl (k5 _ _ hd) d1 d2
  have s7 := c7_ok (m + 28) (v2 := v2) (x9 := some (.int ((i : Nat) : Int))) (rev0 := S.rev) (d := d) T6 hk X Af
  obtain ⟨h8, kvs8, S3, K3, s8, T8, F8, r8, c8⟩ := c8_ok m (v2 := v2) (x9 := some (.int ((i : Nat) : Int))) (rev0 := S.rev) (d := d) T6 hL' hk X n1 Af l6
  refine ⟨h8, some (.int ((k : Nat) : Int)), some (.int S.rev), some (.tup [.int ((way : Nat) : Int), .ref d]), ?_, ⟨kn', kvs8, S3, K3, L', T8, F8, hL', ?_, ?_, ?_⟩⟩
  · unfold BT
    rw [sq s1, sq s2, sq s3, sq (if_f s4), sq (if_f s5), sq (if_f s6), sq (if_f s7), sq (if_f s8)]
    rfl
  · rw [r8, Af.rules]
    have hrules : S1.rules.length ≤ S.rules.length + 1 := hrules
    omega
  · rw [c8, Af.cells]
    rcases hcells with e | e
    · rw [e]; show S.cells.length ≤ _; omega
    · rw [e, List.length_append]; show S.cells.length + 1 ≤ _; omega
  · intro j hj hij
    rw [c8, Af.cells]
    rcases hcells with e | e
    · rw [e]; exact ha j hj (by omega)
    · rw [e]
      have := app_find (l := S.cells) (k := .inr (ceN i)) (k' := .inr (ceN j)) (v := (.int 0 : A)) (ha i hi (Nat.le_refl i))
      rw [if_neg (fun z => by have := ce_inj j hj i hi (Sum.inr.inj z); omega)] at this
      rw [show findK ((({ S with log := [] } : St Rl)).cells ++ [(.inr (ceN i), .int 0)]) (.inr (ceN j)) = _ from this]
      exact ha j hj (by omega)
/-- the four turns -/
theorem turns_ok (m : Nat) (I : LI ns ma B g lg c r b t ea n 0 h) (hns : ns.length ≤ 63) (hB : B < 2000000000) (v2 : A) (x6 x9 x10 x11 : Option A) :
    ∃ h' y6 y9 y10 y11, (sFor (iRg1 (eCon (.int 4))) (gNm 9) (BT (Q (m + 32))) FL) (LS v2 ma g lg n ea x6 x9 x10 x11) h = .ok .nx (LS v2 ma g lg n ea y6 y9 y10 y11) h' ∧ LI ns ma (B + 12) g lg c r b t ea n 4 h' := by
  have hr : (iRg1 (eCon (.int 4))) (LS v2 ma g lg n ea x6 x9 x10 x11) h = .ok (rgP 0 4) h := rfl
  unfold sFor
  rw [hr]
  obtain ⟨L', h', e, y6, y9, y10, y11, rfl, I'⟩ := forL_list (xs := natA (List.range 4)) (f := fun _ a => a) (p := rgP 0 4) (g := gNm 9) (body := BT (Q (m + 32)))
    (fun i L h => ∃ y6 y9 y10 y11, L = LS v2 ma g lg n ea y6 y9 y10 y11 ∧ LI ns ma (B + 3 * i) g lg c r b t ea n i h)
    (fun i h => by
      unfold rgP natA
      by_cases hi : i < 4
      · simp [hi]
      · simp [hi, Nat.le_of_not_lt hi])
    (fun i a L h ea2 P => by
      obtain ⟨y6, y9, y10, y11, rfl, I⟩ := P
      have hi : i < 4 := by
        have := (List.getElem?_eq_some_iff.mp ea2).1
        simpa [natA] using this
      have ea3 : a = .int ((i : Nat) : Int) := by
        simp [natA, hi] at ea2
        exact ea2.symm
      subst ea3
      obtain ⟨h', z6, z10, z11, q, I'⟩ := body_ok m I hi hns (by omega) v2 y6 y10 y11
      exact ⟨_, _, h, _, h', rfl, q, z6, some (.int ((i : Nat) : Int)), z10, z11, rfl, I'⟩)
    4 FL 0 (LS v2 ma g lg n ea x6 x9 x10 x11) h (by simp [natA]) (by unfold FL; omega) ⟨x6, x9, x10, x11, rfl, I⟩ (Nat.zero_le _)
  refine ⟨h', y6, y9, y10, y11, e, ?_⟩
  simpa [natA] using I'
end
end K95
end
section
set_option Elab.async false
set_option linter.all false
set_option maxRecDepth 100000
set_option maxHeartbeats 0
namespace K95
open PySem PySem.Spec PyProof.Rows Zk
open L2 (Key)
theorem lnkE (Lc0 : Lc) (h : Hq) {e0 : ME} {k : Nat} (hk : k < 6) (hL : e0 Lc0 h = .ok (.int ((k : Nat) : Int)) h) : Zk.e2 oAdd (eCon (.str "link")) (eCB (Zk.g1 strA) (aCons e0 aNil)) Lc0 h = .ok (.str (nmN k)) h := by
  obtain ⟨a, b⟩ := lk_str0 k hk
  have b' : ("link" : Str).length + ((((k : Nat) : Int).repr : String) : Str).length ≤ 16777216 := b
  have e : ("link" : Str) ++ ((((k : Nat) : Int).repr : String) : Str) = nmN k := rfl
  simp only [Zk.e2, eCon, Res.bind, eCB, aCons, aNil, hL, Zk.g1, strA]
  have a' : k.log2 < 1920 := by simpa using a
  simp [a', oAdd, orE, oAddI, iOp, oAddS, SZ, b', e]
abbrev LO (v2 : A) (ma : Nat) (x3 x4 x5 x6 x7 x8 x9 x10 x11 : Option A) : Lc := [some (.ref 0), some (.ref ma), some v2, x3, x4, x5, x6, x7, x8, x9, x10, x11]
section
variable {ns : List Int} {ma B g lg c r kn b t ea n : Nat} {kvs : List (Key × A)} {h : Hq} {S : St Rl} {EL : List Nat}
/-- the group and the length -/
theorem o1_ok (m : Nat) (w : Wf h) (M : MAt ns ma B h) (m0 : ma ≠ 0) (hns : ns.length ≤ 63) (hB : B < 3000000000) (v2 : A) (x3 x4 x5 x6 x7 x8 x9 x10 x11 : Option A) :
    ∃ h' n g lg c r kn b t, (sPar [3, 4, 5] (aCons (eMake (Q (m + 32)) 3 8 (kOf aNil)) (aCons (eLst aNil) (aCons (Zk.e2 oAdd (eCon (.int 1)) (eCallF (Q (m + 32)) (.fn 28) (kOf (aCons (eLoc 1) (aCons (eCon (.int 6)) aNil))))) aNil)))) (LO v2 ma x3 x4 x5 x6 x7 x8 x9 x10 x11) h = .ok .nx (LO v2 ma (some (.ref g)) (some (.ref lg)) (some (.int ((n : Nat) : Int))) x6 x7 x8 x9 x10 x11) h' ∧
      1 ≤ n ∧ n ≤ 6 ∧ Tn ns ma (B + 1) g lg c r kn b t h'.n [] (h'.new (.lst [])) S0 [] := by
  obtain ⟨h1, q1, x1, w1, hn, e0, e1, e2, e3, e4, e5⟩ := ginit_ok (m + 31) w
  have q1 : Q (m + 32) (.fn 8) [.ref h.n] [] (h.new (.ins 3 [])) = .ok .non h1 := q1
  have R1 : Rx (relK (h.n + 6)) h.n (h.n + 6) (h.n + 1) (h.n + 2) (h.n + 3) (h.n + 4) (h.n + 5) [] (h1.new (.lst [])) (S0 : St Rl) := rx_new w x1 w1 hn e0 e1 e2 e3 e4 e5
  obtain ⟨a0, l0, em0, _⟩ := M.ex
  have lma := w _ _ em0
  have M1 : MAt ns ma B (h1.new (.lst [])) := M.ext w (x1.trans (Ext.new (W := fun _ => False) _) fun _ _ z => z) id id
  obtain ⟨h3, v, q3, p1, p2, x3', w3, M3⟩ := next_ok (m + 31) R1.wf M1 hns (by omega) m0 (total := 6) (by decide) (by decide)
  have q3 : Q (m + 32) (.fn 28) [.ref ma, .int 6] [] (h1.new (.lst [])) = .ok (.int v) h3 := q3
  obtain ⟨j, rfl⟩ : ∃ j : Nat, v = ((j : Nat) : Int) := ⟨v.toNat, by omega⟩
  obtain ⟨a1, l1, em1, _⟩ := M1.ex
  have now : ¬ Ow h.n (h.n + 6) (h.n + 3) (h.n + 5) [] ma := by
    rintro (z | z | z | z | z)
    · omega
    · omega
    · omega
    · omega
    · simp at z
  have R3 := R1.oth (relK_ok (h.n + 6)) w3 x3' em1 (fun v z => nomatch z) now (by omega) (by omega) (by omega)
  have hn3 : h.n + 7 ≤ h3.n := by
    have := x3'.le
    have z : (h1.new (.lst [])).n = h1.n + 1 := rfl
    omega
  have R4 := R3.new (relK_ok (h.n + 6)) (.lst [])
  refine ⟨h3, j + 1, h.n, h.n + 6, h.n + 1, h.n + 2, h.n + 3, h.n + 4, h.n + 5, ?_, by omega, by omega, ⟨R4, M3.ext w3 (Ext.new (W := fun _ => False) _) id id, m0, by omega, by omega, by omega, nwS _ _, by omega, by omega, by omega⟩⟩
  have em : eMake (Q (m + 32)) 3 8 (kOf aNil) (LO v2 ma x3 x4 x5 x6 x7 x8 x9 x10 x11) h = .ok (.ref h.n) h1 := by
    simp only [eMake, kOf, aNil, Res.bind, makeA, q1]
  have eq3 : eCallF (Q (m + 32)) (.fn 28) (kOf (aCons (eLoc 1) (aCons (eCon (.int 6)) aNil))) (LO v2 ma x3 x4 x5 x6 x7 x8 x9 x10 x11) (h1.new (.lst [])) = .ok (.int ((j : Nat) : Int)) h3 := by
    simp only [eCallF, kOf, aCons, eLoc, List.getElem?_cons_succ, List.getElem?_cons_zero, Res.bind, eCon, aNil, q3]
  have ea := add_int (a := eCon (.int 1)) (h := h1.new (.lst [])) (h1 := h1.new (.lst [])) (L0 := LO v2 ma x3 x4 x5 x6 x7 x8 x9 x10 x11) (i := 1) rfl eq3
  have z : (1 : Int) + ((j : Nat) : Int) = ((j + 1 : Nat) : Int) := by omega
  rw [z] at ea
  have el : eLst aNil (LO v2 ma x3 x4 x5 x6 x7 x8 x9 x10 x11) h1 = .ok (.ref (h.n + 6)) (h1.new (.lst [])) := by
    rw [← hn]; rfl
  simp only [sPar, aCons, em, Res.bind, el, ea, aNil, RS.ofA]
  rfl
/-- the extras drawn -/
theorem ext_ok (m : Nat) (hns : ns.length ≤ 63) (hn : n ≤ 6) (L0 : Lc) (h1 : L0[1]? = some (some (.ref ma))) (hl : 6 < L0.length) : ∀ (k i B fuel : Nat) (h : Hq) (EL : List Nat), B + k < 3000000000 → n - i = k → i ≤ n → k < fuel → EL.length = i → (∀ x ∈ EL, x ≤ 4) → Tn ns ma B g lg c r kn b t ea kvs h S EL →
    ∃ h' EL', lcL (rgP 0 n) (gNm 6) tT (eCallF (Q (m + 32)) (.fn 28) (kOf (aCons (eLoc 1) (aCons (eCon (.int 5)) aNil)))) L0 ea fuel i h = .ok () h' ∧ Tn ns ma (B + k) g lg c r kn b t ea kvs h' S EL' ∧ EL'.length = n ∧ ∀ x ∈ EL', x ≤ 4
  | 0, i, B, fuel, h, EL, hB, ek, hi, hf, el, e4, T => by
    obtain ⟨f, rfl⟩ : ∃ f, fuel = f + 1 := ⟨fuel - 1, by omega⟩
    have : ¬ i < n := by omega
    exact ⟨h, EL, by simp [lcL, rgP, this], T, by omega, e4⟩
  | k + 1, i, B, fuel, h, EL, hB, ek, hi, hf, el, e4, T => by
    obtain ⟨f, rfl⟩ : ∃ f, fuel = f + 1 := ⟨fuel - 1, by omega⟩
    have hin : i < n := by omega
    obtain ⟨h2, v, q, p1, p2, T2⟩ := T.next hns (by omega) (m + 31) (total := 5) (by decide) (by decide)
    have q : Q (m + 32) (.fn 28) [.ref ma, .int 5] [] h = .ok (.int v) h2 := q
    obtain ⟨e, rfl⟩ : ∃ e : Nat, v = ((e : Nat) : Int) := ⟨v.toNat, by omega⟩
    have T3 := T2.setE (EL ++ [e])
    obtain ⟨h', EL', q', T', l', e'⟩ := ext_ok m hns hn L0 h1 hl k (i + 1) (B + 1) f _ (EL ++ [e]) (by omega) (by omega) (by omega) (by omega) (by simp [el]) (fun x hx => by
      rcases List.mem_append.mp hx with hx | hx
      · exact e4 x hx
      · simp at hx; omega) T3
    refine ⟨h', EL', ?_, ?_, l', e'⟩
    · rw [← q']
      have he := T2.he
      have h1' : (L0.set 6 (some (.int ((0 : Int) + ((i : Nat) : Int)))))[1]? = some (some (.ref ma)) := by rw [List.getElem?_set_ne (by decide)]; exact h1
      have sz : (natA EL).length < SZ := by unfold natA SZ; rw [List.length_map]; omega
      have ap : natA EL ++ [.int ((e : Nat) : Int)] = natA (EL ++ [e]) := by simp [natA]
      have eqq : eCallF (Q (m + 32)) (.fn 28) (kOf (aCons (eLoc 1) (aCons (eCon (.int 5)) aNil))) (L0.set 6 (some (.int ((0 : Int) + ((i : Nat) : Int))))) h = .ok (.int ((e : Nat) : Int)) h2 := by
        simp only [eCallF, kOf, aCons, eLoc, h1', Res.bind, eCon, aNil, q]
      simp only [lcL, rgP, if_pos hin, gNm, tT, eqq, he, if_pos sz, ap]
    · have : B + (k + 1) = B + 1 + k := by omega
      rw [this]; exact T'
end
end K95
end
section
set_option Elab.async false
set_option linter.all false
set_option maxRecDepth 100000
set_option maxHeartbeats 0
namespace K95
open PySem PySem.Spec PyProof.Rows Zk
open L2 (Key)
/-- the state while the links are made -/
structure Pre (EL : List Nat) (i : Nat) (S : St Rl) : Prop where
  cells : S.cells = [(.inr "base", .int 10)]
  known : S.known = []
  busy : S.busy = []
  tally : S.tally = [0, 0, 0, 0]
  log : S.log = []
  rules : ∀ j < i, findK S.rules (.inr (nmN j)) = some (some (esL EL j, j))
  few : S.rules.length ≤ i
theorem base_ok : nameOk "base" = true := by decide +kernel
theorem base_ne : ∀ j < 4, ("base" : Str) ≠ ceN j := by decide +kernel
section
variable {ns : List Int} {ma B g lg c r kn b t ea n i : Nat} {kvs : List (Key × A)} {h : Hq} {S : St Rl} {EL : List Nat}
theorem meth2 {L0 : Lc} {Φ : Dn} {tb : Nat → Option Nat} {i j g : Nat} {mo ma mb : ME} {fs : List (Nat × A)} {x y : A} (e1 : mo L0 h = .ok (.ref g) h) (e2 : h.get g = some (.ins 3 fs)) (e3 : tb 3 = some j) (e4 : ma L0 h = .ok x h) (e4' : mb L0 h = .ok y h) (e5 : fs.lookup i = none) : eMeth Φ tb i mo (kOf (aCons ma (aCons mb aNil))) L0 h = Φ (.fn j) [.ref g, x, y] [] h := by
  simp only [eMeth, e1, Res.bind, kOf, aCons, e4, e4', aNil, methA, e2, e3, e5]
theorem base_put (m : Nat) (T : Tn ns ma B g lg c r kn b t ea kvs h S0 EL) (L0 : Lc) (e3 : ∀ h, eLoc 3 L0 h = .ok (.ref g) h) :
    ∃ h' S', (sExp (eMeth (Q (m + 32)) tb_put 29 (eLoc 3) (kOf (aCons (eCon (.str "base")) (aCons (eCon (.int 10)) aNil))))) L0 h = .ok .nx L0 h' ∧ Tn ns ma B g lg c r kn b t ea kvs h' S' EL ∧ Pre EL 0 S' := by
  obtain ⟨h', q, T', _⟩ := T.put (m + 29) rfl base_ok (v := .int 10) rfl rfl (by simp [S0])
  have q : Q (m + 32) (.fn 10) [.ref g, .str "base", .int 10] [] h = .ok (.bl true) h' := q
  refine ⟨h', _, ?_, T', ⟨rfl, rfl, rfl, rfl, rfl, fun j hj => absurd hj (Nat.not_lt_zero _), Nat.le_refl _⟩⟩
  have := (meth2 (g := g) (tb := tb_put) (i := 29) (mo := eLoc 3) (Φ := Q (m + 32)) (L0 := L0) (e3 h) T.R.hg rfl (con_ok (x := .str "base")) (con_ok (x := .int 10)) rfl).trans q
  unfold sExp
  rw [this]
  rfl
theorem sFor_eq {m : MI} {g : MG} {body : MS} {fuel : Nat} {L : Lc} {h h1 : Hq} {p : PItr} (e : m L h = .ok p h1) : sFor m g body fuel L h = forL p g body fuel 0 L h1 := by
  unfold sFor; rw [e]
def BL (Φ : Dn) : MS := (sSeq (sExp (eMeth Φ tb_rule 26 (eLoc 3) (kKw aNil [17, 18] (aCons (Zk.e2 oAdd (eCon (.str "link")) (eCB (Zk.g1 strA) (aCons (eLoc 6) aNil))) (aCons (eCallF Φ (.fn 29) (kOf (aCons (eLoc 6) (aCons (Zk.e2 oIx (eLoc 7) (eLoc 6)) (aCons (eLoc 4) aNil))))) aNil)))))
    sNil)
/-- one link's rule -/
theorem link1 (m : Nat) (T : Tn ns ma B g lg c r kn b t ea kvs h S EL) (P : Pre EL i S) (hi : i < n) (hn : n ≤ 6) (hL : EL.length = n) (v2 : A) (x8 x9 x10 x11 : Option A) :
    ∃ h' kn' kvs' S', (sExp (eMeth (Q (m + 32)) tb_rule 26 (eLoc 3) (kKw aNil [17, 18] (aCons (Zk.e2 oAdd (eCon (.str "link")) (eCB (Zk.g1 strA) (aCons (eLoc 6) aNil))) (aCons (eCallF (Q (m + 32)) (.fn 29) (kOf (aCons (eLoc 6) (aCons (Zk.e2 oIx (eLoc 7) (eLoc 6)) (aCons (eLoc 4) aNil))))) aNil))))) (LO v2 ma (some (.ref g)) (some (.ref lg)) (some (.int ((n : Nat) : Int))) (some (.int ((i : Nat) : Int))) (some (.ref ea)) x8 x9 x10 x11) h =
      .ok .nx (LO v2 ma (some (.ref g)) (some (.ref lg)) (some (.int ((n : Nat) : Int))) (some (.int ((i : Nat) : Int))) (some (.ref ea)) x8 x9 x10 x11) h' ∧ Tn ns ma B g lg c r kn' b t ea kvs' h' S' EL ∧ Pre EL (i + 1) S' := by
  have hi6 : i < 6 := by omega
  obtain ⟨h1, q1, r1, x1, w1⟩ := link_ok (m + 31) T.R.wf lg (esL EL i) i hi6
  have T1 := T.grow w1 x1
  obtain ⟨h2, kn', kvs', q2, T2, _⟩ := T1.rule (m + 29) P.busy (nm_ok i hi6) (nm_sh i hi6) r1 (by rw [P.known]; decide) (by have := P.few; omega)
  have q1 : Q (m + 32) (.fn 29) [.int ((i : Nat) : Int), .int ((esL EL i : Nat) : Int), .ref lg] [] h = .ok (.clo 0 [h.n + 1, h.n + 0, h.n + 2]) h1 := q1
  have q2 : Q (m + 32) (.fn 11) [.ref g] [(17, .str (nmN i)), (18, .clo 0 [h.n + 1, h.n + 0, h.n + 2])] h1 = .ok .non h2 := q2
  refine ⟨h2, kn', kvs', _, ?_, T2, ⟨P.cells, ?_, P.busy, P.tally, P.log, ?_, ?_⟩⟩
  · have hat := at_nat (L := EL) (k := i) (by omega)
    have he := T.he
    have el := lnk (LO v2 ma (some (.ref g)) (some (.ref lg)) (some (.int ((n : Nat) : Int))) (some (.int ((i : Nat) : Int))) (some (.ref ea)) x8 x9 x10 x11) h (i := 6) hi6 rfl
    have ex : Zk.e2 oIx (eLoc 7) (eLoc 6) (LO v2 ma (some (.ref g)) (some (.ref lg)) (some (.int ((n : Nat) : Int))) (some (.int ((i : Nat) : Int))) (some (.ref ea)) x8 x9 x10 x11) h = .ok (.int ((esL EL i : Nat) : Int)) h := by
      simp only [Zk.e2, eLoc, List.getElem?_cons_succ, List.getElem?_cons_zero, Res.bind, oIx, orE, oIxS, seqOf, he, hat]
    have ec : eCallF (Q (m + 32)) (.fn 29) (kOf (aCons (eLoc 6) (aCons (Zk.e2 oIx (eLoc 7) (eLoc 6)) (aCons (eLoc 4) aNil)))) (LO v2 ma (some (.ref g)) (some (.ref lg)) (some (.int ((n : Nat) : Int))) (some (.int ((i : Nat) : Int))) (some (.ref ea)) x8 x9 x10 x11) h = .ok (.clo 0 [h.n + 1, h.n + 0, h.n + 2]) h1 := by
      simp only [eCallF, kOf, aCons, ex, eLoc, List.getElem?_cons_succ, List.getElem?_cons_zero, Res.bind, aNil, q1]
    have hg1 := T1.R.hg
    have em : eMeth (Q (m + 32)) tb_rule 26 (eLoc 3) (kKw aNil [17, 18] (aCons (Zk.e2 oAdd (eCon (.str "link")) (eCB (Zk.g1 strA) (aCons (eLoc 6) aNil))) (aCons (eCallF (Q (m + 32)) (.fn 29) (kOf (aCons (eLoc 6) (aCons (Zk.e2 oIx (eLoc 7) (eLoc 6)) (aCons (eLoc 4) aNil))))) aNil))) (LO v2 ma (some (.ref g)) (some (.ref lg)) (some (.int ((n : Nat) : Int))) (some (.int ((i : Nat) : Int))) (some (.ref ea)) x8 x9 x10 x11) h = .ok .non h2 := by
      simp only [eMeth, eLoc, List.getElem?_cons_succ, List.getElem?_cons_zero, Res.bind, methA, T.R.hg, tb_rule, List.lookup, kKw, aCons, el, ec, aNil]
      exact q2
    unfold sExp
    rw [em]
    rfl
  · show S.known.filter _ = []
    rw [P.known]; rfl
  · intro j hj
    show findK (putK S.rules (.inr (nmN i)) (some (esL EL i, i))) (.inr (nmN j)) = _
    rw [putK_find]
    by_cases e : j = i
    · subst e; simp
    · rw [if_neg (fun z => e (nm_inj j (by omega) i hi6 (Sum.inr.inj z)))]
      exact P.rules j (by omega)
  · have := putK_len (l := S.rules) (k := .inr (nmN i)) (v := (some (esL EL i, i) : Rl))
    have hf := P.few
    show (putK S.rules (.inr (nmN i)) (some (esL EL i, i))).length ≤ i + 1
    omega
theorem b62_ok {n : Nat} (hn : n < 1000) : (decide (-B62 ≤ ((n : Nat) : Int)) && decide (((n : Nat) : Int) < B62)) = true := by
  unfold B62
  simp only [Bool.and_eq_true, decide_eq_true_eq]
  omega
theorem rg1_if {j : Int} (hb : (decide (-B62 ≤ j) && decide (j < B62)) = true) : rg1A (.int j) h = .ok (rgP 0 j.toNat) h := by
  unfold rg1A
  simp only [hb, if_true]
theorem rg1_ok {L0 : Lc} {n j : Nat} (hn : n < 1000) (e : eLoc j L0 h = .ok (.int ((n : Nat) : Int)) h) : iRg1 (eLoc j) L0 h = .ok (rgP 0 n) h := by
  have q := rg1_if (h := h) (b62_ok hn)
  rw [Int.toNat_natCast] at q
  simp only [iRg1, e, Res.bind, q]
theorem rgP_nat {n : Nat} (i : Nat) (h : Hq) : rgP 0 n i h = some (((natA (List.range n))[i]?).map fun a => a) := by
  unfold rgP natA
  by_cases hi : i < n
  · simp [hi]
  · simp [hi, Nat.le_of_not_lt hi]
theorem nat_at {n i : Nat} {a : A} (e : (natA (List.range n))[i]? = some a) : i < n ∧ a = .int ((i : Nat) : Int) := by
  have hi : i < n := by
    have := (List.getElem?_eq_some_iff.mp e).1
    simpa [natA] using this
  simp [natA, hi] at e
  exact ⟨hi, e.symm⟩
theorem nat_len {n : Nat} : (natA (List.range n)).length = n := by simp [natA]
end
end K95
end
section
set_option Elab.async false
set_option linter.all false
set_option maxRecDepth 100000
set_option maxHeartbeats 0
namespace K95
open PySem PySem.Spec PyProof.Rows Zk
open L2 (Key)
section
variable {ns : List Int} {ma B g lg c r kn b t ea n i : Nat} {kvs : List (Key × A)} {h : Hq} {S : St Rl} {EL : List Nat}
theorem links_ok (m : Nat) (T : Tn ns ma B g lg c r kn b t ea kvs h S EL) (P : Pre EL 0 S) (hn : n ≤ 6) (hL : EL.length = n) (v2 : A) (x6 x8 x9 x10 x11 : Option A) (fuel : Nat) (hf : n < fuel) :
    ∃ h' y6 kn' kvs' S', (sFor (iRg1 (eLoc 5)) (gNm 6)
    (BL (Q (m + 32))) fuel) (LO v2 ma (some (.ref g)) (some (.ref lg)) (some (.int ((n : Nat) : Int))) x6 (some (.ref ea)) x8 x9 x10 x11) h =
      .ok .nx (LO v2 ma (some (.ref g)) (some (.ref lg)) (some (.int ((n : Nat) : Int))) y6 (some (.ref ea)) x8 x9 x10 x11) h' ∧ Tn ns ma B g lg c r kn' b t ea kvs' h' S' EL ∧ Pre EL n S' := by
  have hr : (iRg1 (eLoc 5)) (LO v2 ma (some (.ref g)) (some (.ref lg)) (some (.int ((n : Nat) : Int))) x6 (some (.ref ea)) x8 x9 x10 x11) h = .ok (rgP 0 n) h := rg1_ok (by omega) rfl
  rw [sFor_eq hr]
  obtain ⟨L', h', e, y6, kn', kvs', S', rfl, T', P'⟩ := forL_list (xs := natA (List.range n)) (f := fun _ a => a) (p := rgP 0 n) (g := gNm 6) (body := (BL (Q (m + 32))))
    (fun i L h => ∃ y6 kn' kvs' S', L = LO v2 ma (some (.ref g)) (some (.ref lg)) (some (.int ((n : Nat) : Int))) y6 (some (.ref ea)) x8 x9 x10 x11 ∧ Tn ns ma B g lg c r kn' b t ea kvs' h S' EL ∧ Pre EL i S')
    (fun i h => rgP_nat i h)
    (fun i a L h ea2 P => by
      obtain ⟨y6, kn', kvs', S', rfl, T, P⟩ := P
      obtain ⟨hi, rfl⟩ := nat_at ea2
      obtain ⟨h2, kn2, kvs2, S2, q, T2, P2⟩ := link1 m T P hi hn hL v2 x8 x9 x10 x11
      refine ⟨_, LO v2 ma (some (.ref g)) (some (.ref lg)) (some (.int ((n : Nat) : Int))) (some (.int ((i : Nat) : Int))) (some (.ref ea)) x8 x9 x10 x11, h, LO v2 ma (some (.ref g)) (some (.ref lg)) (some (.int ((n : Nat) : Int))) (some (.int ((i : Nat) : Int))) (some (.ref ea)) x8 x9 x10 x11, h2, rfl, ?_, some (.int ((i : Nat) : Int)), kn2, kvs2, S2, rfl, T2, P2⟩
      unfold BL; rw [sq q]; rfl)
    n fuel 0 (LO v2 ma (some (.ref g)) (some (.ref lg)) (some (.int ((n : Nat) : Int))) x6 (some (.ref ea)) x8 x9 x10 x11) h (by rw [nat_len]; rfl) hf ⟨x6, kn, kvs, S, rfl, T, P⟩ (Nat.zero_le _)
  refine ⟨h', y6, kn', kvs', S', e, T', ?_⟩
  rw [nat_len] at P'
  exact P'
/-- the state when the links are made -/
theorem Pre.cs (P : Pre EL n S) (hn : n ≤ 6) (h4 : ∀ x ∈ EL, x ≤ 4) : CsF n (esL EL) S (fun _ => none) ∧ ∀ i, esL EL i ≤ 4 := by
  have e4 : ∀ i, esL EL i ≤ 4 := fun i => by
    unfold esL
    rw [List.getD_eq_getElem?_getD]
    cases e : EL[i]? with
    | none => simp
    | some x => exact h4 x (List.mem_of_getElem? e)
  refine ⟨⟨hn, (by rw [P.cells]; rfl), P.rules, (by rw [P.tally]; rfl), fun k _ => (by rw [P.known]; rfl), fun p hp => (by rw [P.known] at hp; simp at hp), (by rw [P.known]; simp), fun k _ p e => (by cases e), rfl, fun _ => rfl, fun k _ => VF_eq _ k, fun i hi => ⟨?_, ?_⟩⟩, e4⟩
  · have := VF_le e4 i; omega
  · have := pvF_le e4 i; omega
theorem logK_new {pv : Nat → Nat} {rev : Int} : ∀ k, logK pv rev k (fun _ => none) = (List.range (k + 1)).reverse
  | 0 => rfl
  | k + 1 => by
    rw [List.range_succ, List.reverse_append]
    show (k + 1) :: logK pv rev k (fun _ => none) = _
    rw [logK_new k]
    rfl
theorem lr_ok {L0 : Lc} {h2 : Hq} {j : Nat} (hn : n < 1000) (e : eLoc j L0 h2 = .ok (.int ((n : Nat) : Int)) h2) : eLr1 (eLoc j) L0 h2 = .ok (.ref h2.n) (h2.new (.lst (natA (List.range n)))) := by
  have hrg := rg_nat (k := 0) (n := n)
  have hro := rg_ok (k := 0) (n := n) (by omega) (by omega)
  have z : (List.range (n - 0)).map (0 + ·) = List.range n := by simp
  rw [z] at hrg
  have z0 : ((0 : Nat) : Int) = 0 := rfl
  rw [z0] at hrg hro
  simp only [eLr1, e, Res.bind, rgN, hro, if_true, hrg]
theorem rev_ok {L0 : Lc} {h h1 : Hq} {e : ME} {l : Nat} {xs : List A} (e1 : e L0 h = .ok (.ref l) h1) (e2 : h1.get l = some (.lst xs)) : eRev e L0 h = .ok (.ref h1.n) (h1.new (.lst xs.reverse)) := by
  unfold eRev
  rw [e1]
  simp only [Res.bind, seqOf, e2]
/-- the first call -/
theorem first_ok (m : Nat) (T : Tn ns ma B g lg c r kn b t ea kvs h S EL) (P : Pre EL n S) (n1 : 1 ≤ n) (hn : n ≤ 6) (hL : EL.length = n) (h4 : ∀ x ∈ EL, x ≤ 4) (v2 : A) (x6 x9 x10 x11 : Option A) :
    ∃ h', (tOr (tB2 (Zk.e2 oNe (eMeth (Q (m + 32)) tb_call 9 (eLoc 3) (kOf (aCons (eLoc 8) aNil))) (Zk.e2 oAdd (eCon (.int 10)) (eCB (Zk.g1 sumA) (aCons (eLoc 7) aNil))))) (tB2 (Zk.e2 oNe (eLoc 4) (eRev (eLr1 (eLoc 5)))))) (LS v2 ma g lg n ea x6 x9 x10 x11) h = .ok false h' ∧ LI ns ma B g lg c r b t ea n 0 h' := by
  obtain ⟨C, e4⟩ := P.cs hn h4
  obtain ⟨S2, e, Af⟩ := chain (n - 1) 6 (by omega) (by omega) C (fun i _ => by rw [P.busy]; simp) (by rw [P.busy]; simp; omega) (by rw [P.log]; simp; omega)
  obtain ⟨_, h2, kvs2, q, T2, kp⟩ := T.call (n := m) e
  have hv : ((VF (esL EL) (n - 1) : Nat) : Int) = 10 + ((EL.sum : Nat) : Int) := by
    have := VF_sum EL (n - 1) (by omega)
    rw [List.take_of_length_le (by omega)] at this
    omega
  rw [hv] at q
  have ha := outK_all (V := VF (esL EL)) (pv := pvF (esL EL)) (rev := S.rev) (n - 1) (fun _ => none) (fun i _ => rfl)
  have hlog : S2.log = natA (List.range n).reverse := by
    rw [Af.log, P.log, logK_new]
    rw [show n - 1 + 1 = n by omega]
    rfl
  have T3 := (T2.new (.lst (natA (List.range n)))).new (.lst (natA (List.range n).reverse))
  refine ⟨(h2.new (.lst (natA (List.range n)))).new (.lst (natA (List.range n).reverse)), ?_, ⟨kn, kvs2, S2, _, EL, T3, ⟨Af.cs, fun k hk => ?_, by rw [Af.busy, P.busy], e4, n1⟩, hL, ?_, ?_, ?_⟩⟩
  · have hlr : eLr1 (eLoc 5) (LS v2 ma g lg n ea x6 x9 x10 x11) h2 = .ok (.ref h2.n) (h2.new (.lst (natA (List.range n)))) := lr_ok (by omega) rfl
    have g2 : (h2.new (.lst (natA (List.range n)))).get h2.n = some (.lst (natA (List.range n))) := nwS _ _
    have zr : (natA (List.range n)).reverse = natA (List.range n).reverse := by unfold natA; rw [List.map_reverse]
    have hrv := rev_ok hlr g2
    rw [zr] at hrv
    refine or_ff (h1 := h2) (ne_int (h1 := h2) ((meth1 (g := g) (tb := tb_call) (i := 9) (mo := eLoc 3) (Φ := Q (m + 32)) (x := .str (nmN (n - 1))) rfl T.R.hg rfl rfl rfl).trans q) (add_int con_ok (sum_ok T2.he rfl))) (ne_lst (l1 := lg) (l2 := (h2.new (.lst (natA (List.range n)))).n) (xs := (List.range n).reverse.map fun e => ((e : Nat) : Int)) rfl hrv ?_ ?_ ?_)
    · have := T3.R.hl
      rw [hlog, natA_int (List.range n).reverse] at this
      rw [natA_int (List.range n).reverse]
      exact this
    · have := nwS (h2.new (.lst (natA (List.range n)))) (.lst (natA (List.range n).reverse))
      rw [natA_int (List.range n).reverse] at this
      rw [natA_int (List.range n).reverse]
      exact this
    · simp; omega
  · rw [Af.rev]; exact ha k (by omega)
  · rw [Af.rules]; have := P.few; omega
  · rw [Af.cells, P.cells]; simp
  · intro j hj _
    rw [Af.cells, P.cells]
    have : ¬ ((.inr "base" : Key) = .inr (ceN j)) := fun z => base_ne j hj (Sum.inr.inj z)
    simp [findK, this]
end
end K95
end
section
set_option Elab.async false
set_option linter.all false
set_option maxRecDepth 100000
set_option maxHeartbeats 0
namespace K95
open PySem PySem.Spec PyProof.Rows Zk
open L2 (Key)
def FT (Φ : Dn) : MT := (tOr (tB2 (Zk.e2 oNe (eMeth Φ tb_call 9 (eLoc 3) (kOf (aCons (eLoc 8) aNil))) (Zk.e2 oAdd (eCon (.int 10)) (eCB (Zk.g1 sumA) (aCons (eLoc 7) aNil))))) (tB2 (Zk.e2 oNe (eLoc 4) (eRev (eLr1 (eLoc 5))))))
def P1 (Φ : Dn) : MS := sPar [3, 4, 5] (aCons (eMake Φ 3 8 (kOf aNil)) (aCons (eLst aNil) (aCons (Zk.e2 oAdd (eCon (.int 1)) (eCallF Φ (.fn 28) (kOf (aCons (eLoc 1) (aCons (eCon (.int 6)) aNil))))) aNil)))
def P2 (Φ : Dn) (fuel : Nat) : MS := sPar [7, 8] (aCons (eLc (iRg1 (eLoc 5)) (gNm 6) tT (eCallF Φ (.fn 28) (kOf (aCons (eLoc 1) (aCons (eCon (.int 5)) aNil)))) [6] fuel) (aCons (Zk.e2 oAdd (eCon (.str "link")) (eCB (Zk.g1 strA) (aCons (Zk.e2 oSub (eLoc 5) (eCon (.int 1))) aNil))) aNil))
def P3 (Φ : Dn) : MS := sExp (eMeth Φ tb_put 29 (eLoc 3) (kOf (aCons (eCon (.str "base")) (aCons (eCon (.int 10)) aNil))))
def OB (Φ : Dn) (fuel : Nat) : MS := sSeq (P1 Φ) (sSeq (P2 Φ fuel) (sSeq (P3 Φ) (sSeq (sFor (iRg1 (eLoc 5)) (gNm 6) (BL Φ) fuel) (sSeq (sIf (FT Φ) (sSeq (sRet (eCon (.bl false)))
    sNil) sNil) (sSeq (sFor (iRg1 (eCon (.int 4))) (gNm 9) (BT Φ) FL) sNil)))))
section
variable {ns : List Int} {ma B g lg c r kn b t ea n : Nat} {kvs : List (Key × A)} {h : Hq} {S : St Rl} {EL : List Nat}
theorem par2 {a b : ME} {i j : Nat} {L0 : Lc} {h h1 h2 : Hq} {u v : A} (ea : a L0 h = .ok u h1) (eb : b L0 h1 = .ok v h2) : sPar [i, j] (aCons a (aCons b aNil)) L0 h = .ok .nx ((L0.set i (some u)).set j (some v)) h2 := by
  simp only [sPar, aCons, ea, eb, Res.bind, aNil, RS.ofA, setAll]
theorem lc_eq {mi : MI} {g : MG} {c : MT} {e : ME} {vs : List Nat} {fuel : Nat} {L0 : Lc} {h h1 h2 : Hq} {p : PItr} (e1 : mi L0 h = .ok p h1) (e2 : lcL p g c e (wipeL L0 vs) h1.n fuel 0 (h1.new (.lst [])) = .ok () h2) : eLc mi g c e vs fuel L0 h = .ok (.ref h1.n) h2 := by
  simp only [eLc, e1, Res.bind, e2]
theorem p2_ok (m : Nat) (hns : ns.length ≤ 63) (hB : B < 2000000000) (n1 : 1 ≤ n) (hn : n ≤ 6) (T : Tn ns ma B g lg c r kn b t h.n kvs (h.new (.lst [])) S []) (v2 : A) (x6 x7 x8 x9 x10 x11 : Option A) (fuel : Nat) (hf : 6 < fuel) :
    ∃ h' EL, P2 (Q (m + 32)) fuel (LO v2 ma (some (.ref g)) (some (.ref lg)) (some (.int ((n : Nat) : Int))) x6 x7 x8 x9 x10 x11) h = .ok .nx (LO v2 ma (some (.ref g)) (some (.ref lg)) (some (.int ((n : Nat) : Int))) x6 (some (.ref h.n)) (some (.str (nmN (n - 1)))) x9 x10 x11) h' ∧
      Tn ns ma (B + 6) g lg c r kn b t h.n kvs h' S EL ∧ EL.length = n ∧ ∀ x ∈ EL, x ≤ 4 := by
  obtain ⟨h', EL, q, T', l', e'⟩ := ext_ok m hns hn (wipeL (LO v2 ma (some (.ref g)) (some (.ref lg)) (some (.int ((n : Nat) : Int))) x6 x7 x8 x9 x10 x11) [6]) rfl (by show 6 < 12; decide) n 0 B fuel (h.new (.lst [])) [] (by omega) (by omega) (by omega) (by omega) rfl (fun x hx => by simp at hx) T
  have T2 : Tn ns ma (B + 6) g lg c r kn b t h.n kvs h' S EL := ⟨T'.R, T'.M.mono (by omega), T'.m0, T'.mkn, T'.mc, T'.mr, T'.he, T'.et, T'.el, T'.eb⟩
  refine ⟨h', EL, ?_, T2, l', e'⟩
  have hr : (iRg1 (eLoc 5)) (LO v2 ma (some (.ref g)) (some (.ref lg)) (some (.int ((n : Nat) : Int))) x6 x7 x8 x9 x10 x11) h = .ok (rgP 0 n) h := rg1_ok (by omega) rfl
  have hc : eLc (iRg1 (eLoc 5)) (gNm 6) tT (eCallF (Q (m + 32)) (.fn 28) (kOf (aCons (eLoc 1) (aCons (eCon (.int 5)) aNil)))) [6] fuel (LO v2 ma (some (.ref g)) (some (.ref lg)) (some (.int ((n : Nat) : Int))) x6 x7 x8 x9 x10 x11) h = .ok (.ref h.n) h' := lc_eq hr q
  have hs : Zk.e2 oSub (eLoc 5) (eCon (.int 1)) (LO v2 ma (some (.ref g)) (some (.ref lg)) (some (.int ((n : Nat) : Int))) x6 x7 x8 x9 x10 x11) h' = .ok (.int (((n - 1 : Nat) : Nat) : Int)) h' := by
    have z : (((n - 1 : Nat) : Nat) : Int) = ((n : Nat) : Int) - 1 := by omega
    rw [z]
    exact sub_int rfl rfl
  have hl := lnkE (LO v2 ma (some (.ref g)) (some (.ref lg)) (some (.int ((n : Nat) : Int))) x6 x7 x8 x9 x10 x11) h' (k := n - 1) (by omega) hs
  exact par2 hc hl
theorem ob_ok (m : Nat) (w : Wf h) (M : MAt ns ma B h) (m0 : ma ≠ 0) (hns : ns.length ≤ 63) (hB : B < 1000000000) (v2 : A) (x3 x4 x5 x6 x7 x8 x9 x10 x11 : Option A) (fuel : Nat) (hf : 6 < fuel) :
    ∃ h' y3 y4 y5 y6 y7 y8 y9 y10 y11, OB (Q (m + 32)) fuel (LO v2 ma x3 x4 x5 x6 x7 x8 x9 x10 x11) h = .ok .nx (LO v2 ma y3 y4 y5 y6 y7 y8 y9 y10 y11) h' ∧ Wf h' ∧ MAt ns ma (B + 19) h' := by
  obtain ⟨h1, n, g, lg, c, r, kn, b, t, s1, n1, hn, T1⟩ := o1_ok m w M m0 hns (by omega) v2 x3 x4 x5 x6 x7 x8 x9 x10 x11
  obtain ⟨h2, EL, s2, T2, hL, h4⟩ := p2_ok m hns (by omega) n1 hn T1 v2 x6 x7 x8 x9 x10 x11 fuel hf
  obtain ⟨h3, S3, s3, T3, P3'⟩ := base_put m T2 (LO v2 ma (some (.ref g)) (some (.ref lg)) (some (.int ((n : Nat) : Int))) x6 (some (.ref h1.n)) (some (.str (nmN (n - 1)))) x9 x10 x11) (fun _ => rfl)
  obtain ⟨h4', y6, kn4, kvs4, S4, s4, T4, P4⟩ := links_ok m T3 P3' hn hL v2 x6 (some (.str (nmN (n - 1)))) x9 x10 x11 fuel (by omega)
  obtain ⟨h5, s5, I5⟩ := first_ok m T4 P4 n1 hn hL h4 v2 y6 x9 x10 x11
  obtain ⟨h6, z6, z9, z10, z11, s6, I6⟩ := turns_ok m I5 hns (by omega) v2 y6 x9 x10 x11
  obtain ⟨kn6, kvs6, S6, K6, EL6, T6, _⟩ := I6.ex
  refine ⟨h6, some (.ref g), some (.ref lg), some (.int ((n : Nat) : Int)), z6, some (.ref h1.n), some (.str (nmN (n - 1))), z9, z10, z11, ?_, T6.R.wf, T6.M.mono (by omega)⟩
  have s1 : P1 (Q (m + 32)) (LO v2 ma x3 x4 x5 x6 x7 x8 x9 x10 x11) h = _ := s1
  have s3 : P3 (Q (m + 32)) (LO v2 ma (some (.ref g)) (some (.ref lg)) (some (.int ((n : Nat) : Int))) x6 (some (.ref h1.n)) (some (.str (nmN (n - 1)))) x9 x10 x11) h2 = _ := s3
  have s5 : FT (Q (m + 32)) (LO v2 ma (some (.ref g)) (some (.ref lg)) (some (.int ((n : Nat) : Int))) y6 (some (.ref h1.n)) (some (.str (nmN (n - 1)))) x9 x10 x11) h4' = _ := s5
  unfold OB
  rw [sq s1, sq s2, sq s3, sq s4, sq (if_f s5), sq s6]
  rfl
end
end K95
end
section
set_option Elab.async false
set_option linter.all false
set_option maxRecDepth 100000
set_option maxHeartbeats 0
namespace K95
open PySem PySem.Spec PyProof.Rows Zk
open L2 (Key)
def IT (Φ : Dn) : MI := iRg1 (Zk.e2 oAdd (eCon (.int 2)) (eCB (Zk.g2 minA) (aCons (eCon (.int 6)) (aCons (eCB (orG (Zk.g1 lenA) (orG (Zk.g1 lenD) (Zk.g1 (lenO Φ tb_len)))) (aCons (eLoc 0) aNil)) aNil))))
def LB (Φ : Dn) (fuel : Nat) : MS := sSeq (sAsg (gNm 1) (eCallF Φ (.fn 27) (kOf (aCons (eLoc 0) aNil)))) (sSeq (sFor (IT Φ) (gNm 2) (OB Φ fuel) fuel) (sSeq (sRet (eCon (.bl true))) sNil))
theorem D31_eq (Φ : Dn) : D_31 Φ = callF 12 (bdKw 1 []) (LB Φ FL) := by
  unfold D_31 LB IT OB P1 P2 P3 BL FT BT C4 C5 C6 C7 C8
  rfl
section
variable {ns : List Int} {ma B : Nat} {h : Hq}
theorem it_ok (Φ : Dn) (M : MAt ns ma B h) (hns : ns.length ≤ 63) (L0 : Lc) (e0 : eLoc 0 L0 h = .ok (.ref 0) h) : ∃ k, k ≤ 8 ∧ IT Φ L0 h = .ok (rgP 0 k) h := by
  have hsc := M.sc
  have hl : eCB (orG (Zk.g1 lenA) (orG (Zk.g1 lenD) (Zk.g1 (lenO Φ tb_len)))) (aCons (eLoc 0) aNil) L0 h = .ok (.int ((ns.length : Nat) : Int)) h := by
    simp only [eCB, aCons, aNil, e0, Res.bind]
    simp [orG, Zk.g1, lenA, seqOf, hsc]
  have hm : eCB (Zk.g2 minA) (aCons (eCon (.int 6)) (aCons (eCB (orG (Zk.g1 lenA) (orG (Zk.g1 lenD) (Zk.g1 (lenO Φ tb_len)))) (aCons (eLoc 0) aNil)) aNil)) L0 h = .ok (.int (if ((ns.length : Nat) : Int) < 6 then ((ns.length : Nat) : Int) else 6)) h := by
    have : ∀ (x : ME) (v : A), x L0 h = .ok v h → eCB (Zk.g2 minA) (aCons (eCon (.int 6)) (aCons x aNil)) L0 h = minA (.int 6) v h := fun x v e => by
      simp only [eCB, aCons, aNil, eCon, e, Res.bind, Zk.g2]
    exact this _ _ hl
  have ha := add_int (a := eCon (.int 2)) (i := 2) (h1 := h) rfl hm
  obtain ⟨k, hk, ek⟩ : ∃ k : Nat, k ≤ 8 ∧ (2 : Int) + (if ((ns.length : Nat) : Int) < 6 then ((ns.length : Nat) : Int) else 6) = ((k : Nat) : Int) := by
    by_cases e : ((ns.length : Nat) : Int) < 6
    · rw [if_pos e]; exact ⟨2 + ns.length, by omega, by omega⟩
    · rw [if_neg e]; exact ⟨8, by omega, by omega⟩
  rw [ek] at ha
  refine ⟨k, hk, ?_⟩
  have q := rg1_if (h := h) (b62_ok (n := k) (by omega))
  rw [Int.toNat_natCast] at q
  unfold IT
  have : ∀ (x : ME), x L0 h = .ok (.int ((k : Nat) : Int)) h → iRg1 x L0 h = .ok (rgP 0 k) h := fun x e => by
    simp only [iRg1, e, Res.bind, q]
  exact this _ ha
theorem rounds_ok (m : Nat) (w : Wf h) (M : MAt ns ma 0 h) (m0 : ma ≠ 0) (hns : ns.length ≤ 63) (fuel : Nat) (hf : 10 < fuel) :
    ∃ h' v2 y3 y4 y5 y6 y7 y8 y9 y10 y11, sFor (IT (Q (m + 32))) (gNm 2) (OB (Q (m + 32)) fuel) fuel [some (.ref 0), some (.ref ma), none, none, none, none, none, none, none, none, none, none] h = .ok .nx [some (.ref 0), some (.ref ma), v2, y3, y4, y5, y6, y7, y8, y9, y10, y11] h' := by
  obtain ⟨k, hk, hr⟩ := it_ok (Q (m + 32)) M hns [some (.ref 0), some (.ref ma), none, none, none, none, none, none, none, none, none, none] rfl
  rw [sFor_eq hr]
  obtain ⟨L', h', e, v2, y3, y4, y5, y6, y7, y8, y9, y10, y11, rfl, w', M'⟩ := forL_list (xs := natA (List.range k)) (f := fun _ a => a) (p := rgP 0 k) (g := gNm 2) (body := OB (Q (m + 32)) fuel)
    (fun i L h => ∃ v2 y3 y4 y5 y6 y7 y8 y9 y10 y11, L = [some (.ref 0), some (.ref ma), v2, y3, y4, y5, y6, y7, y8, y9, y10, y11] ∧ Wf h ∧ MAt ns ma (19 * i) h)
    (fun i h => rgP_nat i h)
    (fun i a L h ea2 P => by
      obtain ⟨hi, rfl⟩ := nat_at ea2
      obtain ⟨v2, y3, y4, y5, y6, y7, y8, y9, y10, y11, rfl, w, M⟩ := P
      obtain ⟨h2, z3, z4, z5, z6, z7, z8, z9, z10, z11, q, w2, M2⟩ := ob_ok m w M m0 hns (by omega) (.int ((i : Nat) : Int)) y3 y4 y5 y6 y7 y8 y9 y10 y11 fuel (by omega)
      exact ⟨_, LO (.int ((i : Nat) : Int)) ma y3 y4 y5 y6 y7 y8 y9 y10 y11, h, LO (.int ((i : Nat) : Int)) ma z3 z4 z5 z6 z7 z8 z9 z10 z11, h2, rfl, q, some (.int ((i : Nat) : Int)), z3, z4, z5, z6, z7, z8, z9, z10, z11, rfl, w2, M2⟩)
    k fuel 0 [some (.ref 0), some (.ref ma), none, none, none, none, none, none, none, none, none, none] h (by rw [nat_len]; rfl) (by omega) ⟨none, none, none, none, none, none, none, none, none, none, rfl, w, M⟩ (Nat.zero_le _)
  exact ⟨h', v2, y3, y4, y5, y6, y7, y8, y9, y10, y11, e⟩
theorem lb_ok (m : Nat) (w : Wf h) (h0 : h.get 0 = some (.rol (ns.map A.int))) (hns : ns.length ≤ 63) (fuel : Nat) (hf : 10 < fuel) :
    ∃ h', outF (LB (Q (m + 32)) fuel [some (.ref 0), none, none, none, none, none, none, none, none, none, none, none] h) = .ok (.bl true) h' := by
  obtain ⟨h1, q1, x1, w1, M1, hn⟩ := begun_ok (m + 31) w h0
  have q1 : Q (m + 32) (.fn 27) [.ref 0] [] h = .ok (.ref h.n) h1 := q1
  have m0 : h.n ≠ 0 := by have := w _ _ h0; omega
  have s1 : (sAsg (gNm 1) (eCallF (Q (m + 32)) (.fn 27) (kOf (aCons (eLoc 0) aNil)))) [some (.ref 0), none, none, none, none, none, none, none, none, none, none, none] h = .ok .nx [some (.ref 0), some (.ref h.n), none, none, none, none, none, none, none, none, none, none] h1 := by
    simp only [sAsg, eCallF, kOf, aCons, eLoc, List.getElem?_cons_zero, Res.bind, aNil, q1, RS.ofE, gNm]
    rfl
  obtain ⟨h2, v2, y3, y4, y5, y6, y7, y8, y9, y10, y11, s2⟩ := rounds_ok m w1 M1 m0 hns fuel hf
  refine ⟨h2, ?_⟩
  unfold LB
  rw [sq s1, sq s2]
  rfl
end
theorem hq0_wf (ns : List Int) : Wf (hq0 ns) := fun l o e => by
  obtain ⟨rfl, _⟩ := hq0_get e
  exact Nat.lt_succ_self 0
theorem plain37 (ns : List Int) (hns : ns.length ≤ 63) : ∃ h', Q 70 (.fn 31) [.ref 0] [] (hq0 ns) = .ok (.bl true) h' := by
  obtain ⟨h', e⟩ := lb_ok 37 (hq0_wf ns) rfl hns FL (by unfold FL; omega)
  refine ⟨h', ?_⟩
  have hD : Q 70 (.fn 31) [.ref 0] [] (hq0 ns) = D_31 (Q 69) [.ref 0] [] (hq0 ns) := rfl
  rw [hD, D31_eq]
  exact e
end K95
end
section
set_option Elab.async false
set_option linter.all false
set_option maxRecDepth 100000
set_option maxHeartbeats 0
namespace K95
open PySem PySem.W PySem.Calls PyProof.Rows Zk
def DEP : Nat := 70
def Plain : Prop := ∀ ns : List Int, ns.length ≤ 63 → (∀ z ∈ ns, Builtin.Int.intBits z ≤ 1048576) → ∃ h', PhiN DFS CFS DEP (.fn 31) [.ref 0] [] (hq0 ns) = .ok (.bl true) h'
theorem fin (plain : Plain) {YP : World → Heap → Prop} (hY : ∀ w h, YP w h → hk.says w h) : PySem.W.WalkO qv names (XL qv []) YP (PySem.Challenge.rw_dispatchers_k95_rules_and_nodes_replaced).row.toRowW (HandSHeadRun.topDef R.prog 41) [] (fun f vs => PySem.call f vs) := by
  refine walk_zk (l := PySem.Challenge.rw_dispatchers_k95_rules_and_nodes_replaced) (n := 63) (k := 2 * DEP) rfl (by decide) (by kernel_rfl) ⟨rfl, by decide, by decide⟩ fun w mg h Y G => ?_
  obtain ⟨K, KX, S⟩ := hY w h Y
  have F : FX K h mg := ⟨S, KX, G⟩
  have en : (HandSHeadRun.topDef R.prog 41).name = ("law" : PySem.Str) := by kernel_rfl
  refine ⟨K, TT K, PhiN DFS CFS DEP, 31, KX, ?_, lib_ok F DEP, ?_, plain⟩
  · rw [en]
    exact law_at F
  · exact tabs_at F
end K95
end
section
set_option Elab.async false
set_option linter.all false
set_option maxRecDepth 100000
set_option maxHeartbeats 0
open PySem PySem.W PySem.Calls PyProof.Rows
theorem K95.plain : K95.Plain := fun ns hns _ => K95.plain37 ns hns
theorem PySem.Challenge.cw_dispatchers_k95_rules_and_nodes_replaced_holds : PySem.Challenge.rw_dispatchers_k95_rules_and_nodes_replaced.Holds := by
  w_on; o_law
  refine HandSHeadRun.head_any (r := OpenLaw.row PySem.Challenge.rw_dispatchers_k95_rules_and_nodes_replaced) (q := K95.qv) (H := K95.hk) (ob := K95.ob) (M := 20000) (loose := K95.names) (d := HandSHeadRun.topDef K95.R.prog 41) (kwd := []) K95.ob_eq
    (by kernel_rfl) (fun s => by kernel_rfl) K95.run (by kernel_rfl) (by kernel_rfl) (by kernel_rfl) (by rfl) (by first | assumption | decide +kernel) (by decide +kernel) ⟨rfl, rfl, rfl, rfl, rfl, by decide +kernel⟩ ?hw ?hc
  case hw => w_witness2
  case hc => exact K95.fin K95.plain (fun _ _ y => y)
end
