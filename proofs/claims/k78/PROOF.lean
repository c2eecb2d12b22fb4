import PyProof.Rows.All
import Wide.All
import OpenK.AllK
import Wide.FinOn
import HandS.ForMost
import HandS.ForExc
import HandS.Walk
import HandS.Property
import HandS.MakeKwOnly
import HandS.FStr
import HandS.RaiseMore
import HandS.IsInst
import HandS.Style
import HandS.Conv
import HandS.CallSlots
import HandS.SetKeys
import HandS.SetBool
import HandS.DictComp
import HandS.NoneIn
import HandS.TupAny
import HandS.Wide
import HandS.Flow
import HandS.Replace
import HandS.StrSplit
import HandS.StrMore
import HandS.OwnEq
import HandS.DeepEq
import HandS.TryMany
import HandS.ExcInit
import HandS.ExcSuper
import HandS.ExcIs
import HandS.ExcField
import HandS.EndBits
import KE.KExcSuper
import HandS.DictEq
import KE.KEqDict
import HandS.SortOrd
import HandS.SortInts
import KE.KSortTupAny
import KE.KExcInit
import KE.KSuper
import PyProof.InstEq
import HandS.ReplaceLit
import PyProof.MeetsStr3
import HandS.Head0
import HandS.Head1
import HandS.Head2
import HandS.HeadEnd
import HandS.HeadHook1
import HandS.HeadHook2
import HandS.MakeKw
import HandS.Codes
import HandS.ReplaceList
import PySem.Challenge.RW_gaplesskeys_k78_texts_of_contents
section
set_option Elab.async false
set_option linter.all false
set_option maxRecDepth 100000
set_option autoImplicit false
/-! DL: data (D) over the abstract heap: what a value holds, what stays -/
namespace DL
open PySem PySem.Spec L2
open PyProof.Rows hiding St

/-- data as trees. ob: a class or def of the text by name; cell: a thing that changes, by its number in the store; scr: the script -/
inductive D where
  | non | bl (b : Bool) | int (i : Int) | str (x : Str) | ty (n : String) | ob (x : Str)
  | lst (xs : List D) | tup (xs : List D) | dct (kvs : List (Key × D))
  | obj (c : Str) (fs : List (Str × D))
  | cell (i : Nat) | scr (ns : List Int)
/-- what changes -/
inductive Cell where
  | lst (xs : List D) | dct (kvs : List (Key × D)) | ldct (kvs : List (Key × D)) | ins (c : Str) (fs : List (Str × D))
abbrev Store := List Cell
/-- a local name: unknown, a datum, a thing of one's own that changes -/
inductive Slot where
  | no | val (d : D) | own (o : Cell) | exn (a : Addr) (c : Str) (fs : List (Str × D))
abbrev DEnv := List Slot

/-- what stands: F, what never changes again; as, where the store's things stand -/
structure G where
  F : Addr → Prop
  as : List Addr
  H : Hp
  me : Option Addr := none
structure Cst where
  K : PySem.W.Frag
  ad : Str → Addr
def KLst (K : PySem.W.Frag) (a : Addr) (xs : List V) : Prop := ∃ (o : Obj) (its : Array Value) (n : Nat), K.lookup a = some o ∧ o.cls = .type "list" ∧ o.dict = none ∧ o.data = .seq its n ∧ its.size ≤ sizeLine ∧ Vals xs its.toList
mutual
def Rep (c : Cst) (g : G) : D → V → Prop
  | .non, v => v = .non
  | .bl b, v => v = .bl b
  | .int i, v => v = .int i
  | .str x, v => v = .str x
  | .ty n, v => v = .ty n
  | .ob x, v => v = .ref (c.ad x)
  | .lst ds, v => ∃ a vs, v = .ref a ∧ g.F a ∧ g.H a = some (.lst vs) ∧ Reps c g ds vs
  | .tup ds, v => ∃ a vs, v = .ref a ∧ g.F a ∧ g.H a = some (.tup vs) ∧ Reps c g ds vs
  | .dct ds, v => ∃ a vs, v = .ref a ∧ g.F a ∧ Rd g.H a (.dK vs) ∧ RepK c g ds vs
  | .obj cl ds, v => ∃ a dx vs, v = .ref a ∧ g.F a ∧ g.H a = some (.ins (c.ad cl) dx vs) ∧ RepF c g ds vs
  | .cell i, v => ∃ a, v = .ref a ∧ g.as[i]? = some a
  | .scr ns, v => ∃ a, v = .ref a ∧ ((g.F a ∧ Rd g.H a (.lst (ns.map V.int))) ∨ KLst c.K a (ns.map V.int))
def Reps (c : Cst) (g : G) : List D → List V → Prop
  | [], vs => vs = []
  | d :: ds, vs => ∃ v ws, vs = v :: ws ∧ Rep c g d v ∧ Reps c g ds ws
def RepK (c : Cst) (g : G) : List (Key × D) → List (Key × V) → Prop
  | [], vs => vs = []
  | (k, d) :: ds, vs => ∃ v ws, vs = (k, v) :: ws ∧ Rep c g d v ∧ RepK c g ds ws
def RepF (c : Cst) (g : G) : List (Str × D) → List (Str × V) → Prop
  | [], vs => vs = []
  | (k, d) :: ds, vs => ∃ v ws, vs = (k, v) :: ws ∧ Rep c g d v ∧ RepF c g ds ws
end

section
variable {c : Cst} {g g' g'' : G}
/-- not a lock -/
def NF (u : HO) : Prop := ∀ od x, u ≠ .frz od x
/-- what keeps a datum -/
structure Le (g g' : G) : Prop where
  F : ∀ a, g.F a → g'.F a
  H : ∀ a, g.F a → ∀ u, NF u → Rd g.H a u → Rd g'.H a u
  X : ∀ a, g.F a → ∀ o, (∀ kvs, o ≠ .dK kvs) → NF o → g.H a = some o → g'.H a = some o
  as : ∃ m, g'.as = g.as ++ m
theorem as_get {m : List Addr} {i : Nat} {a : Addr} (e : g'.as = g.as ++ m) (h : g.as[i]? = some a) : g'.as[i]? = some a := by
  rw [e, List.getElem?_append_left (List.getElem?_eq_some_iff.mp h).1]
  exact h
mutual
theorem Rep.le (l : Le g g') : ∀ (d : D) (v : V), Rep c g d v → Rep c g' d v
  | .non, _, h => by simpa only [Rep] using h
  | .bl _, _, h => by simpa only [Rep] using h
  | .int _, _, h => by simpa only [Rep] using h
  | .str _, _, h => by simpa only [Rep] using h
  | .ty _, _, h => by simpa only [Rep] using h
  | .ob _, _, h => by simpa only [Rep] using h
  | .lst ds, v, h => by
    obtain ⟨a, vs, e, f, q, r⟩ := h
    exact ⟨a, vs, e, l.F a f, l.X a f _ (fun _ z => by cases z) (fun _ _ z => by cases z) q, Reps.le l ds vs r⟩
  | .tup ds, v, h => by
    obtain ⟨a, vs, e, f, q, r⟩ := h
    exact ⟨a, vs, e, l.F a f, l.X a f _ (fun _ z => by cases z) (fun _ _ z => by cases z) q, Reps.le l ds vs r⟩
  | .dct ds, v, h => by
    obtain ⟨a, vs, e, f, q, r⟩ := h
    exact ⟨a, vs, e, l.F a f, l.H a f _ (fun _ _ z => by cases z) q, RepK.le l ds vs r⟩
  | .obj cl ds, v, h => by
    obtain ⟨a, dx, vs, e, f, q, r⟩ := h
    exact ⟨a, dx, vs, e, l.F a f, l.X a f _ (fun _ z => by cases z) (fun _ _ z => by cases z) q, RepF.le l ds vs r⟩
  | .cell i, v, h => by
    obtain ⟨a, e, q⟩ := h
    obtain ⟨m, hm⟩ := l.as
    exact ⟨a, e, as_get hm q⟩
  | .scr ns, v, h => by
    obtain ⟨a, e, q⟩ := h
    exact ⟨a, e, q.imp (fun q => ⟨l.F a q.1, l.H a q.1 _ (fun _ _ z => by cases z) q.2⟩) id⟩
theorem Reps.le (l : Le g g') : ∀ (ds : List D) (vs : List V), Reps c g ds vs → Reps c g' ds vs
  | [], _, h => h
  | d :: ds, _, h => by
    obtain ⟨v, ws, e, r, rs⟩ := h
    exact ⟨v, ws, e, Rep.le l d v r, Reps.le l ds ws rs⟩
theorem RepK.le (l : Le g g') : ∀ (ds : List (Key × D)) (vs : List (Key × V)), RepK c g ds vs → RepK c g' ds vs
  | [], _, h => h
  | (k, d) :: ds, _, h => by
    obtain ⟨v, ws, e, r, rs⟩ := h
    exact ⟨v, ws, e, Rep.le l d v r, RepK.le l ds ws rs⟩
theorem RepF.le (l : Le g g') : ∀ (ds : List (Str × D)) (vs : List (Str × V)), RepF c g ds vs → RepF c g' ds vs
  | [], _, h => h
  | (k, d) :: ds, _, h => by
    obtain ⟨v, ws, e, r, rs⟩ := h
    exact ⟨v, ws, e, Rep.le l d v r, RepF.le l ds ws rs⟩
end

/-- a thing that changes, as it stands -/
def CRep (c : Cst) (g : G) : Cell → Addr → Prop
  | .lst ds, a => ∃ vs, g.H a = some (.lst vs) ∧ Reps c g ds vs
  | .dct ds, a => ∃ vs, g.H a = some (.dK vs) ∧ RepK c g ds vs
  | .ldct ds, a => ∃ o vs, g.H a = some (.frz o (.dK vs)) ∧ RepK c g ds vs
  | .ins cl fs, a => ∃ dx vs, g.H a = some (.ins (c.ad cl) dx vs) ∧ RepF c g fs vs
theorem CRep.th {o : Cell} {a : Addr} (h : CRep c g o a) : ∃ u, g.H a = some u := by
  cases o with
  | lst ds => obtain ⟨_, e, _⟩ := h; exact ⟨_, e⟩
  | dct ds => obtain ⟨_, e, _⟩ := h; exact ⟨_, e⟩
  | ldct ds => obtain ⟨_, _, e, _⟩ := h; exact ⟨_, e⟩
  | ins cl fs => obtain ⟨_, _, e, _⟩ := h; exact ⟨_, e⟩
theorem CRep.le (l : Le g g') {o : Cell} {a : Addr} (h : CRep c g o a) (k : g'.H a = g.H a) : CRep c g' o a := by
  cases o with
  | lst ds => obtain ⟨vs, e, r⟩ := h; exact ⟨vs, k.trans e, r.le l⟩
  | dct ds => obtain ⟨vs, e, r⟩ := h; exact ⟨vs, k.trans e, r.le l⟩
  | ldct ds => obtain ⟨o, vs, e, r⟩ := h; exact ⟨o, vs, k.trans e, r.le l⟩
  | ins cl fs => obtain ⟨dx, vs, e, r⟩ := h; exact ⟨dx, vs, k.trans e, r.le l⟩

/-- the store stands -/
structure Wf (c : Cst) (g : G) (st : Store) : Prop where
  fa : ∀ a, g.F a → g.H a ≠ none
  ca : ∀ a ∈ g.as, ¬ g.F a
  nd : g.as.Nodup
  len : g.as.length = st.length
  cr : ∀ (i : Nat) o a, st[i]? = some o → g.as[i]? = some a → CRep c g o a
theorem Wf.at {st : Store} (w : Wf c g st) {i : Nat} {o : Cell} (h : st[i]? = some o) : ∃ a, g.as[i]? = some a ∧ CRep c g o a := by
  have hi : i < g.as.length := by rw [w.len]; exact (List.getElem?_eq_some_iff.mp h).1
  exact ⟨g.as[i], List.getElem?_eq_getElem hi, w.cr i o _ h (List.getElem?_eq_getElem hi)⟩
theorem Wf.th {st : Store} (w : Wf c g st) {a : Addr} (h : a ∈ g.as) : ∃ u, g.H a = some u := by
  obtain ⟨i, hi, e⟩ := List.mem_iff_getElem.mp h
  have hs : i < st.length := by rw [← w.len]; exact hi
  exact (w.cr i st[i] a (List.getElem?_eq_getElem hs) (by rw [List.getElem?_eq_getElem hi, e])).th

/-- from g to g' only things of the store have changed, new things have come -/
structure Ext (g g' : G) : Prop where
  F : ∀ a, g.F a → g'.F a
  as : ∃ m, g'.as = g.as ++ m ∧ ∀ a ∈ m, g.H a = none
  keep : ∀ a o, a ∉ g.as → g.H a = some o → g'.H a = some o ∨ (g.F a ∧ ∃ kvs od, o = .dK kvs ∧ g'.H a = some (.frz od (.dK kvs)))
  back : ∀ a, g'.F a → g.F a ∨ g.H a = none
  nn : ∀ a, g'.H a = none → g.H a = none
theorem Ext.refl (g : G) : Ext g g := ⟨fun _ h => h, ⟨[], by simp, fun _ h => absurd h (by simp)⟩, fun _ _ _ h => .inl h, fun _ h => .inl h, fun _ h => h⟩
theorem Ext.kept (x : Ext g g') {a : Addr} {o : HO} (n : a ∉ g.as) (h : g.H a = some o) (hf : ¬ g.F a ∨ ∀ kvs, o ≠ .dK kvs) : g'.H a = some o := by
  rcases x.keep a o n h with z | ⟨f, kvs, od, e, _⟩
  · exact z
  · rcases hf with hf | hf
    · exact absurd f hf
    · exact absurd e (hf kvs)
theorem Ext.trans (a : Ext g g') (b : Ext g' g'') : Ext g g'' := by
  obtain ⟨m, e, hm⟩ := a.as
  obtain ⟨m', e', hm'⟩ := b.as
  refine ⟨fun x h => b.F x (a.F x h), ⟨m ++ m', by rw [e', e, List.append_assoc], fun x hx => ?_⟩, fun x o hx h => ?_, fun x h => ?_, fun x h => a.nn x (b.nn x h)⟩
  · rcases List.mem_append.mp hx with h | h
    · exact hm x h
    · exact a.nn x (hm' x h)
  · have nx : x ∉ g'.as := fun hx' => by
      rw [e] at hx'
      rcases List.mem_append.mp hx' with z | z
      · exact hx z
      · rw [hm x z] at h; cases h
    rcases a.keep x o hx h with z | ⟨f, kvs, od, e1, e2⟩
    · rcases b.keep x o nx z with z | ⟨f, kvs, od, e1, e2⟩
      · exact .inl z
      · rcases a.back x f with z | z
        · exact .inr ⟨z, kvs, od, e1, e2⟩
        · rw [h] at z; cases z
    · rcases b.keep x _ nx e2 with z | ⟨_, _, _, z, _⟩
      · exact .inr ⟨f, kvs, od, e1, z⟩
      · cases z
  · rcases b.back x h with z | z
    · exact a.back x z
    · exact .inr (a.nn x z)
theorem Ext.le {st : Store} (x : Ext g g') (w : Wf c g st) : Le g g' := by
  have na : ∀ a, g.F a → a ∉ g.as := fun a f h => w.ca a h f
  refine ⟨x.F, fun a f u _ h => ?_, fun a f o hd _ h => x.kept (na a f) h (.inr hd), ?_⟩
  · rcases h with h | ⟨o, h⟩
    · rcases x.keep a _ (na a f) h with z | ⟨_, kvs, od, e, z⟩
      · exact .inl z
      · exact .inr ⟨od, by rw [e]; exact z⟩
    · exact .inr ⟨o, x.kept (na a f) h (.inr fun _ z => by cases z)⟩
  · obtain ⟨m, e, _⟩ := x.as
    exact ⟨m, e⟩
theorem Ext.rep {st : Store} (x : Ext g g') (w : Wf c g st) {d : D} {v : V} (h : Rep c g d v) : Rep c g' d v := h.le (x.le w)
theorem Ext.reps {st : Store} (x : Ext g g') (w : Wf c g st) {d : List D} {v : List V} (h : Reps c g d v) : Reps c g' d v := h.le (x.le w)
theorem Ext.notas (x : Ext g g') {a : Addr} (h : a ∉ g.as) (hs : g.H a ≠ Option.none) : a ∉ g'.as := by
  obtain ⟨m, e, hm⟩ := x.as
  intro z
  rw [e] at z
  rcases List.mem_append.mp z with z | z
  · exact h z
  · exact hs (hm a z)

/-- a local name's value -/
def SlotR (c : Cst) (g : G) : Slot → Option V → Prop
  | .no, _ => True
  | .val d, o => ∃ v, o = some v ∧ Rep c g d v
  | .own cl, o => ∃ a, o = some (.ref a) ∧ ¬ g.F a ∧ a ∉ g.as ∧ CRep c g cl a
  | .exn a cl fs, o => o = some (.ref a) ∧ ∃ dd vs, g.F dd ∧ g.H dd = some (.xd vs) ∧ RepF c g fs vs
structure EnvR (c : Cst) (g : G) (env : DEnv) (σ : St) : Prop where
  len : σ.length = env.length
  at_ : ∀ (i : Nat) s o, env[i]? = some s → σ[i]? = some o → SlotR c g s o
  own : ∀ (i j : Nat) ci cj a, env[i]? = some (.own ci) → env[j]? = some (.own cj) → σ[i]? = some (some (.ref a)) → σ[j]? = some (some (.ref a)) → i = j
theorem SlotR.ext {st : Store} (x : Ext g g') (w : Wf c g st) {s : Slot} {o : Option V} (h : SlotR c g s o) : SlotR c g' s o := by
  cases s with
  | no => trivial
  | val d => obtain ⟨v, e, r⟩ := h; exact ⟨v, e, x.rep w r⟩
  | own cl =>
    obtain ⟨a, e, f, n, r⟩ := h
    obtain ⟨u, hu⟩ := r.th
    refine ⟨a, e, fun z => ?_, x.notas n (by rw [hu]; exact fun z => by cases z), r.le (x.le w) ((x.kept n hu (.inl f)).trans hu.symm)⟩
    rcases x.back a z with z | z
    · exact f z
    · rw [hu] at z; cases z
  | exn a cl fs =>
    obtain ⟨e, dd, vs, f, q, r⟩ := h
    exact ⟨e, dd, vs, x.F dd f, x.kept (fun z => w.ca dd z f) q (.inr fun _ z => by cases z), r.le (x.le w)⟩
theorem EnvR.ext {st : Store} (x : Ext g g') (w : Wf c g st) {env : DEnv} {σ : St} (h : EnvR c g env σ) : EnvR c g' env σ :=
  ⟨h.len, fun i s o e1 e2 => (h.at_ i s o e1 e2).ext x w, h.own⟩
theorem EnvR.get {env : DEnv} {σ : St} (h : EnvR c g env σ) {i : Nat} {s : Slot} (e : env[i]? = some s) : ∃ o, σ[i]? = some o ∧ SlotR c g s o := by
  have hi : i < σ.length := by rw [h.len]; exact (List.getElem?_eq_some_iff.mp e).1
  exact ⟨σ[i], List.getElem?_eq_getElem hi, h.at_ i s _ e (List.getElem?_eq_getElem hi)⟩
/-- a datum is stored in a slot -/
theorem EnvR.set {env : DEnv} {σ : St} (h : EnvR c g env σ) {i : Nat} {d : D} {v : V} (r : Rep c g d v) : EnvR c g (env.set i (.val d)) (σ.set i (some v)) := by
  refine ⟨by simp [h.len], fun j s o e1 e2 => ?_, fun j k cj ck a e1 e2 e3 e4 => ?_⟩
  · by_cases hj : i = j
    · subst hj
      have hi : i < env.length := by simpa using (List.getElem?_eq_some_iff.mp e1).1
      rw [List.getElem?_set_self hi] at e1
      rw [List.getElem?_set_self (by rw [h.len]; exact hi)] at e2
      cases e1; cases e2
      exact ⟨v, rfl, r⟩
    · rw [List.getElem?_set_ne hj] at e1 e2
      exact h.at_ j s o e1 e2
  · have nj : ∀ {j : Nat} {cj : Cell}, (env.set i (.val d))[j]? = some (.own cj) → i ≠ j ∧ env[j]? = some (.own cj) := fun {j cj} e => by
      by_cases hj : i = j
      · subst hj
        have hi : i < env.length := by simpa using (List.getElem?_eq_some_iff.mp e).1
        rw [List.getElem?_set_self hi] at e
        cases e
      · exact ⟨hj, by rwa [List.getElem?_set_ne hj] at e⟩
    obtain ⟨n1, e1⟩ := nj e1
    obtain ⟨n2, e2⟩ := nj e2
    rw [List.getElem?_set_ne n1] at e3
    rw [List.getElem?_set_ne n2] at e4
    exact h.own j k cj ck a e1 e2 e3 e4
end
end DL
end
section
set_option Elab.async false
set_option linter.all false
set_option maxRecDepth 100000
set_option autoImplicit false
/-! DL: what runs to what: outcomes, the judgements of expressions -/
namespace DL
open PySem PySem.Spec L2
open PyProof.Rows hiding St

/-- an outcome: a value, an exception of the text's own (its class, its fields), or: nothing is said -/
inductive Out (α : Type) where
  | ok (a : α) (s : Store) | exc (x : Str) (fs : List (Str × D)) (s : Store) | bad
def Out.bind {α β : Type} (o : Out α) (k : α → Store → Out β) : Out β := match o with
  | .ok a s => k a s
  | .exc x fs s => .exc x fs s
  | .bad => .bad
def Out.opt {α : Type} (o : Option α) (s : Store) : Out α := match o with
  | some a => .ok a s
  | none => .bad
@[simp] theorem Out.bind_ok {α β : Type} (a : α) (s : Store) (k : α → Store → Out β) : (Out.ok a s).bind k = k a s := rfl
@[simp] theorem Out.bind_exc {α β : Type} (x : Str) (fs : List (Str × D)) (s : Store) (k : α → Store → Out β) : (Out.exc x fs s).bind k = .exc x fs s := rfl
@[simp] theorem Out.bind_bad {α β : Type} (k : α → Store → Out β) : (Out.bad).bind k = .bad := rfl
@[simp] theorem Out.opt_some {α : Type} (a : α) (s : Store) : Out.opt (some a) s = .ok a s := rfl
@[simp] theorem Out.opt_none {α : Type} (s : Store) : Out.opt (none : Option α) s = .bad := rfl
abbrev FnM := List D → Store → Out D
abbrev ER := DEnv → Store → Out D

/-! ### the best reading -/
section
variable {X : Cx} {e : Expr} {σ : St} {H : Hp}
def bE (X : Cx) (e : Expr) : TE := fun σ H Q => ∀ pins s, Inv X pins σ H s → wpAny (model X.prog X.w) X.A (eval e X.env) (EP X pins σ Q) X.xe s
theorem pe_b : PE X e (bE X e) := ⟨fun pins s σ H Q I h => h pins s I⟩
theorem bE_of {t : TE} {Q : VK} (h : PE X e t) (q : t σ H Q) : bE X e σ H Q := fun pins s I => h.run pins s σ H Q I q
def bT (X : Cx) (e : Expr) : TT := fun σ H Q => ∀ pins s, Inv X pins σ H s → wpAny (model X.prog X.w) X.A (isTrue e X.env (eval e X.env)) (TP X pins σ Q) X.xe s
theorem pt_b : PT X e (bT X e) := ⟨fun pins s σ H Q I h => h pins s I⟩
theorem bT_of {t : TT} {Q : Bool → Hp → Prop} (h : PT X e t) (q : t σ H Q) : bT X e σ H Q := fun pins s I => h.run pins s σ H Q I q
def bA (X : Cx) (es : List Expr) : TA := fun σ H Q => ∀ (pos : Pos) pins s, Inv X pins σ H s → wpAny (model X.prog X.w) X.A (spliced (backTo pos (starEach es X.env))) (AP X pins σ Q) X.xe s
theorem pa_b {es : List Expr} : PA X es (bA X es) := ⟨fun pos pins s σ H Q I h => h pos pins s I⟩
theorem bA_of {es : List Expr} {t : TA} {Q : List V → Hp → Prop} (h : PA X es t) (q : t σ H Q) : bA X es σ H Q := fun pos pins s I => h.run pos pins s σ H Q I q
def bS (X : Cx) (st : Stmt) : TS := fun D σ H => ∀ pins s, Inv X pins σ H s → wpAny (model X.prog X.w) X.A (exec st X.env) (SP X pins D) X.xe s
theorem ps_b {st : Stmt} : PS X st (bS X st) := ⟨fun pins s σ H D I h => h pins s I⟩
theorem bS_of {st : Stmt} {t : TS} {D : Ends} (h : PS X st t) (q : t D σ H) : bS X st D σ H := fun pins s I => h.run pins s σ H D I q
def bSs (X : Cx) (st : List Stmt) : TS := fun D σ H => ∀ pins s, Inv X pins σ H s → wpAny (model X.prog X.w) X.A (execs st X.env) (SP X pins D) X.xe s
theorem pss_b {st : List Stmt} : PSs X st (bSs X st) := ⟨fun pins s σ H D I h => h pins s I⟩
theorem bSs_of {st : List Stmt} {t : TS} {D : Ends} (h : PSs X st t) (q : t D σ H) : bSs X st D σ H := fun pins s I => h.run pins s σ H D I q
end

/-! ### what a datum is read as -/
def cellD : Cell → D
  | .lst ds => .lst ds
  | .dct ks => .dct ks
  | .ldct ks => .dct ks
  | .ins c fs => .obj c fs
/-- a datum, or a thing of one's own as it stands -/
def PRep (c : Cst) (g : G) (d : D) (v : V) : Prop := Rep c g d v ∨ ∃ cl a, v = .ref a ∧ (a ∉ g.as ∧ ¬ g.F a) ∧ CRep c g cl a ∧ d = cellD cl
section
variable {c : Cst} {g g' g'' : G} {st : Store}
theorem PRep.of {d : D} {v : V} (h : Rep c g d v) : PRep c g d v := .inl h
theorem PRep.ext (x : Ext g g') (w : Wf c g st) {d : D} {v : V} (h : PRep c g d v) : PRep c g' d v := by
  rcases h with h | ⟨cl, a, e, n, r, q⟩
  · exact .inl (x.rep w h)
  · obtain ⟨u, hu⟩ := r.th
    refine .inr ⟨cl, a, e, ⟨x.notas n.1 (by rw [hu]; exact fun z => by cases z), fun z => ?_⟩, r.le (x.le w) ((x.kept n.1 hu (.inl n.2)).trans hu.symm), q⟩
    rcases x.back a z with z | z
    · exact n.2 z
    · rw [hu] at z; cases z
/-- a thing is frozen -/
def G.frz (g : G) (a : Addr) : G := { g with F := fun b => g.F b ∨ b = a }
theorem le_frz (g : G) (a : Addr) : Le g (g.frz a) := ⟨fun _ h => .inl h, fun _ _ _ _ h => h, fun _ _ _ _ _ h => h, ⟨[], by simp [G.frz]⟩⟩
theorem Wf.frz (w : Wf c g st) {a : Addr} (h : g.H a ≠ none) (n : a ∉ g.as) : Wf c (g.frz a) st := by
  refine ⟨fun b hb => ?_, fun b hb hf => ?_, w.nd, w.len, fun i o b h1 h2 => (w.cr i o b h1 h2).le (le_frz g a) rfl⟩
  · rcases hb with hb | hb
    · exact w.fa b hb
    · rw [hb]; exact h
  · rcases hf with hf | hf
    · exact w.ca b hb hf
    · exact n (hf ▸ hb)
theorem Ext.frz (x : Ext g g') {a : Addr} (h : g.H a = none) : Ext g (g'.frz a) := by
  refine ⟨fun b hb => .inl (x.F b hb), x.as, x.keep, fun b hb => ?_, x.nn⟩
  rcases hb with hb | hb
  · exact x.back b hb
  · exact .inr (hb ▸ h)
theorem CRep.frz {cl : Cell} {a : Addr} (r : CRep c g cl a) : Rep c (g.frz a) (cellD cl) (.ref a) := by
  cases cl with
  | lst ds => obtain ⟨vs, e, r⟩ := r; exact ⟨a, vs, rfl, .inr rfl, e, r.le (le_frz g a)⟩
  | dct ds => obtain ⟨vs, e, r⟩ := r; exact ⟨a, vs, rfl, .inr rfl, .inl e, r.le (le_frz g a)⟩
  | ldct ds => obtain ⟨o, vs, e, r⟩ := r; exact ⟨a, vs, rfl, .inr rfl, .inr ⟨o, e⟩, r.le (le_frz g a)⟩
  | ins cl fs => obtain ⟨dx, vs, e, r⟩ := r; exact ⟨a, dx, vs, rfl, .inr rfl, e, r.le (le_frz g a)⟩
/-- a new thing stands at a -/
def G.upd (g : G) (a : Addr) (o : HO) : G := { g with H := L2.upd g.H a o }
theorem Ext.upd {a : Addr} {o : HO} (h : g.H a = none) : Ext g (g.upd a o) := by
  refine ⟨fun _ z => z, ⟨[], by simp [G.upd], fun _ z => absurd z (by simp)⟩, fun b u _ e => .inl ?_, fun b hb => .inl hb, fun b hb => ?_⟩
  · exact (upd_ne (ne_of_none e h)).trans e
  · by_cases z : b = a
    · rw [z]; exact h
    · exact (upd_ne (H := g.H) (o := o) z).symm.trans hb
theorem le_upd {a : Addr} {o : HO} (h : g.H a = none) (w : Wf c g st) : Le g (g.upd a o) := (Ext.upd h).le w
theorem Wf.notas (w : Wf c g st) {a : Addr} (h : g.H a = none) : a ∉ g.as := fun z => by
  obtain ⟨u, hu⟩ := w.th z
  rw [h] at hu; cases hu
theorem Wf.notF (w : Wf c g st) {a : Addr} (h : g.H a = none) : ¬ g.F a := fun z => w.fa a z h
theorem Wf.upd (w : Wf c g st) {a : Addr} {o : HO} (h : g.H a = none) : Wf c (g.upd a o) st := by
  refine ⟨fun b hb => ?_, w.ca, w.nd, w.len, fun i cl b h1 h2 => (w.cr i cl b h1 h2).le (le_upd h w) ?_⟩
  · have n : b ≠ a := fun z => by subst z; exact w.notF h hb
    show L2.upd g.H a o b ≠ none
    rw [upd_ne n]
    exact w.fa b hb
  · have n : b ≠ a := fun z => by subst z; exact w.notas h (List.mem_of_getElem? h2)
    exact upd_ne n
/-- a new thing, frozen at once -/
theorem new_frz (w : Wf c g st) {a : Addr} {o : HO} (h : g.H a = none) : Ext g ((g.upd a o).frz a) ∧ Wf c ((g.upd a o).frz a) st :=
  ⟨(Ext.upd h).frz h, (w.upd h).frz (by show L2.upd g.H a o a ≠ none; rw [upd_same]; exact fun z => by cases z) (w.notas h)⟩
theorem le_new (w : Wf c g st) {a : Addr} {o : HO} (h : g.H a = none) : Le g ((g.upd a o).frz a) := (new_frz w h).1.le w
end

/-! ### the judgements -/
/-- behind an expression: R of the value -/
def PostR (c : Cst) (W : WX) (g : G) (σ : St) {α β : Type} (R : G → α → β → Prop) (o : Out α) (Q : β → Hp → Prop) : Prop := match o with
  | .ok d st' => ∀ g' v, Ext g g' → Wf c g' st' → R g' d v → Q v g'.H
  | .exc x fs st' => ∀ g' dd vs, Ext g g' → Wf c g' st' → g'.F dd → g'.H dd = some (.xd vs) → RepF c g' fs vs → W (.ref (c.ad x)) (some dd) σ g'.H
  | .bad => False
def DE (c : Cst) (X : Cx) (W : WX) (e : Expr) (f : ER) : Prop :=
  ∀ g env σ st (Q : VK), Wf c g st → EnvR c g env σ → PostR c W g σ (Rep c) (f env st) Q → bE X e σ g.H Q
def DP (c : Cst) (X : Cx) (W : WX) (e : Expr) (f : ER) : Prop :=
  ∀ g env σ st (Q : VK), Wf c g st → EnvR c g env σ → PostR c W g σ (PRep c) (f env st) Q → bE X e σ g.H Q
/-- a new thing that nobody else knows -/
def NewR (c : Cst) (g0 : G) (g : G) (cl : Cell) (v : V) : Prop := ∃ a, v = .ref a ∧ g0.H a = none ∧ ¬ g.F a ∧ a ∉ g.as ∧ CRep c g cl a
def DF (c : Cst) (X : Cx) (W : WX) (e : Expr) (f : DEnv → Store → Out Cell) : Prop :=
  ∀ g env σ st (Q : VK), Wf c g st → EnvR c g env σ → PostR c W g σ (NewR c g) (f env st) Q → bE X e σ g.H Q
def DT (c : Cst) (X : Cx) (W : WX) (e : Expr) (f : DEnv → Store → Out Bool) : Prop :=
  ∀ g env σ st (Q : Bool → Hp → Prop), Wf c g st → EnvR c g env σ → PostR c W g σ (fun _ a b => a = b) (f env st) Q → bT X e σ g.H Q
def DA (c : Cst) (X : Cx) (W : WX) (es : List Expr) (f : DEnv → Store → Out (List D)) : Prop :=
  ∀ g env σ st (Q : List V → Hp → Prop), Wf c g st → EnvR c g env σ → PostR c W g σ (Reps c) (f env st) Q → bA X es σ g.H Q
/-- arguments that are only read -/
def PReps (c : Cst) (g : G) : List D → List V → Prop
  | [], vs => vs = []
  | d :: ds, vs => ∃ v ws, vs = v :: ws ∧ PRep c g d v ∧ PReps c g ds ws
def DAP (c : Cst) (X : Cx) (W : WX) (es : List Expr) (f : DEnv → Store → Out (List D)) : Prop :=
  ∀ g env σ st (Q : List V → Hp → Prop), Wf c g st → EnvR c g env σ → PostR c W g σ (PReps c) (f env st) Q → bA X es σ g.H Q

section
variable {c : Cst} {X : Cx} {W : WX} {g g' g1 : G} {env : DEnv} {σ : St} {st : Store}
theorem PReps.ext (x : Ext g g') (w : Wf c g st) : ∀ {ds : List D} {vs : List V}, PReps c g ds vs → PReps c g' ds vs
  | [], _, h => h
  | d :: ds, _, h => by
    obtain ⟨v, ws, e, r, rs⟩ := h
    exact ⟨v, ws, e, r.ext x w, PReps.ext x w rs⟩
theorem PReps.of : ∀ {ds : List D} {vs : List V}, Reps c g ds vs → PReps c g ds vs
  | [], _, h => h
  | d :: ds, _, h => by
    obtain ⟨v, ws, e, r, rs⟩ := h
    exact ⟨v, ws, e, .inl r, PReps.of rs⟩
/-- what is wanted at g is wanted at a later g' -/
theorem PostR.later {α β : Type} {R : G → α → β → Prop} {o : Out α} {Q : β → Hp → Prop} (x : Ext g g') (h : PostR c W g σ R o Q) : PostR c W g' σ R o Q := by
  cases o with
  | ok d s => exact fun g2 v x2 w2 r => h g2 v (x.trans x2) w2 r
  | exc y fs s => exact fun g2 dd vs x2 => h g2 dd vs (x.trans x2)
  | bad => exact h
theorem PostR.imp {α β : Type} {R R' : G → α → β → Prop} {o : Out α} {Q Q' : β → Hp → Prop} (h : PostR c W g σ R o Q) (hq : ∀ d s g' v, o = .ok d s → Ext g g' → Wf c g' s → R' g' d v → (R g' d v → Q v g'.H) → Q' v g'.H) : PostR c W g σ R' o Q' := by
  cases o with
  | ok d s => exact fun g2 v x2 w2 r => hq d s g2 v rfl x2 w2 r (h g2 v x2 w2)
  | exc y fs s => exact h
  | bad => exact h
/-- one outcome behind another -/
theorem PostR.bind {α β γ δ : Type} {R : G → α → β → Prop} {R' : G → γ → δ → Prop} {o : Out α} {k : α → Store → Out γ} {Q : δ → Hp → Prop} {S : β → Hp → Prop} (h : PostR c W g σ R' (o.bind k) Q)
    (hk : ∀ d s g1 v, Ext g g1 → Wf c g1 s → R g1 d v → PostR c W g σ R' (k d s) Q → S v g1.H) : PostR c W g σ R o S := by
  cases o with
  | ok d s => exact fun g2 v x2 w2 r => hk d s g2 v x2 w2 r h
  | exc y fs s => exact h
  | bad => exact h
theorem DE.dp {e : Expr} {f : ER} (h : DE c X W e f) : DP c X W e f := fun g env σ st Q w ev p => h g env σ st Q w ev (p.imp fun d s g' v _ _ _ r q => q (.inl r))
/-- frozen at once -/
theorem DF.de {e : Expr} {f : DEnv → Store → Out Cell} (h : DF c X W e f) : DE c X W e (fun env st => (f env st).bind fun cl s => .ok (cellD cl) s) := fun g env σ st Q w ev p => by
  refine h g env σ st Q w ev (PostR.bind p fun cl s g1 v x1 w1 r q => ?_)
  obtain ⟨a, rfl, n0, nF, na, r⟩ := r
  obtain ⟨u, hu⟩ := r.th
  exact q (g1.frz a) (.ref a) (x1.frz n0) (w1.frz (by rw [hu]; exact fun z => by cases z) na) r.frz
end
end DL
end
section
set_option Elab.async false
set_option linter.all false
set_option maxRecDepth 100000
set_option autoImplicit false
/-! DL: operators upon data -/
namespace DL
open PySem PySem.Spec L2
open PyProof.Rows hiding St

/-! ### what is read of a datum -/
def lstOf (st : Store) : D → Option (List D)
  | .lst ds => some ds
  | .cell i => match st[i]? with | some (.lst ds) => some ds | _ => none
  | _ => none
def tupOf : D → Option (List D)
  | .tup ds => some ds
  | _ => none
def dctOf (st : Store) : D → Option (List (Key × D))
  | .dct ks => some ks
  | .cell i => match st[i]? with | some (.dct ks) => some ks | some (.ldct ks) => some ks | _ => none
  | _ => none
def insOf (st : Store) : D → Option (Str × List (Str × D))
  | .obj c fs => some (c, fs)
  | .cell i => match st[i]? with | some (.ins c fs) => some (c, fs) | _ => none
  | _ => none
def keyOf : D → Option Key
  | .int i => some (.inl i)
  | .str x => some (.inr x)
  | _ => none
@[simp] theorem lstOf_lst (st : Store) (ds : List D) : lstOf st (.lst ds) = some ds := rfl
@[simp] theorem tupOf_tup (ds : List D) : tupOf (.tup ds) = some ds := rfl
@[simp] theorem dctOf_dct (st : Store) (ds : List (Key × D)) : dctOf st (.dct ds) = some ds := rfl
@[simp] theorem insOf_obj (st : Store) (x : Str) (ds : List (Str × D)) : insOf st (.obj x ds) = some (x, ds) := rfl
section
variable {c : Cst} {X : Cx} {g g' g1 : G} {st : Store} {d : D} {v : V}
theorem Reps.length : ∀ {ds : List D} {vs : List V}, Reps c g ds vs → vs.length = ds.length
  | [], _, h => by
    have e : _ = [] := h
    rw [e]; rfl
  | d :: ds, _, h => by
    obtain ⟨v, ws, e, _, rs⟩ := h
    rw [e, List.length_cons, List.length_cons, Reps.length rs]
theorem Reps.get : ∀ {ds : List D} {vs : List V} {i : Nat} {d : D}, Reps c g ds vs → ds[i]? = some d → ∃ v, vs[i]? = some v ∧ Rep c g d v
  | [], _, _, _, _, e => by simp at e
  | d :: ds, _, 0, d', h, e => by
    obtain ⟨v, ws, q, r, _⟩ := h
    have e : d = d' := by simpa using e
    subst e; subst q
    exact ⟨v, rfl, r⟩
  | d :: ds, _, i + 1, d', h, e => by
    obtain ⟨v, ws, q, _, rs⟩ := h
    subst q
    obtain ⟨v', e1, r1⟩ := Reps.get (i := i) rs (by simpa using e)
    exact ⟨v', by simpa using e1, r1⟩
theorem Reps.append : ∀ {ds es : List D} {vs ws : List V}, Reps c g ds vs → Reps c g es ws → Reps c g (ds ++ es) (vs ++ ws)
  | [], es, vs, ws, h, q => by
    have e : vs = [] := h
    rw [e]; exact q
  | d :: ds, es, _, ws, h, q => by
    obtain ⟨v, us, e, r, rs⟩ := h
    rw [e]
    exact ⟨v, us ++ ws, rfl, r, Reps.append rs q⟩
theorem Reps.drop : ∀ {ds : List D} {vs : List V} (n : Nat), Reps c g ds vs → Reps c g (ds.drop n) (vs.drop n)
  | _, _, 0, h => h
  | [], vs, n + 1, h => by
    have e : vs = [] := h
    rw [e]; exact rfl
  | d :: ds, _, n + 1, h => by
    obtain ⟨v, us, e, _, rs⟩ := h
    rw [e]
    exact Reps.drop n rs
theorem Reps.take : ∀ {ds : List D} {vs : List V} (n : Nat), Reps c g ds vs → Reps c g (ds.take n) (vs.take n)
  | _, _, 0, h => rfl
  | [], vs, n + 1, h => by
    have e : vs = [] := h
    rw [e]; exact rfl
  | d :: ds, _, n + 1, h => by
    obtain ⟨v, us, e, r, rs⟩ := h
    rw [e]
    exact ⟨v, _, rfl, r, Reps.take n rs⟩
theorem Reps.one {d : D} {v : V} (h : Rep c g d v) : Reps c g [d] [v] := ⟨v, [], rfl, h, rfl⟩
theorem lst_read (w : Wf c g st) (r : PRep c g d v) {ds : List D} (h : lstOf st d = some ds) : ∃ a vs, v = .ref a ∧ g.H a = some (.lst vs) ∧ Reps c g ds vs := by
  rcases r with r | ⟨cl, a, e, _, r, q⟩
  · cases d with
    | lst xs =>
      obtain ⟨a, vs, e, _, q, r⟩ := r
      cases h
      exact ⟨a, vs, e, q, r⟩
    | cell i =>
      obtain ⟨a, e, q⟩ := r
      cases hs : st[i]? with
      | none => simp [lstOf, hs] at h
      | some cl =>
        cases cl with
        | lst xs =>
          have h : some xs = some ds := by simpa [lstOf, hs] using h
          cases h
          obtain ⟨vs, e1, r1⟩ := w.cr i _ a hs q
          exact ⟨a, vs, e, e1, r1⟩
        | _ => simp [lstOf, hs] at h
    | _ => simp [lstOf] at h
  · subst q
    cases cl with
    | lst xs =>
      have h : some xs = some ds := h
      cases h
      obtain ⟨vs, e1, r1⟩ := r
      exact ⟨a, vs, e, e1, r1⟩
    | _ => simp [lstOf, cellD] at h
theorem tup_read (r : PRep c g d v) {ds : List D} (h : tupOf d = some ds) : ∃ a vs, v = .ref a ∧ g.H a = some (.tup vs) ∧ Reps c g ds vs := by
  rcases r with r | ⟨cl, a, e, _, r, q⟩
  · cases d with
    | tup xs =>
      obtain ⟨a, vs, e, _, q, r⟩ := r
      cases h
      exact ⟨a, vs, e, q, r⟩
    | _ => simp [tupOf] at h
  · subst q
    cases cl <;> simp [tupOf, cellD] at h
theorem dct_read (w : Wf c g st) (r : PRep c g d v) {ds : List (Key × D)} (h : dctOf st d = some ds) : ∃ a vs, v = .ref a ∧ Rd g.H a (.dK vs) ∧ RepK c g ds vs := by
  rcases r with r | ⟨cl, a, e, _, r, q⟩
  · cases d with
    | dct xs =>
      obtain ⟨a, vs, e, _, q, r⟩ := r
      cases h
      exact ⟨a, vs, e, q, r⟩
    | cell i =>
      obtain ⟨a, e, q⟩ := r
      cases hs : st[i]? with
      | none => simp [dctOf, hs] at h
      | some cl =>
        cases cl with
        | dct xs =>
          have h : some xs = some ds := by simpa [dctOf, hs] using h
          cases h
          obtain ⟨vs, e1, r1⟩ := w.cr i _ a hs q
          exact ⟨a, vs, e, .inl e1, r1⟩
        | ldct xs =>
          have h : some xs = some ds := by simpa [dctOf, hs] using h
          cases h
          obtain ⟨o, vs, e1, r1⟩ := w.cr i _ a hs q
          exact ⟨a, vs, e, .inr ⟨o, e1⟩, r1⟩
        | _ => simp [dctOf, hs] at h
    | _ => simp [dctOf] at h
  · subst q
    cases cl with
    | dct xs =>
      have h : some xs = some ds := h
      cases h
      obtain ⟨vs, e1, r1⟩ := r
      exact ⟨a, vs, e, .inl e1, r1⟩
    | ldct xs =>
      have h : some xs = some ds := h
      cases h
      obtain ⟨o, vs, e1, r1⟩ := r
      exact ⟨a, vs, e, .inr ⟨o, e1⟩, r1⟩
    | _ => simp [dctOf, cellD] at h
theorem ins_read (w : Wf c g st) (r : PRep c g d v) {cl : Str} {fs : List (Str × D)} (h : insOf st d = some (cl, fs)) : ∃ a dx vs, v = .ref a ∧ g.H a = some (.ins (c.ad cl) dx vs) ∧ RepF c g fs vs := by
  rcases r with r | ⟨o, a, e, _, r, q⟩
  · cases d with
    | obj x xs =>
      obtain ⟨a, dx, vs, e, _, q, r⟩ := r
      cases h
      exact ⟨a, dx, vs, e, q, r⟩
    | cell i =>
      obtain ⟨a, e, q⟩ := r
      cases hs : st[i]? with
      | none => simp [insOf, hs] at h
      | some o =>
        cases o with
        | ins x xs =>
          have h : some (x, xs) = some (cl, fs) := by simpa [insOf, hs] using h
          cases h
          obtain ⟨dx, vs, e1, r1⟩ := w.cr i _ a hs q
          exact ⟨a, dx, vs, e, e1, r1⟩
        | _ => simp [insOf, hs] at h
    | _ => simp [insOf] at h
  · subst q
    cases o with
    | ins x xs =>
      have h : some (x, xs) = some (cl, fs) := h
      cases h
      obtain ⟨dx, vs, e1, r1⟩ := r
      exact ⟨a, dx, vs, e, e1, r1⟩
    | _ => simp [insOf, cellD] at h
/-- what is no thing of its own is read as it is -/
theorem pr_int (r : PRep c g d v) {i : Int} (h : d = .int i) : v = .int i := by
  subst h
  rcases r with r | ⟨cl, _, _, _, _, q⟩
  · exact r
  · cases cl <;> cases q
theorem pr_str (r : PRep c g d v) {x : Str} (h : d = .str x) : v = .str x := by
  subst h
  rcases r with r | ⟨cl, _, _, _, _, q⟩
  · exact r
  · cases cl <;> cases q
theorem pr_bl (r : PRep c g d v) {x : Bool} (h : d = .bl x) : v = .bl x := by
  subst h
  rcases r with r | ⟨cl, _, _, _, _, q⟩
  · exact r
  · cases cl <;> cases q
theorem pr_non (r : PRep c g d v) (h : d = .non) : v = .non := by
  subst h
  rcases r with r | ⟨cl, _, _, _, _, q⟩
  · exact r
  · cases cl <;> cases q
theorem key_read (r : PRep c g d v) {k : Key} (h : keyOf d = some k) : v = kV k := by
  cases d with
  | int i => cases h; exact pr_int r rfl
  | str x => cases h; exact pr_str r rfl
  | _ => cases h
/-- the script, a list, a tuple: what is read by place -/
def seqOf (st : Store) : D → Option (List D)
  | .tup ds => some ds
  | .scr ns => some (ns.map D.int)
  | d => lstOf st d
@[simp] theorem seqOf_lst (st : Store) (ds : List D) : seqOf st (.lst ds) = some ds := rfl
@[simp] theorem seqOf_tup (st : Store) (ds : List D) : seqOf st (.tup ds) = some ds := rfl
@[simp] theorem seqOf_scr (st : Store) (ns : List Int) : seqOf st (.scr ns) = some (ns.map D.int) := rfl
theorem reps_ints : ∀ ns : List Int, Reps c g (ns.map D.int) (ns.map V.int)
  | [] => rfl
  | n :: ns => ⟨.int n, _, rfl, rfl, reps_ints ns⟩
theorem seq_read (w : Wf c g st) (r : PRep c g d v) {ds : List D} (h : seqOf st d = some ds) : ∃ a vs, v = .ref a ∧ (SqL c.K g.H a vs ∨ SqT c.K g.H a vs) ∧ Reps c g ds vs := by
  have go : lstOf st d = some ds → ∃ a vs, v = .ref a ∧ (SqL c.K g.H a vs ∨ SqT c.K g.H a vs) ∧ Reps c g ds vs := fun h => by
    obtain ⟨a, vs, e, q, r⟩ := lst_read w r h
    exact ⟨a, vs, e, .inl (SqL.of q), r⟩
  cases d with
  | tup xs =>
    obtain ⟨a, vs, e, q, r⟩ := tup_read r (ds := ds) h
    exact ⟨a, vs, e, .inr (SqT.of q), r⟩
  | scr ns =>
    cases h
    rcases r with r | ⟨cl, _, _, _, _, q⟩
    · obtain ⟨a, e, q⟩ := r
      exact ⟨a, _, e, .inl (q.imp (fun q => q.2) id), reps_ints ns⟩
    · cases cl <;> cases q
  | _ => exact go h
end

/-! ### two-place operators -/
abbrev Op2 := Store → D → D → Option D
/-- r serves F -/
def ROk (c : Cst) (r : R2) (F : Op2) : Prop := ∀ g st dx dy x y d (Q : VK), Wf c g st → PRep c g dx x → PRep c g dy y → F st dx dy = some d →
  (∀ g' v, Ext g g' → Wf c g' st → Rep c g' d v → Q v g'.H) → r x y g.H Q
def catD (st : Store) (x y : D) : Option D := match lstOf st x, lstOf st y with
  | some xs, some ys => if xs.length + ys.length ≤ sizeLine then some (.lst (xs ++ ys)) else none
  | _, _ => none
def addD : Op2 := fun st x y => match x, y with
  | .int i, .int j => some (.int (i + j))
  | .str a, .str b => if a.length + b.length ≤ sizeLine then some (.str (a ++ b)) else none
  | .tup xs, .tup ys => if xs.length + ys.length ≤ sizeLine then some (.tup (xs ++ ys)) else none
  | x, y => catD st x y
def rAddD (K : PySem.W.Frag) : R2 := fun x y H Q => (∃ i j, x = .int i ∧ y = .int j ∧ Q (.int (i + j)) H) ∨ (∃ i j, x = .str i ∧ y = .str j ∧ i.length + j.length ≤ sizeLine ∧ Q (.str (i ++ j)) H) ∨ rCatA K x y H Q ∨ rCat x y H Q
theorem op_addD {X : Cx} : OpR X (binaryOp .Add) (rAddD X.K) := OpR.or op_add (OpR.or op_add_str (OpR.or op_catA op_cat))
section
variable {c : Cst} {g : G} {st : Store}
theorem catD_some {x y d : D} (h : catD st x y = some d) : ∃ xs ys, lstOf st x = some xs ∧ lstOf st y = some ys ∧ xs.length + ys.length ≤ sizeLine ∧ d = .lst (xs ++ ys) := by
  unfold catD at h
  split at h
  · rename_i xs ys e1 e2
    split at h
    · cases h
      exact ⟨xs, ys, e1, e2, by assumption, rfl⟩
    · cases h
  · cases h
theorem rok_add : ROk c (rAddD c.K) addD := by
  intro g st dx dy x y d Q w rx ry h k
  have cat : catD st dx dy = some d → rAddD c.K x y g.H Q := fun h => by
    obtain ⟨xs, ys, e1, e2, hl, rfl⟩ := catD_some h
    obtain ⟨a, vs, rfl, qa, ra⟩ := lst_read w rx e1
    obtain ⟨b, ws, rfl, qb, rb⟩ := lst_read w ry e2
    refine .inr (.inr (.inr ⟨a, b, vs, ws, rfl, rfl, qa, qb, by rw [ra.length, rb.length]; exact hl, fun p hp => ?_⟩))
    obtain ⟨x1, w1⟩ := new_frz (o := .lst (vs ++ ws)) w hp
    exact k _ (.ref p) x1 w1 ⟨p, _, rfl, .inr rfl, upd_same, (ra.append rb).le (le_new w hp)⟩
  have addD_def : addD st dx dy = some d := h
  cases dx with
  | int i =>
    cases dy with
    | int j =>
      cases h
      exact .inl ⟨i, j, pr_int rx rfl, pr_int ry rfl, k g _ (Ext.refl g) w rfl⟩
    | _ => exact cat h
  | str i =>
    cases dy with
    | str j =>
      have h : (if i.length + j.length ≤ sizeLine then some (D.str (i ++ j)) else none) = some d := h
      split at h
      · cases h
        exact .inr (.inl ⟨i, j, pr_str rx rfl, pr_str ry rfl, by assumption, k g _ (Ext.refl g) w rfl⟩)
      · cases h
    | _ => exact cat h
  | tup xs =>
    cases dy with
    | tup ys =>
      have h : (if xs.length + ys.length ≤ sizeLine then some (D.tup (xs ++ ys)) else none) = some d := h
      split at h
      · rename_i hl
        cases h
        obtain ⟨a, vs, rfl, qa, ra⟩ := tup_read rx (ds := xs) rfl
        obtain ⟨b, ws, rfl, qb, rb⟩ := tup_read ry (ds := ys) rfl
        have fa : Rep c g (.tup xs) (.ref a) := by
          rcases rx with rx | ⟨cl, _, _, _, _, q⟩
          · exact rx
          · cases cl <;> cases q
        have fb : Rep c g (.tup ys) (.ref b) := by
          rcases ry with ry | ⟨cl, _, _, _, _, q⟩
          · exact ry
          · cases cl <;> cases q
        refine .inr (.inr (.inl ⟨a, b, vs, ws, rfl, rfl, SqT.of qa, SqT.of qb, by rw [ra.length, rb.length]; exact hl, fun e => ?_, fun _ e => ?_, fun _ _ p hp => ?_⟩))
        · have e1 : xs = [] := List.eq_nil_of_length_eq_zero (by rw [← ra.length, e]; rfl)
          subst e1
          exact k g _ (Ext.refl g) w (by simpa using fb)
        · have e1 : ys = [] := List.eq_nil_of_length_eq_zero (by rw [← rb.length, e]; rfl)
          subst e1
          exact k g _ (Ext.refl g) w (by simpa using fa)
        · obtain ⟨x1, w1⟩ := new_frz (o := .tup (vs ++ ws)) w hp
          exact k _ (.ref p) x1 w1 ⟨p, _, rfl, .inr rfl, upd_same, (ra.append rb).le (le_new w hp)⟩
      · cases h
    | _ => exact cat h
  | _ => exact cat h
/-- two ints -/
def intD (C : Int → Int → Bool) (f : Int → Int → D) : Op2 := fun _ x y => match x, y with
  | .int i, .int j => if C i j = true then some (f i j) else none
  | _, _ => none
theorem intD_some {C : Int → Int → Bool} {f : Int → Int → D} {x y d : D} (h : intD C f st x y = some d) : ∃ i j, x = .int i ∧ y = .int j ∧ C i j = true ∧ d = f i j := by
  unfold intD at h
  split at h
  · split at h
    · cases h
      exact ⟨_, _, rfl, rfl, by assumption, rfl⟩
    · cases h
  · cases h
theorem rok_int {C : Int → Int → Bool} {P : Int → Int → Prop} {f : Int → Int → V} {fd : Int → Int → D} (hc : ∀ i j, C i j = true → P i j) (hf : ∀ i j (g : G), Rep c g (fd i j) (f i j)) : ROk c (rI P f) (intD C fd) := by
  intro g st dx dy x y d Q w rx ry h k
  obtain ⟨i, j, rfl, rfl, e, rfl⟩ := intD_some h
  exact ⟨i, j, pr_int rx rfl, pr_int ry rfl, hc i j e, k g _ (Ext.refl g) w (hf i j g)⟩
theorem rok_int0 {f : Int → Int → V} {fd : Int → Int → D} (hf : ∀ i j (g : G), Rep c g (fd i j) (f i j)) : ROk c (rI0 f) (intD (fun _ _ => true) fd) := by
  intro g st dx dy x y d Q w rx ry h k
  obtain ⟨i, j, rfl, rfl, e, rfl⟩ := intD_some h
  exact ⟨i, j, pr_int rx rfl, pr_int ry rfl, k g _ (Ext.refl g) w (hf i j g)⟩
abbrev subD : Op2 := intD (fun _ _ => true) fun i j => .int (i - j)
theorem rok_sub : ROk c (rI0 fun i j => .int (i - j)) subD := rok_int0 fun _ _ _ => rfl
abbrev mulD : Op2 := intD (fun i j => (decide (-(2 ^ 64) < i) && decide (i < 2 ^ 64)) || (decide (-(2 ^ 64) < j) && decide (j < 2 ^ 64))) fun i j => .int (i * j)
theorem rok_mul : ROk c (rI CMul fun i j => .int (i * j)) mulD := rok_int (fun i j h => by simpa [CMul] using h) fun _ _ _ => rfl
abbrev divD : Op2 := intD (fun _ j => decide (0 < j) && decide (j < 1073741824)) fun i j => .int (i / j)
theorem rok_div : ROk c (rI CDiv fun i j => .int (i / j)) divD := rok_int (fun i j h => by simpa [CDiv] using h) fun _ _ _ => rfl
abbrev modD : Op2 := intD (fun _ j => decide (0 < j)) fun i j => .int (i % j)
theorem rok_mod : ROk c (rI (fun _ j => 0 < j) fun i j => .int (i % j)) modD := rok_int (fun i j h => by simpa using h) fun _ _ _ => rfl
abbrev powD : Op2 := intD (fun i j => decide (0 ≤ j) && decide (j ≤ 1000000) && decide (i.natAbs < 2 ^ 64)) fun i j => .int (i ^ j.toNat)
theorem rok_pow : ROk c (rI CPow fun i j => .int (i ^ j.toNat)) powD := rok_int (fun i j h => by simpa [CPow, and_assoc] using h) fun _ _ _ => rfl
end
def binD (op : Operator) : Op2 := match op with
  | .Add => addD | .Sub => subD | .Mult => mulD | .FloorDiv => divD | .Mod => modD | .Pow => powD
  | _ => fun _ _ _ => none
/-- the rule for the operator -/
def rBin (K : PySem.W.Frag) (op : Operator) : R2 := match op with
  | .Add => rAddD K | .Sub => rI0 fun i j => .int (i - j) | .Mult => rI CMul fun i j => .int (i * j) | .FloorDiv => rI CDiv fun i j => .int (i / j)
  | .Mod => rI (fun _ j => 0 < j) fun i j => .int (i % j) | .Pow => rI CPow fun i j => .int (i ^ j.toNat)
  | _ => fun _ _ _ _ => False
theorem op_bin {X : Cx} {op : Operator} : OpR X (binaryOp op) (rBin X.K op) := by
  cases op with
  | Add => exact op_addD
  | Sub => exact op_sub
  | Mult => exact op_mul
  | FloorDiv => exact op_fdiv
  | Mod => exact op_mod
  | Pow => exact op_pow
  | _ => exact fun _ _ _ _ _ _ _ _ _ _ _ _ h => h.elim
theorem rok_bin {c : Cst} {op : Operator} : ROk c (rBin c.K op) (binD op) := by
  cases op with
  | Add => exact rok_add
  | Sub => exact rok_sub
  | Mult => exact rok_mul
  | FloorDiv => exact rok_div
  | Mod => exact rok_mod
  | Pow => exact rok_pow
  | _ => intro g st dx dy x y d Q w rx ry h; cases h
end DL
end
section
set_option Elab.async false
set_option linter.all false
set_option maxRecDepth 100000
set_option autoImplicit false
/-! DL: equality of data -/
namespace DL
open PySem PySem.Spec L2
open PyProof.Rows hiding St

/-! ### equality of data -/
mutual
def D.beq : D → D → Bool
  | .non => fun b => match b with | .non => true | _ => false
  | .bl a => fun b => match b with | .bl b => a == b | _ => false
  | .int a => fun b => match b with | .int b => decide (a = b) | _ => false
  | .str a => fun b => match b with | .str b => decide (a = b) | _ => false
  | .ty a => fun b => match b with | .ty b => decide (a = b) | _ => false
  | .ob a => fun b => match b with | .ob b => decide (a = b) | _ => false
  | .lst a => fun b => match b with | .lst b => D.beqs a b | _ => false
  | .tup a => fun b => match b with | .tup b => D.beqs a b | _ => false
  | .dct a => fun b => match b with | .dct b => D.beqK a b | _ => false
  | .obj a x => fun b => match b with | .obj b y => decide (a = b) && D.beqF x y | _ => false
  | .cell a => fun b => match b with | .cell b => decide (a = b) | _ => false
  | .scr a => fun b => match b with | .scr b => decide (a = b) | _ => false
def D.beqs : List D → List D → Bool
  | [] => fun b => match b with | [] => true | _ => false
  | a :: as => fun b => match b with | b :: bs => D.beq a b && D.beqs as bs | _ => false
def D.beqK : List (Key × D) → List (Key × D) → Bool
  | [] => fun b => match b with | [] => true | _ => false
  | (k, a) :: as => fun b => match b with | (j, b) :: bs => decide (k = j) && (D.beq a b && D.beqK as bs) | _ => false
def D.beqF : List (Str × D) → List (Str × D) → Bool
  | [] => fun b => match b with | [] => true | _ => false
  | (k, a) :: as => fun b => match b with | (j, b) :: bs => decide (k = j) && (D.beq a b && D.beqF as bs) | _ => false
end
mutual
theorem D.beq_eq : ∀ (a b : D), D.beq a b = true → a = b
  | .non, b, h => by cases b <;> first | rfl | cases h
  | .bl a, b, h => by
    cases b with
    | bl b => rw [eq_of_beq (show (a == b) = true from h)]
    | _ => cases h
  | .int a, b, h => by
    cases b with
    | int b => rw [of_decide_eq_true (show decide (a = b) = true from h)]
    | _ => cases h
  | .str a, b, h => by
    cases b with
    | str b => rw [of_decide_eq_true (show decide (a = b) = true from h)]
    | _ => cases h
  | .ty a, b, h => by
    cases b with
    | ty b => rw [of_decide_eq_true (show decide (a = b) = true from h)]
    | _ => cases h
  | .ob a, b, h => by
    cases b with
    | ob b => rw [of_decide_eq_true (show decide (a = b) = true from h)]
    | _ => cases h
  | .lst a, b, h => by
    cases b with
    | lst b => rw [D.beqs_eq a b h]
    | _ => cases h
  | .tup a, b, h => by
    cases b with
    | tup b => rw [D.beqs_eq a b h]
    | _ => cases h
  | .dct a, b, h => by
    cases b with
    | dct b => rw [D.beqK_eq a b h]
    | _ => cases h
  | .obj a x, b, h => by
    cases b with
    | obj b y =>
      have h : (decide (a = b) && D.beqF x y) = true := h
      rw [Bool.and_eq_true] at h
      rw [of_decide_eq_true h.1, D.beqF_eq x y h.2]
    | _ => cases h
  | .cell a, b, h => by
    cases b with
    | cell b => rw [of_decide_eq_true (show decide (a = b) = true from h)]
    | _ => cases h
  | .scr a, b, h => by
    cases b with
    | scr b => rw [of_decide_eq_true (show decide (a = b) = true from h)]
    | _ => cases h
theorem D.beqs_eq : ∀ (a b : List D), D.beqs a b = true → a = b
  | [], b, h => by cases b <;> first | rfl | cases h
  | a :: as, b, h => by
    cases b with
    | nil => cases h
    | cons b bs =>
      have h : (D.beq a b && D.beqs as bs) = true := h
      rw [Bool.and_eq_true] at h
      rw [D.beq_eq a b h.1, D.beqs_eq as bs h.2]
theorem D.beqK_eq : ∀ (a b : List (Key × D)), D.beqK a b = true → a = b
  | [], b, h => by cases b <;> first | rfl | cases h
  | (k, a) :: as, b, h => by
    cases b with
    | nil => cases h
    | cons b bs =>
      obtain ⟨j, b⟩ := b
      have h : (decide (k = j) && (D.beq a b && D.beqK as bs)) = true := h
      rw [Bool.and_eq_true, Bool.and_eq_true] at h
      rw [of_decide_eq_true h.1, D.beq_eq a b h.2.1, D.beqK_eq as bs h.2.2]
theorem D.beqF_eq : ∀ (a b : List (Str × D)), D.beqF a b = true → a = b
  | [], b, h => by cases b <;> first | rfl | cases h
  | (k, a) :: as, b, h => by
    cases b with
    | nil => cases h
    | cons b bs =>
      obtain ⟨j, b⟩ := b
      have h : (decide (k = j) && (D.beq a b && D.beqF as bs)) = true := h
      rw [Bool.and_eq_true, Bool.and_eq_true] at h
      rw [of_decide_eq_true h.1, D.beq_eq a b h.2.1, D.beqF_eq as bs h.2.2]
end
mutual
theorem D.beq_refl : ∀ a : D, D.beq a a = true
  | .non => rfl
  | .bl a => beq_self_eq_true a
  | .int a => decide_eq_true rfl
  | .str a => decide_eq_true rfl
  | .ty a => decide_eq_true rfl
  | .ob a => decide_eq_true rfl
  | .lst a => D.beqs_refl a
  | .tup a => D.beqs_refl a
  | .dct a => D.beqK_refl a
  | .obj a x => by
    show (decide (a = a) && D.beqF x x) = true
    rw [D.beqF_refl x, decide_eq_true rfl]; rfl
  | .cell a => decide_eq_true rfl
  | .scr a => decide_eq_true rfl
theorem D.beqs_refl : ∀ a : List D, D.beqs a a = true
  | [] => rfl
  | a :: as => by
    show (D.beq a a && D.beqs as as) = true
    rw [D.beq_refl a, D.beqs_refl as]; rfl
theorem D.beqK_refl : ∀ a : List (Key × D), D.beqK a a = true
  | [] => rfl
  | (k, a) :: as => by
    show (decide (k = k) && (D.beq a a && D.beqK as as)) = true
    rw [D.beq_refl a, D.beqK_refl as, decide_eq_true rfl]; rfl
theorem D.beqF_refl : ∀ a : List (Str × D), D.beqF a a = true
  | [] => rfl
  | (k, a) :: as => by
    show (decide (k = k) && (D.beq a a && D.beqF as as)) = true
    rw [D.beq_refl a, D.beqF_refl as, decide_eq_true rfl]; rfl
end
end DL
end
section
set_option Elab.async false
set_option linter.all false
set_option maxRecDepth 100000
set_option autoImplicit false
/-! DL: comparisons, subscripts, truth -/
namespace DL
open PySem PySem.Spec L2
open PyProof.Rows hiding St

/-! ### equality -/
mutual
def pyOf : D → Option PyData
  | .non => some .none
  | .bl b => some (.bool b)
  | .int i => some (.int i)
  | .str x => some (.str x)
  | .lst ds => (pyAll ds).map .list
  | .tup ds => (pyAll ds).map .tuple
  | .ty _ => none | .ob _ => none | .dct _ => none | .obj _ _ => none | .cell _ => none | .scr _ => none
def pyAll : List D → Option (List PyData)
  | [] => some []
  | d :: ds => match pyOf d, pyAll ds with | some p, some ps => some (p :: ps) | _, _ => none
end
def deref (st : Store) : D → D
  | .cell i => match st[i]? with | some (.lst ds) => .lst ds | _ => .cell i
  | d => d
def deepEq (st : Store) (x y : D) : Option D := match pyOf (deref st x), pyOf (deref st y) with
  | some p, some q => if SeqAt.shaped p = true ∧ SeqAt.shaped q = true then some (.bl (PyData.eqv p q)) else none
  | _, _ => none
/-- plain data without dicts, flat enough -/
def shB (d : D) : Bool := match pyOf d with
  | some p => SeqAt.shaped p && decide (p.depth ≤ 60)
  | none => false
def itB : D → Bool
  | .dct ks => decide (ks.map (·.1)).Nodup && ks.all fun kv => shB kv.2
  | d => shB d
/-- two equal tuples of plain data and of dicts of plain data -/
def eqT : D → D → Option D
  | .tup xs, .tup ys => if D.beqs xs ys = true ∧ xs.all itB = true then some (.bl true) else none
  | _, _ => none
def eqD0 : Op2 := fun st x y => match x, y with
  | .str a, .str b => some (.bl (decide (a = b)))
  | .int a, .int b => some (.bl (decide (a = b)))
  | .bl a, .bl b => some (.bl (decide (a = b)))
  | .non, .non => some (.bl true)
  | .non, .str _ => some (.bl false) | .str _, .non => some (.bl false) | .non, .int _ => some (.bl false) | .int _, .non => some (.bl false)
  | .int _, .str _ => some (.bl false) | .str _, .int _ => some (.bl false)
  | x, y => deepEq st x y
def notD : Option D → Option D
  | some (.bl b) => some (.bl (!b))
  | _ => none
def eqD : Op2 := fun st x y => match eqD0 st x y with
  | some d => some d
  | none => eqT x y
def neD : Op2 := fun st x y => notD (eqD0 st x y)
section
variable {c : Cst} {X : Cx} {g : G} {st : Store} {d dx dy : D} {x y v : V}
mutual
theorem py_dp : ∀ (d : D) (v : V) (p : PyData), Rep c g d v → pyOf d = some p → Dp c.K g.H v p
  | .non, v, p, r, h => by
    have e : v = .non := r
    cases h; subst e; exact .non
  | .bl b, v, p, r, h => by
    have e : v = .bl b := r
    cases h; subst e; exact .bl b
  | .int b, v, p, r, h => by
    have e : v = .int b := r
    cases h; subst e; exact .int b
  | .str b, v, p, r, h => by
    have e : v = .str b := r
    cases h; subst e; exact .str b
  | .lst ds, v, p, r, h => by
    obtain ⟨a, vs, e, _, q, rs⟩ := r
    have h : (pyAll ds).map PyData.list = some p := h
    cases hp : pyAll ds with
    | none => rw [hp] at h; cases h
    | some ps =>
      rw [hp] at h; cases h; subst e
      exact .lst (SqL.of q) (py_dps ds vs ps rs hp)
  | .tup ds, v, p, r, h => by
    obtain ⟨a, vs, e, _, q, rs⟩ := r
    have h : (pyAll ds).map PyData.tuple = some p := h
    cases hp : pyAll ds with
    | none => rw [hp] at h; cases h
    | some ps =>
      rw [hp] at h; cases h; subst e
      exact .tup (SqT.of q) (py_dps ds vs ps rs hp)
  | .ty _, _, _, _, h => by cases h
  | .ob _, _, _, _, h => by cases h
  | .dct _, _, _, _, h => by cases h
  | .obj _ _, _, _, _, h => by cases h
  | .cell _, _, _, _, h => by cases h
  | .scr _, _, _, _, h => by cases h
theorem py_dps : ∀ (ds : List D) (vs : List V) (ps : List PyData), Reps c g ds vs → pyAll ds = some ps → DpAll c.K g.H vs ps
  | [], vs, ps, r, h => by
    have e : vs = [] := r
    have h : some [] = some ps := h
    cases h; subst e; exact .nil
  | d :: ds, vs, ps, r, h => by
    obtain ⟨v, ws, e, r, rs⟩ := r
    unfold pyAll at h
    split at h
    · rename_i p ps' e1 e2
      cases h; subst e
      exact .cons (py_dp d v p r e1) (py_dps ds ws ps' rs e2)
    · cases h
end
theorem py_read (w : Wf c g st) (r : PRep c g d v) {p : PyData} (h : pyOf (deref st d) = some p) : Dp c.K g.H v p := by
  have viaL : ∀ ds, lstOf st d = some ds → deref st d = .lst ds → Dp c.K g.H v p := fun ds h1 h2 => by
    obtain ⟨a, vs, rfl, q, rs⟩ := lst_read w r h1
    rw [h2] at h
    have h : (pyAll ds).map PyData.list = some p := h
    cases hp : pyAll ds with
    | none => rw [hp] at h; cases h
    | some ps =>
      rw [hp] at h; cases h
      exact .lst (SqL.of q) (py_dps ds vs ps rs hp)
  cases d with
  | lst ds => exact viaL ds rfl rfl
  | cell i =>
    cases hs : st[i]? with
    | none => simp [deref, hs, pyOf] at h
    | some cl =>
      cases cl with
      | lst ds => exact viaL ds (by simp [lstOf, hs]) (by simp [deref, hs])
      | _ => simp [deref, hs, pyOf] at h
  | _ =>
    rcases r with r | ⟨cl, _, _, _, _, q⟩
    · exact py_dp _ v p r h
    · cases cl <;> cases q <;> cases h
theorem deep_some {z : D} (h : deepEq st dx dy = some z) : ∃ p q, pyOf (deref st dx) = some p ∧ pyOf (deref st dy) = some q ∧ SeqAt.shaped p = true ∧ SeqAt.shaped q = true ∧ z = .bl (PyData.eqv p q) := by
  unfold deepEq at h
  split at h
  · rename_i p q e1 e2
    split at h
    · rename_i hh
      cases h
      exact ⟨p, q, e1, e2, hh.1, hh.2, rfl⟩
    · cases h
  · cases h
/-! tuples of plain data and dicts -/
def DShp (K : PySem.W.Frag) (H : Hp) (x y : V) : Prop := ∃ p, Dp K H x p ∧ Dp K H y p ∧ SeqAt.shaped p = true ∧ p.depth ≤ 60
def DDct (K : PySem.W.Frag) (H : Hp) (x y : V) : Prop := ∃ a b ks ls, x = .ref a ∧ y = .ref b ∧ Rd H a (.dK ks) ∧ Rd H b (.dK ls) ∧ ks.length = ls.length ∧ ∀ q ∈ ks, ∃ u, valV ls q.1 = some u ∧ DShp K H q.2 u
theorem shp_run {pins : List (Addr × Obj)} {σ : St} {H : Hp} {s : Shared} (I : Inv X pins σ H s) {A : Around} (hu : A.units + 60 < cLine) {x y : V} {v u : Value} (rx : RelV x v) (ry : RelV y u) (h : DShp X.K H x y) : SeqAt.EqP X.prog X.w A s v u true := by
  obtain ⟨p, d1, d2, sh, dp⟩ := h
  obtain ⟨as, r1⟩ := Dp.reads I p x v d1 rx
  obtain ⟨bs, r2⟩ := Dp.reads I p y u d2 ry
  have c := SeqAt.canLay_of_shaped sh
  have e := SeqAt.eqAt_reads p p A s v u as bs r1 r2 c c (by omega)
  rw [SeqAt.eqv_refl p c] at e
  exact e.eqP
theorem dct_run {pins : List (Addr × Obj)} {σ : St} {H : Hp} {s : Shared} (I : Inv X pins σ H s) {A : Around} (hu : A.units + 61 < cLine) {x y : V} {v u : Value} (rx : RelV x v) (ry : RelV y u) (h : DDct X.K H x y) : SeqAt.EqP X.prog X.w A s v u true := by
  obtain ⟨a, b, ks, ls, rfl, rfl, ha, hb, hl, hp⟩ := h
  cases rx
  cases ry
  by_cases e : a = b
  · subst e
    exact (SeqAt.EqAt.same _).eqP
  · refine SeqAt.eqP_refs e fun E Q q => ?_
    obtain ⟨_, ya, va, ra, da⟩ := (show ObjOk X.prog X.w H s.heap a (.dK ks) from ha.ok I.hok)
    obtain ⟨_, yb, vb, rb, db⟩ := (show ObjOk X.prog X.w H s.heap b (.dK ls) from hb.ok I.hok)
    have hits : PySem.W.KeqHitsP X.prog X.w A.in1 s vb va true := hits_run (F := DShp X.K H) (fun x y v u h rx ry => shp_run I (A := A.in1) (by show A.units + 1 + 60 < cLine; omega) rx ry h) rb ra hp
    refine PySem.W.rcP_dicts (knd := mixKind X.prog X.w) (r := true) ya yb da db (by omega) (fun _ => hits) E Q ?_
    have e : va.length = vb.length := by rw [← ra.length, ← rb.length]; exact hl
    rw [show (va.length == vb.length && true) = true from by rw [e]; simp]
    exact q
def rEqT (K : PySem.W.Frag) : R2 := fun x y H Q => ∃ a b xs ys, x = .ref a ∧ y = .ref b ∧ SqT K H a xs ∧ SqT K H b ys ∧ Paired (fun x y => DShp K H x y ∨ DDct K H x y) xs ys ∧ Q (.bl true) H
theorem op_eqT (hu : X.A.units + 64 < cLine) : OpR X (compareOp .Eq) (rEqT X.K) := by
  intro pins s σ H x y v u Q I rx ry h
  obtain ⟨a, b, xs, ys, rfl, rfl, ha, hb, hp, q⟩ := h
  cases rx
  cases ry
  show wpAny (model X.prog X.w) X.A (richCompare .Eq (.ref a) (.ref b)) (EP X pins σ Q) X.xe s
  obtain ⟨its, r, e, z⟩ := I.tuple ha
  obtain ⟨its2, r2, e2, z2⟩ := I.tuple hb
  have hl := Paired.length hp
  have hsz : its.toArray.size = its2.toArray.size := by rw [List.size_toArray, List.size_toArray, ← r.length, ← r2.length]; exact hl
  have ih : ∀ j (h1 : j < its.length) (h2 : j < its2.length), SeqAt.EqP X.prog X.w X.A.in1 s its[j] its2[j] true := items_run (F := fun x y => DShp X.K H x y ∨ DDct X.K H x y) (fun x y v u h rx ry => by
    rcases h with h | h
    · exact shp_run I (by show X.A.units + 1 + 60 < cLine; omega) rx ry h
    · exact dct_run I (by show X.A.units + 1 + 61 < cLine; omega) rx ry h) hp r r2
  refine GQ.rc_tupG hsz (by omega) (fun _ s' => s' = s) e e2 (fun i h1 h2 s' q' => ?_) (fun s' q' => ?_) rfl
  · subst q'
    have k := ih i (by simpa using h1) (by simpa using h2)
    have k2 : SeqAt.EqP X.prog X.w X.A.in1 s' its.toArray[i] its2.toArray[i] true := by simpa using k
    exact k2 _ _ ⟨rfl, rfl⟩
  · subst q'
    exact ⟨.bl true, H, I, rfl, q⟩
def rEqA (K : PySem.W.Frag) : R2 := fun x y H Q => (rEq x y H Q ∨ rEqD K x y H Q) ∨ rEqT K x y H Q
def rNeA (K : PySem.W.Frag) : R2 := fun x y H Q => rNe x y H Q ∨ rNeD K x y H Q
theorem op_eqA (hu : X.A.units + 64 < cLine) : OpR X (compareOp .Eq) (rEqA X.K) := OpR.or (OpR.or op_eq (op_eqD hu)) (op_eqT hu)
theorem op_neA (hu : X.A.units + 64 < cLine) : OpR X (compareOp .NotEq) (rNeA X.K) := OpR.or op_ne (op_neD hu)
/-- what the answer of == leans on -/
theorem eqD_cases {z : D} (w : Wf c g st) (rx : PRep c g dx x) (ry : PRep c g dy y) (h : eqD0 st dx dy = some z) :
    ∃ b, z = .bl b ∧ ((scal x y = true ∧ b = decide (x = y)) ∨ ∃ p q, Dp c.K g.H x p ∧ Dp c.K g.H y q ∧ SeqAt.shaped p = true ∧ SeqAt.shaped q = true ∧ b = PyData.eqv p q) := by
  have deep : deepEq st dx dy = some z → ∃ b, z = .bl b ∧ ((scal x y = true ∧ b = decide (x = y)) ∨ ∃ p q, Dp c.K g.H x p ∧ Dp c.K g.H y q ∧ SeqAt.shaped p = true ∧ SeqAt.shaped q = true ∧ b = PyData.eqv p q) := fun h => by
    obtain ⟨p, q, e1, e2, s1, s2, rfl⟩ := deep_some h
    exact ⟨_, rfl, .inr ⟨p, q, py_read w rx e1, py_read w ry e2, s1, s2, rfl⟩⟩
  unfold eqD0 at h
  split at h <;> first
    | (cases h; rw [pr_str rx rfl, pr_str ry rfl]; exact ⟨_, rfl, .inl ⟨rfl, by simp⟩⟩)
    | (cases h; rw [pr_int rx rfl, pr_int ry rfl]; exact ⟨_, rfl, .inl ⟨rfl, by simp⟩⟩)
    | (cases h; rw [pr_bl rx rfl, pr_bl ry rfl]; exact ⟨_, rfl, .inl ⟨rfl, by simp⟩⟩)
    | (cases h; rw [pr_non rx rfl, pr_non ry rfl]; exact ⟨_, rfl, .inl ⟨rfl, by simp⟩⟩)
    | (cases h; rw [pr_non rx rfl, pr_str ry rfl]; exact ⟨_, rfl, .inl ⟨rfl, by simp⟩⟩)
    | (cases h; rw [pr_str rx rfl, pr_non ry rfl]; exact ⟨_, rfl, .inl ⟨rfl, by simp⟩⟩)
    | (cases h; rw [pr_non rx rfl, pr_int ry rfl]; exact ⟨_, rfl, .inl ⟨rfl, by simp⟩⟩)
    | (cases h; rw [pr_int rx rfl, pr_non ry rfl]; exact ⟨_, rfl, .inl ⟨rfl, by simp⟩⟩)
    | (cases h; rw [pr_int rx rfl, pr_str ry rfl]; exact ⟨_, rfl, .inl ⟨rfl, by simp⟩⟩)
    | (cases h; rw [pr_str rx rfl, pr_int ry rfl]; exact ⟨_, rfl, .inl ⟨rfl, by simp⟩⟩)
    | exact deep h
theorem sh_read {d : D} {v : V} (r : Rep c g d v) (h : shB d = true) : ∃ p, pyOf d = some p ∧ Dp c.K g.H v p ∧ SeqAt.shaped p = true ∧ p.depth ≤ 60 := by
  unfold shB at h
  cases hp : pyOf d with
  | none => rw [hp] at h; cases h
  | some p =>
    rw [hp] at h
    have h : (SeqAt.shaped p && decide (p.depth ≤ 60)) = true := h
    rw [Bool.and_eq_true, decide_eq_true_eq] at h
    exact ⟨p, rfl, py_dp d v p r hp, h.1, h.2⟩
theorem shp_of {d : D} {x y : V} (rx : Rep c g d x) (ry : Rep c g d y) (h : shB d = true) : DShp c.K g.H x y := by
  obtain ⟨p, hp, h1, h2, h3⟩ := sh_read rx h
  obtain ⟨p', hp', h1', _, _⟩ := sh_read ry h
  rw [hp] at hp'
  cases hp'
  exact ⟨p, h1, h1', h2, h3⟩
theorem dct_pairs : ∀ {ks : List (Key × D)} {vs ws : List (Key × V)}, RepK c g ks vs → RepK c g ks ws → (ks.map (·.1)).Nodup → (ks.all fun kv => shB kv.2) = true → vs.length = ws.length ∧ vs.map (·.1) = ks.map (·.1) ∧ ∀ q ∈ vs, ∃ u, valV ws q.1 = some u ∧ DShp c.K g.H q.2 u
  | [], vs, ws, r1, r2, _, _ => by
    have e1 : vs = [] := r1
    have e2 : ws = [] := r2
    subst e1 e2
    exact ⟨rfl, rfl, fun q hq => by simp at hq⟩
  | (k, d) :: ks, vs, ws, r1, r2, nd, al => by
    obtain ⟨v, vs', rfl, rv, rvs⟩ := r1
    obtain ⟨w', ws', rfl, rw', rws⟩ := r2
    rw [List.map_cons, List.nodup_cons] at nd
    rw [List.all_cons, Bool.and_eq_true] at al
    obtain ⟨l1, l3, l2⟩ := dct_pairs rvs rws nd.2 al.2
    refine ⟨by rw [List.length_cons, List.length_cons, l1], by rw [List.map_cons, List.map_cons, l3], fun q hq => ?_⟩
    rcases List.mem_cons.mp hq with e | hq
    · subst e
      exact ⟨w', by simp [valV], shp_of rv rw' al.1⟩
    · obtain ⟨u, e, s⟩ := l2 q hq
      refine ⟨u, ?_, s⟩
      have hne : ¬ k = q.1 := fun z => nd.1 (by rw [z, ← l3]; exact List.mem_map.mpr ⟨q, hq, rfl⟩)
      unfold valV at e ⊢
      rw [List.find?_cons, decide_eq_false hne]
      exact e
theorem tup_pairs : ∀ {ds : List D} {vs ws : List V}, Reps c g ds vs → Reps c g ds ws → ds.all itB = true → Paired (fun x y => DShp c.K g.H x y ∨ DDct c.K g.H x y) vs ws
  | [], vs, ws, r1, r2, _ => by
    have e1 : vs = [] := r1
    have e2 : ws = [] := r2
    subst e1 e2
    exact .nil
  | d :: ds, vs, ws, r1, r2, al => by
    obtain ⟨v, vs', rfl, rv, rvs⟩ := r1
    obtain ⟨w', ws', rfl, rw', rws⟩ := r2
    rw [List.all_cons, Bool.and_eq_true] at al
    refine .cons ?_ (tup_pairs rvs rws al.2)
    cases d with
    | dct ks =>
      have h : (decide (ks.map (·.1)).Nodup && ks.all fun kv => shB kv.2) = true := al.1
      rw [Bool.and_eq_true, decide_eq_true_eq] at h
      obtain ⟨a, us, rfl, _, q1, ra⟩ := rv
      obtain ⟨b, us', rfl, _, q2, rb⟩ := rw'
      obtain ⟨l1, _, l2⟩ := dct_pairs ra rb h.1 h.2
      exact .inr ⟨a, b, us, us', rfl, rfl, q1, q2, l1, l2⟩
    | _ => exact .inl (shp_of rv rw' al.1)
theorem rok_eq : ROk c (rEqA c.K) eqD := by
  intro g st dx dy x y d Q w rx ry h k
  unfold eqD at h
  cases h0 : eqD0 st dx dy with
  | some z =>
    rw [h0] at h
    cases h
    obtain ⟨b, rfl, h1 | ⟨p, q, h1, h2, h3, h4, h5⟩⟩ := eqD_cases w rx ry h0
    · exact .inl (.inl ⟨h1.1, k g _ (Ext.refl g) w (by rw [h1.2]; exact rfl)⟩)
    · exact .inl (.inr ⟨p, q, h1, h2, h3, h4, k g _ (Ext.refl g) w (by rw [h5]; exact rfl)⟩)
  | none =>
    rw [h0] at h
    have h : eqT dx dy = some d := h
    cases dx with
    | tup xs =>
      cases dy with
      | tup ys =>
        have h : (if D.beqs xs ys = true ∧ xs.all itB = true then some (D.bl true) else none) = some d := h
        split at h
        · rename_i hh
          cases h
          obtain ⟨h1, h2⟩ := hh
          have h1 := D.beqs_eq _ _ h1
          subst h1
          obtain ⟨a, vs, rfl, qa, ra⟩ := tup_read rx (ds := xs) rfl
          obtain ⟨b, ws, rfl, qb, rb⟩ := tup_read ry (ds := xs) rfl
          exact .inr ⟨a, b, vs, ws, rfl, rfl, SqT.of qa, SqT.of qb, tup_pairs ra rb h2, k g _ (Ext.refl g) w rfl⟩
        · cases h
      | _ => cases h
    | _ => cases h
theorem rok_ne : ROk c (rNeA c.K) neD := by
  intro g st dx dy x y d Q w rx ry h k
  unfold neD at h
  cases he : eqD0 st dx dy with
  | none => rw [he] at h; cases h
  | some z =>
    rw [he] at h
    obtain ⟨b, rfl, h1 | ⟨p, q, h1, h2, h3, h4, h5⟩⟩ := eqD_cases w rx ry he
    · cases h
      exact .inl ⟨h1.1, k g _ (Ext.refl g) w (by rw [h1.2]; exact rfl)⟩
    · cases h
      exact .inr ⟨p, q, h1, h2, h3, h4, k g _ (Ext.refl g) w (by rw [h5]; exact rfl)⟩
end

/-! ### order -/
def ltS (a b : Str) : Bool := decide (a.cps.toList < b.cps.toList)
def ordD (f : Int → Int → Bool) (h : Str → Str → Bool) : Op2 := fun _ x y => match x, y with
  | .int i, .int j => some (.bl (f i j))
  | .str a, .str b => some (.bl (h a b))
  | _, _ => none
def ltD : Op2 := ordD (fun i j => decide (i < j)) ltS
def leD : Op2 := ordD (fun i j => decide (i ≤ j)) fun a b => !ltS b a
def gtD : Op2 := ordD (fun i j => decide (j < i)) fun a b => ltS b a
def geD : Op2 := ordD (fun i j => decide (j ≤ i)) fun a b => !ltS a b
def rOrd (f : Int → Int → Bool) (h : Str → Str → Bool) : R2 := fun x y H Q => (∃ i j, x = .int i ∧ y = .int j ∧ Q (.bl (f i j)) H) ∨ ∃ i j, x = .str i ∧ y = .str j ∧ Q (.bl (h i j)) H
theorem rok_ord {c : Cst} {f : Int → Int → Bool} {h : Str → Str → Bool} : ROk c (rOrd f h) (ordD f h) := by
  intro g st dx dy x y d Q w rx ry e k
  unfold ordD at e
  split at e
  · cases e
    exact .inl ⟨_, _, pr_int rx rfl, pr_int ry rfl, k g _ (Ext.refl g) w rfl⟩
  · cases e
    exact .inr ⟨_, _, pr_str rx rfl, pr_str ry rfl, k g _ (Ext.refl g) w rfl⟩
  · cases e

/-! ### in -/
def flatD : D → Bool
  | .non => true | .bl _ => true | .int _ => true | .str _ => true
  | _ => false
/-- == of flat data -/
def eqF : D → D → Bool
  | .non, .non => true
  | .bl a, .bl b => a == b
  | .bl a, .int b => (if a then 1 else 0) == b
  | .int a, .bl b => a == (if b then 1 else 0)
  | .int a, .int b => a == b
  | .str a, .str b => a == b
  | _, _ => false
def valD (ks : List (Key × D)) (k : Key) : Option D := (ks.find? fun kv => decide (kv.1 = k)).map (·.2)
def memD (x : D) (ds : List D) : Bool := ds.any fun y => eqF y x
def inD (neg : Bool) : Op2 := fun st x y => match y with
  | .str b => match x with
    | .str a => if a.cps.size = 1 then some (.bl (if neg then !decide (a.cps.getD 0 0 ∈ b.cps.toList) else decide (a.cps.getD 0 0 ∈ b.cps.toList))) else none
    | _ => none
  | y => match seqOf st y with
    | some ds => if flatD x = true ∧ ds.all flatD = true then some (.bl (if neg then !memD x ds else memD x ds)) else none
    | none => match dctOf st y, keyOf x with
      | some ks, some k => some (.bl (if neg then !(valD ks k).isSome else (valD ks k).isSome))
      | _, _ => none
def rDIn (neg : Bool) : R2 := fun y x H Q => ∃ a o, x = .ref a ∧ DGet H a y o ∧ Q (.bl (if neg then !o.isSome else o.isSome)) H
def rSgn (neg : Bool) : R2 := fun x y H Q => ∃ (k : Nat) (z : Str), x = .str ⟨#[k]⟩ ∧ y = .str z ∧ Q (.bl (if neg then !decide (k ∈ z.cps.toList) else decide (k ∈ z.cps.toList))) H
def rInA (K : PySem.W.Frag) (neg : Bool) : R2 := fun x y H Q => rSgn neg x y H Q ∨ rIn K neg x y H Q ∨ rDIn neg x y H Q
section
variable {X : Cx}
theorem op_dIn (hu : X.A.units + 1 < cLine) : OpR X (compareOp .In) (rDIn false) := by
  intro pins s σ H y x v u Q I ry rx h
  obtain ⟨a, o, rfl, gd, q⟩ := h
  cases rx
  exact d_in hu I gd ry fun s' I' => ⟨.bl o.isSome, H, I', rfl, q⟩
theorem op_dNotIn (hu : X.A.units + 1 < cLine) : OpR X (compareOp .NotIn) (rDIn true) := by
  intro pins s σ H y x v u Q I ry rx h
  obtain ⟨a, o, rfl, gd, q⟩ := h
  cases rx
  exact d_notIn hu I gd ry fun s' I' => ⟨.bl (!o.isSome), H, I', rfl, q⟩
theorem op_inA (hu : X.A.units + 1 < cLine) : OpR X (compareOp .In) (rInA X.K false) := OpR.or op_in_sign (OpR.or op_in_seq (op_dIn hu))
theorem op_notInA (hu : X.A.units + 1 < cLine) : OpR X (compareOp .NotIn) (rInA X.K true) := OpR.or op_notIn_sign (OpR.or op_notIn_seq (op_dNotIn hu))
end
section
variable {c : Cst} {g : G} {st : Store}
theorem flat_v {d : D} {v : V} (r : PRep c g d v) (f : flatD d = true) : flatV v = true := by
  cases d with
  | non => rw [pr_non r rfl]; rfl
  | bl b => rw [pr_bl r rfl]; rfl
  | int b => rw [pr_int r rfl]; rfl
  | str b => rw [pr_str r rfl]; rfl
  | _ => cases f
theorem eqF_v {d e : D} {v u : V} (r : PRep c g d v) (q : PRep c g e u) (f : flatD d = true) (f' : flatD e = true) : eqV v u = eqF d e := by
  cases d with
  | non => rw [pr_non r rfl]; cases e with
    | non => rw [pr_non q rfl]; rfl
    | bl b => rw [pr_bl q rfl]; rfl
    | int b => rw [pr_int q rfl]; rfl
    | str b => rw [pr_str q rfl]; rfl
    | _ => cases f'
  | bl b => rw [pr_bl r rfl]; cases e with
    | non => rw [pr_non q rfl]; rfl
    | bl b => rw [pr_bl q rfl]; rfl
    | int b => rw [pr_int q rfl]; rfl
    | str b => rw [pr_str q rfl]; rfl
    | _ => cases f'
  | int b => rw [pr_int r rfl]; cases e with
    | non => rw [pr_non q rfl]; rfl
    | bl b => rw [pr_bl q rfl]; rfl
    | int b => rw [pr_int q rfl]; rfl
    | str b => rw [pr_str q rfl]; rfl
    | _ => cases f'
  | str b => rw [pr_str r rfl]; cases e with
    | non => rw [pr_non q rfl]; rfl
    | bl b => rw [pr_bl q rfl]; rfl
    | int b => rw [pr_int q rfl]; rfl
    | str b => rw [pr_str q rfl]; rfl
    | _ => cases f'
  | _ => cases f
theorem flat_vs : ∀ {ds : List D} {vs : List V}, Reps c g ds vs → ds.all flatD = true → vs.all flatV = true
  | [], vs, h, _ => by
    have e : vs = [] := h
    rw [e]; rfl
  | d :: ds, _, h, f => by
    obtain ⟨v, ws, e, r, rs⟩ := h
    rw [List.all_cons, Bool.and_eq_true] at f
    rw [e, List.all_cons, flat_v (.inl r) f.1, flat_vs rs f.2]; rfl
theorem mem_vs {x : D} {vx : V} (rx : PRep c g x vx) (fx : flatD x = true) : ∀ {ds : List D} {vs : List V}, Reps c g ds vs → ds.all flatD = true → inV vx vs = memD x ds
  | [], vs, h, _ => by
    have e : vs = [] := h
    rw [e]; rfl
  | d :: ds, _, h, f => by
    obtain ⟨v, ws, e, r, rs⟩ := h
    rw [List.all_cons, Bool.and_eq_true] at f
    have ih := mem_vs rx fx rs f.2
    unfold inV memD at ih ⊢
    rw [e, List.any_cons, List.any_cons, ih, eqF_v (.inl r) rx f.1 fx]
theorem val_v : ∀ {ks : List (Key × D)} {vs : List (Key × V)} (k : Key), RepK c g ks vs → (valD ks k = none ∧ valV vs k = none) ∨ ∃ d v, valD ks k = some d ∧ valV vs k = some v ∧ Rep c g d v
  | [], vs, k, h => by
    have e : vs = [] := h
    rw [e]; exact .inl ⟨rfl, rfl⟩
  | (k', d) :: ks, _, k, h => by
    obtain ⟨v, ws, e, r, rs⟩ := h
    rw [e]
    by_cases hk : k' = k
    · exact .inr ⟨d, v, by simp [valD, List.find?_cons, hk], by simp [valV, List.find?_cons, hk], r⟩
    · have e1 : valD ((k', d) :: ks) k = valD ks k := by simp [valD, List.find?_cons, hk]
      have e2 : valV ((k', v) :: ws) k = valV ws k := by simp [valV, List.find?_cons, hk]
      rw [e1, e2]
      exact val_v k rs
theorem dget_of {y : D} {vy : V} {a : Addr} {ks : List (Key × D)} {vs : List (Key × V)} {k : Key} (e : Rd g.H a (.dK vs)) (ry : PRep c g y vy) (hk : keyOf y = some k) : DGet g.H a vy (valV vs k) :=
  .inl ⟨vs, k, e, key_read ry hk, rfl⟩
theorem rok_in {neg : Bool} : ROk c (rInA c.K neg) (inD neg) := by
  intro g st dx dy x y d Q w rx ry h k
  unfold inD at h
  split at h
  · rename_i b
    split at h
    · rename_i a
      split at h
      · rename_i hs
        cases h
        have ea : a = ⟨#[a.cps.getD 0 0]⟩ := by
          obtain ⟨⟨l⟩⟩ := a
          match l, hs with
          | [z], _ => rfl
        refine .inl ⟨a.cps.getD 0 0, b, ?_, pr_str ry rfl, k g _ (Ext.refl g) w rfl⟩
        rw [← ea]; exact pr_str rx rfl
      · cases h
    · cases h
  · split at h
    · rename_i ds hs
      split at h
      · rename_i hf
        cases h
        obtain ⟨a, vs, rfl, q, rs⟩ := seq_read w ry hs
        refine .inr (.inl ⟨a, vs, rfl, q, flat_v rx hf.1, flat_vs rs hf.2, k g _ (Ext.refl g) w ?_⟩)
        rw [mem_vs rx hf.1 rs hf.2]; exact rfl
      · cases h
    · split at h
      · rename_i ks kk e1 e2
        cases h
        obtain ⟨a, vs, rfl, q, rs⟩ := dct_read w ry e1
        refine .inr (.inr ⟨a, _, rfl, dget_of (ks := ks) q rx e2, k g _ (Ext.refl g) w ?_⟩)
        rcases val_v kk rs with ⟨h1, h2⟩ | ⟨d1, v1, h1, h2, _⟩ <;> rw [h1, h2] <;> exact rfl
      · cases h
end

/-! ### is None -/
def isNon : D → Bool
  | .non => true
  | _ => false
def isD (neg : Bool) : Op2 := fun _ x y => match y with
  | .non => some (.bl (if neg then !isNon x else isNon x))
  | _ => none
theorem rep_non {c : Cst} {g : G} {d : D} {v : V} (r : PRep c g d v) : decide (v = .non) = isNon d := by
  rcases r with r | ⟨cl, a, rfl, _, _, rfl⟩
  · cases d with
    | non => have e : v = .non := r; subst e; rfl
    | bl _ => have e : v = .bl _ := r; subst e; rfl
    | int _ => have e : v = .int _ := r; subst e; rfl
    | str _ => have e : v = .str _ := r; subst e; rfl
    | ty _ => have e : v = .ty _ := r; subst e; rfl
    | ob _ => have e : v = .ref _ := r; subst e; rfl
    | lst _ => obtain ⟨a, _, e, _⟩ := r; subst e; rfl
    | tup _ => obtain ⟨a, _, e, _⟩ := r; subst e; rfl
    | dct _ => obtain ⟨a, _, e, _⟩ := r; subst e; rfl
    | obj _ _ => obtain ⟨a, _, _, e, _⟩ := r; subst e; rfl
    | cell _ => obtain ⟨a, e, _⟩ := r; subst e; rfl
    | scr _ => obtain ⟨a, e, _⟩ := r; subst e; rfl
  · cases cl <;> rfl
theorem rok_is {c : Cst} : ROk c (fun x y H Q => y = .non ∧ Q (.bl (decide (x = .non))) H) (isD false) := by
  intro g st dx dy x y d Q w rx ry h k
  unfold isD at h
  split at h
  · refine ⟨pr_non ry rfl, k g _ (Ext.refl g) w ?_⟩
    rw [rep_non rx]
    cases h
    exact rfl
  · cases h
theorem rok_isnot {c : Cst} : ROk c (fun x y H Q => y = .non ∧ Q (.bl (!decide (x = .non))) H) (isD true) := by
  intro g st dx dy x y d Q w rx ry h k
  unfold isD at h
  split at h
  · refine ⟨pr_non ry rfl, k g _ (Ext.refl g) w ?_⟩
    rw [rep_non rx]
    cases h
    exact rfl
  · cases h

def cmpD (op : CmpOp) : Op2 := match op with
  | .Eq => eqD | .NotEq => neD | .Lt => ltD | .LtE => leD | .Gt => gtD | .GtE => geD | .In => inD false | .NotIn => inD true | .Is => isD false | .IsNot => isD true
def rCmp (K : PySem.W.Frag) (op : CmpOp) : R2 := match op with
  | .Eq => rEqA K | .NotEq => rNeA K
  | .Lt => rOrd (fun i j => decide (i < j)) ltS | .LtE => rOrd (fun i j => decide (i ≤ j)) fun a b => !ltS b a
  | .Gt => rOrd (fun i j => decide (j < i)) fun a b => ltS b a | .GtE => rOrd (fun i j => decide (j ≤ i)) fun a b => !ltS a b
  | .In => rInA K false | .NotIn => rInA K true
  | .Is => fun x y H Q => y = .non ∧ Q (.bl (decide (x = .non))) H | .IsNot => fun x y H Q => y = .non ∧ Q (.bl (!decide (x = .non))) H
theorem op_cmp {X : Cx} (hu : X.A.units + 64 < cLine) {op : CmpOp} : OpR X (compareOp op) (rCmp X.K op) := by
  cases op with
  | Eq => exact op_eqA hu
  | NotEq => exact op_neA hu
  | Lt => exact OpR.or op_lt op_lt_str
  | LtE => exact OpR.or op_le op_le_str
  | Gt => exact OpR.or op_gt op_gt_str
  | GtE => exact OpR.or op_ge op_ge_str
  | In => exact op_inA (by omega)
  | NotIn => exact op_notInA (by omega)
  | Is => exact op_isN
  | IsNot => exact op_notN
theorem rok_cmp {c : Cst} {op : CmpOp} : ROk c (rCmp c.K op) (cmpD op) := by
  cases op with
  | Eq => exact rok_eq
  | NotEq => exact rok_ne
  | Lt => exact rok_ord
  | LtE => exact rok_ord
  | Gt => exact rok_ord
  | GtE => exact rok_ord
  | In => exact rok_in
  | NotIn => exact rok_in
  | Is => exact rok_is
  | IsNot => exact rok_isnot

/-! ### a[b] -/
def subsD : Op2 := fun st x y => match x with
  | .str z => match y with
    | .int i => if z.length ≤ sizeLine then (atI z.cps.toList i).map fun k => .str ⟨#[k]⟩ else none
    | _ => none
  | x => match seqOf st x with
    | some ds => match y with
      | .int i => atI ds i
      | _ => none
    | none => match dctOf st x, keyOf y with
      | some ks, some k => valD ks k
      | _, _ => none
def rIxD : R2 := fun x y H Q => ∃ a v, x = .ref a ∧ DGet H a y (some v) ∧ Q v H
theorem ix_dict {X : Cx} (hu : X.A.units + 1 < cLine) : IxR X rIxD := by
  intro value slice pins s σ H x y v u Q I rx ry h hs
  obtain ⟨a, w', rfl, gd, q⟩ := h
  cases rx
  have hT := dict_typeIs I gd
  unfold subscriptTail
  refine wpAny_bind ?_
  rw [getitemInPython_of_ne hT.not_modules]
  refine wpAny_bind (wpAny_specialOf hT PySem.F.slot_dict_getitem.lookup ?_)
  have fin : wpAny (model X.prog X.w) X.A (subscripted slice false (.ref a) u) (fun r s₃ => wpAny (model X.prog X.w) X.A (letTemporaryGo value (.ref a) r >>= fun _ => pure r) (EP X pins σ Q) X.xe s₃) X.xe s := by
    rw [hs]
    exact wpAny_operating (d_getItem hu I gd ry fun w2 s3 I3 rw' => wpAny_bind (wpAny_letTemporaryGo (wpAny_pure ⟨w', H, I3, rw', q⟩)))
  first
    | exact wpAny_pure (wpAny_bind fin)
    | exact wpAny_bind (wpAny_pure (wpAny_bind fin))
    | exact wpAny_bind fin
def rSub (K : PySem.W.Frag) : R2 := fun x y H Q => rIx K x y H Q ∨ rIxD x y H Q
theorem ix_sub {X : Cx} (hu : X.A.units + 1 < cLine) : IxR X (rSub X.K) := IxR.or ix_seq (ix_dict hu)
section
variable {c : Cst} {g : G} {st : Store}
theorem at_v {ds : List D} {vs : List V} {i : Int} {d : D} (rs : Reps c g ds vs) (h : atI ds i = some d) : ∃ v, atI vs i = some v ∧ Rep c g d v := by
  unfold atI at h ⊢
  rw [rs.length]
  cases hx : ixN ds.length i with
  | none => rw [hx] at h; cases h
  | some j =>
    rw [hx] at h
    exact rs.get h
theorem rok_sub2 : ROk c (rSub c.K) subsD := by
  intro g st dx dy x y d Q w rx ry h k
  unfold subsD at h
  split at h
  · rename_i z
    split at h
    · rename_i i
      split at h
      · rename_i hl
        obtain ⟨cc, hc, rfl⟩ := Option.map_eq_some_iff.mp h
        exact .inl (.inr (.inr ⟨z, i, cc, pr_str rx rfl, pr_int ry rfl, hl, hc, k g _ (Ext.refl g) w rfl⟩))
      · cases h
    · cases h
  · split at h
    · rename_i ds hs
      split at h
      · obtain ⟨a, vs, rfl, q, rs⟩ := seq_read w rx hs
        obtain ⟨v, hv, rv⟩ := at_v rs h
        rcases q with q | q
        · exact .inl (.inl ⟨a, vs, _, v, rfl, pr_int ry rfl, q, hv, k g v (Ext.refl g) w rv⟩)
        · exact .inl (.inr (.inl ⟨a, vs, _, v, rfl, pr_int ry rfl, q, hv, k g v (Ext.refl g) w rv⟩))
      · cases h
    · split at h
      · rename_i ks kk e1 e2
        obtain ⟨a, vs, rfl, q, rs⟩ := dct_read w rx e1
        rcases val_v kk rs with ⟨h1, _⟩ | ⟨d1, v1, h1, h2, r1⟩
        · rw [h] at h1; cases h1
        · rw [h] at h1; cases h1
          have gd := dget_of (ks := ks) q ry e2
          rw [h2] at gd
          exact .inr ⟨a, v1, rfl, gd, k g v1 (Ext.refl g) w r1⟩
      · cases h
end

/-! ### truth -/
def truD (st : Store) : D → Option Bool
  | .non => some false
  | .bl b => some b
  | .int i => some (i != 0)
  | .str y => if y.length ≤ sizeLine then some ((y.length : Int) != 0) else none
  | d => (seqOf st d).map fun ds => !ds.isEmpty
theorem tru_read {c : Cst} {g : G} {st : Store} {d : D} {v : V} {b : Bool} (w : Wf c g st) (r : PRep c g d v) (h : truD st d = some b) : TruV c.K v g.H b := by
  unfold truD at h
  split at h
  · cases h; rw [pr_non r rfl]; rfl
  · cases h; rw [pr_bl r rfl]; rfl
  · cases h; rw [pr_int r rfl]; rfl
  · split at h
    · rename_i hl
      cases h
      rw [pr_str r rfl]
      exact ⟨hl, rfl⟩
    · cases h
  · obtain ⟨ds, hs, rfl⟩ := Option.map_eq_some_iff.mp h
    obtain ⟨a, vs, rfl, q, rs⟩ := seq_read w r hs
    have e : ds.isEmpty = vs.isEmpty := by
      have hl := rs.length
      cases vs <;> cases ds <;> simp_all
    rcases q with q | q
    · exact .inl ⟨vs, q, by rw [e]⟩
    · exact .inr (.inl ⟨vs, q, by rw [e]⟩)
end DL
end
section
set_option Elab.async false
set_option linter.all false
set_option maxRecDepth 100000
set_option autoImplicit false
/-! DL: expressions -/
namespace DL
open PySem PySem.Spec L2
open PyProof.Rows hiding St

/-- what is one for the whole law -/
structure Law where
  P : Program
  w : World
  c : Cst
  mg : Str → Option Value
  base : Heap
/-- a context of the law, an except suite or not -/
structure XOw (L : Law) (X : Cx) : Prop where
  P : X.prog = L.P
  w : X.w = L.w
  K : X.K = L.c.K
  mg : X.mg = L.mg
  base : X.base = L.base
  un : X.A.units + 64 < cLine
  nd : X.N.Nodup
/-- a context of the law with room k -/
structure XOk (L : Law) (X : Cx) (k : Nat) : Prop extends XOw L X where
  calm : X.calm = true
  room : Room k X.A
section
variable {L : Law} {X : Cx} {k : Nat}
theorem XOw.hu (h : XOw L X) : X.A.units + 64 < cLine := h.un
theorem XOw.hu1 (h : XOw L X) : X.A.units + 1 < cLine := by have := h.un; omega
theorem XOk.mono {j : Nat} (h : XOk L X k) (hj : j ≤ k) : XOk L X j := ⟨h.toXOw, h.calm, h.room.mono hj⟩
end

section
variable {L : Law} {X : Cx} {W : WX} {k : Nat} {ea eb ec e : Expr} {fa fb fc f : ER} {pos : Pos}
/-! ### names, constants -/
def fVar (i : Nat) : ER := fun env st => match env[i]? with
  | some (.val d) => .ok d st
  | _ => .bad
def fPeek (i : Nat) : ER := fun env st => match env[i]? with
  | some (.val d) => .ok d st
  | some (.own cl) => .ok (cellD cl) st
  | _ => .bad
def NmOk (x : Str) : Bool := !(x == ("__debug__" : Str)) && !(x == ("__classdict__" : Str))
theorem nm1 {x : Str} (h : NmOk x = true) : (x == ("__debug__" : Str)) = false := by
  unfold NmOk at h
  cases e : (x == ("__debug__" : Str)) with
  | false => rfl
  | true => rw [e] at h; cases h
theorem nm2 {x : Str} (h : NmOk x = true) : (x == ("__classdict__" : Str)) = false := by
  unfold NmOk at h
  cases e : (x == ("__classdict__" : Str)) with
  | false => rfl
  | true => rw [e] at h; simp at h
theorem p_var {i : Nat} {x : Str} (hN : X.N[i]? = some x) (hv : Vis X.env.scope x) (hn : NmOk x = true) : DP L.c X W (.Name x pos) (fPeek i) := by
  intro g env σ st Q w ev p
  refine bE_of (pe_var hN hv (nm1 hn) (nm2 hn)) ?_
  unfold fPeek at p
  split at p
  · rename_i d hd
    obtain ⟨o, ho, r⟩ := ev.get hd
    obtain ⟨v, rfl, r⟩ := r
    exact ⟨v, ho, p g v (Ext.refl g) w (.inl r)⟩
  · rename_i cl hd
    obtain ⟨o, ho, r⟩ := ev.get hd
    obtain ⟨a, rfl, nf, na, r⟩ := r
    exact ⟨_, ho, p g _ (Ext.refl g) w (.inr ⟨cl, a, rfl, ⟨na, nf⟩, r, rfl⟩)⟩
  · exact p.elim
theorem s_var {i : Nat} {x : Str} (hN : X.N[i]? = some x) (hv : Vis X.env.scope x) (hn : NmOk x = true) : DE L.c X W (.Name x pos) (fVar i) := by
  intro g env σ st Q w ev p
  refine bE_of (pe_var hN hv (nm1 hn) (nm2 hn)) ?_
  unfold fVar at p
  split at p
  · rename_i d hd
    obtain ⟨o, ho, r⟩ := ev.get hd
    obtain ⟨v, rfl, r⟩ := r
    exact ⟨v, ho, p g v (Ext.refl g) w r⟩
  · exact p.elim
def fC (d : D) : ER := fun _ st => .ok d st
theorem s_const {d : D} {v : V} (h : PE X e (tC v)) (r : ∀ g, Rep L.c g d v) : DE L.c X W e (fC d) := fun g env σ st Q w ev p => bE_of h (p g v (Ext.refl g) w (r g))
theorem s_int {i : Int} {j : Nat} : DE L.c X W (.Constant (.int i) j pos) (fC (.int i)) := s_const pe_int fun _ => rfl
theorem s_str {x : Str} {j : Nat} : DE L.c X W (.Constant (.str x) j pos) (fC (.str x)) := s_const pe_str fun _ => rfl
theorem s_bl {b : Bool} {j : Nat} : DE L.c X W (.Constant (.bool b) j pos) (fC (.bl b)) := s_const pe_bl fun _ => rfl
theorem s_non {j : Nat} : DE L.c X W (.Constant .none j pos) (fC .non) := s_const pe_non fun _ => rfl
/-- what a module's name stands for -/
def GloOk (L : Law) (x : Str) (d : D) : Prop := ∃ v u, L.mg x = some u ∧ RelV v u ∧ ∀ g, Rep L.c g d v
theorem s_glob (hX : XOw L X) {x : Str} {d : D} (hg : Gl X x) (h : GloOk L x d) (hn : NmOk x = true) : DE L.c X W (.Name x pos) (fC d) := by
  obtain ⟨v, u, h1, h2, h3⟩ := h
  exact s_const (pe_glob hg (by rw [hX.mg]; exact h1) h2 (nm1 hn)) h3
def FreeOk (L : Law) (x : Str) : Prop := L.mg x = none
theorem s_blt (hX : XOw L X) {x : Str} {n : String} (hg : Gl X x) (h : FreeOk L x) (hb : bootBuiltins x = some (.type n)) (hn : NmOk x = true) (hm : x ≠ "__name__") : DE L.c X W (.Name x pos) (fC (.ty n)) :=
  s_const (pe_bltn (v := .ty n) hg (by rw [hX.mg]; exact h) hb rfl hm (nm1 hn)) fun _ => rfl

/-! ### operators -/
def f2 (F : Op2) (fa fb : ER) : ER := fun env st => (fa env st).bind fun x s1 => (fb env s1).bind fun y s2 => .opt (F s2 x y) s2
theorem post2 {r : R2} {F : Op2} (hr : ROk L.c r F) (ha : DP L.c X W ea fa) (hb : DP L.c X W eb fb) {g : G} {env : DEnv} {σ : St} {st : Store} {Q : VK} (w : Wf L.c g st) (ev : EnvR L.c g env σ) (p : PostR L.c W g σ (Rep L.c) (f2 F fa fb env st) Q) :
    tOp r (bE X ea) (bE X eb) σ g.H Q := by
  refine ha g env σ st _ w ev (p.bind fun x s1 g1 vx x1 w1 rx p1 => ?_)
  refine hb g1 env σ s1 _ w1 (ev.ext x1 w) ((p1.later x1).bind fun y s2 g2 vy x2 w2 ry p2 => ?_)
  cases hf : F s2 x y with
  | none => rw [hf] at p2; exact p2.elim
  | some d =>
    rw [hf] at p2
    exact hr g2 s2 x y vx vy d Q w2 (rx.ext x2 w1) ry hf fun g' v x' w' r => p2 g' v (x2.trans x') w' r
theorem s_bin (hX : XOw L X) {op : Operator} (ha : DP L.c X W ea fa) (hb : DP L.c X W eb fb) : DE L.c X W (.BinOp ea op eb pos) (f2 (binD op) fa fb) := fun g env σ st Q w ev p => by
  refine bE_of (pe_op op_bin pe_b pe_b) ?_
  rw [hX.K]
  exact post2 rok_bin ha hb w ev p
def fNeg (fa : ER) : ER := fun env st => (fa env st).bind fun x s1 => match x with
  | .int i => .ok (.int (-i)) s1
  | _ => .bad
theorem s_neg (ha : DP L.c X W ea fa) : DE L.c X W (.UnaryOp .USub ea pos) (fNeg fa) := fun g env σ st Q w ev p => by
  refine bE_of (pe_un un_neg pe_b) ?_
  refine ha g env σ st _ w ev (p.bind fun x s1 g1 vx x1 w1 rx p1 => ?_)
  cases x with
  | int i => exact ⟨i, pr_int rx rfl, p1 g1 _ x1 w1 rfl⟩
  | _ => exact p1.elim
theorem s_cmp (hX : XOw L X) {op : CmpOp} (hm : behindInMarks op eb = false) (ha : DP L.c X W ea fa) (hb : DP L.c X W eb fb) : DE L.c X W (.Compare ea [op] [eb] pos) (f2 (cmpD op) fa fb) := fun g env σ st Q w ev p => by
  refine bE_of (pe_cmpR (op_cmp hX.hu) pe_b pe_b hm) ?_
  rw [hX.K]
  exact post2 rok_cmp ha hb w ev p
/-- a truth value alone -/
def oBl (o : Out D) : Out Bool := o.bind fun x s => match x with
  | .bl b => .ok b s
  | _ => .bad
theorem post_bl {g : G} {σ : St} {o : Out D} {Q : Bool → Hp → Prop} (p : PostR L.c W g σ (fun _ a b => a = b) (oBl o) Q) : PostR L.c W g σ (Rep L.c) o (fun x H' => ∃ b, x = .bl b ∧ Q b H') := by
  refine PostR.bind p fun x s g1 v x1 w1 r q => ?_
  cases x with
  | bl b =>
    have e : v = .bl b := r
    exact ⟨b, e, q g1 b x1 w1 rfl⟩
  | _ => exact q.elim
theorem t_cmp (hX : XOw L X) {op : CmpOp} (hm : behindInMarks op eb = false) (ha : DP L.c X W ea fa) (hb : DP L.c X W eb fb) : DT L.c X W (.Compare ea [op] [eb] pos) (fun env st => oBl (f2 (cmpD op) fa fb env st)) := fun g env σ st Q w ev p => by
  refine bT_of (pt_cmpR (op_cmp hX.hu) pe_b pe_b hm) ?_
  rw [hX.K]
  exact post2 rok_cmp ha hb w ev (post_bl p)
/-- a op b op' c -/
def fChain (op op' : CmpOp) (fa fb fc : ER) : ER := fun env st => (fa env st).bind fun x s1 => (fb env s1).bind fun y s2 => (oBl (.opt (cmpD op s2 x y) s2)).bind fun b s3 =>
  if b = true then (fc env s3).bind fun z s4 => .opt (cmpD op' s4 y z) s4 else .ok (.bl false) s3
theorem post_chain {op op' : CmpOp} (ha : DP L.c X W ea fa) (hb : DP L.c X W eb fb) (hc : DP L.c X W ec fc) {g : G} {env : DEnv} {σ : St} {st : Store} {Q : VK} (w : Wf L.c g st) (ev : EnvR L.c g env σ)
    (p : PostR L.c W g σ (Rep L.c) (fChain op op' fa fb fc env st) Q) : tChain (rCmp L.c.K op) (rCmp L.c.K op') (bE X ea) (bE X eb) (bE X ec) σ g.H Q := by
  refine ha g env σ st _ w ev (p.bind fun x s1 g1 vx x1 w1 rx p1 => ?_)
  refine hb g1 env σ s1 _ w1 (ev.ext x1 w) ((p1.later x1).bind fun y s2 g2 vy x2 w2 ry p2 => ?_)
  have p2 := p2.later x2
  cases hf : cmpD op s2 x y with
  | none => rw [hf] at p2; exact p2.elim
  | some d =>
    rw [hf] at p2
    cases d with
    | bl b =>
      refine rok_cmp g2 s2 x y vx vy (.bl b) _ w2 (rx.ext x2 w1) ry hf fun g3 v x3 w3 r => ⟨b, r, ?_⟩
      have p3 : PostR L.c W g2 σ (Rep L.c) (if b = true then (fc env s2).bind fun z s4 => .opt (cmpD op' s4 y z) s4 else .ok (.bl false) s2) Q := p2
      cases b with
      | false => exact p3 g3 _ x3 w3 rfl
      | true =>
        have p3 : PostR L.c W g2 σ (Rep L.c) ((fc env s2).bind fun z s4 => .opt (cmpD op' s4 y z) s4) Q := p3
        show bE X ec σ g3.H _
        refine hc g3 env σ s2 _ w3 ((ev.ext x1 w).ext (x2.trans x3) w1) ((p3.later x3).bind fun z s4 g4 vz x4 w4 rz p4 => ?_)
        have p4 := p4.later x4
        cases hf' : cmpD op' s4 y z with
        | none => rw [hf'] at p4; exact p4.elim
        | some d =>
          rw [hf'] at p4
          exact rok_cmp g4 s4 y z vy vz d Q w4 (ry.ext (x3.trans x4) w2) rz hf' fun g' v x' w' r => p4 g' v x' w' r
    | _ => exact p2.elim
theorem s_chain (hX : XOw L X) {op op' : CmpOp} (hb2 : lastMarks [op, op'] [eb, ec] = false) (ha : DP L.c X W ea fa) (hb : DP L.c X W eb fb) (hc : DP L.c X W ec fc)
    (h : PE X (.Compare ea [op, op'] [eb, ec] pos) (tChain (rCmp X.K op) (rCmp X.K op') (bE X ea) (bE X eb) (bE X ec))) : DE L.c X W (.Compare ea [op, op'] [eb, ec] pos) (fChain op op' fa fb fc) := fun g env σ st Q w ev p => by
  refine bE_of h ?_
  rw [hX.K]
  exact post_chain ha hb hc w ev p
end
end DL
end
section
set_option Elab.async false
set_option linter.all false
set_option maxRecDepth 100000
set_option autoImplicit false
/-! DL: tests, conditionals, arguments, displays, subscripts, slices -/
namespace DL
open PySem PySem.Spec L2
open PyProof.Rows hiding St

section
variable {L : Law} {X : Cx} {W : WX} {k : Nat} {ea eb ec e : Expr} {fa fb fc f : ER} {pos : Pos} {es rest : List Expr}
/-! ### tests -/
abbrev TR := DEnv → Store → Out Bool
def fTru (f : ER) : TR := fun env st => (f env st).bind fun x s => .opt (truD s x) s
theorem t_val (hX : XOw L X) (h : DP L.c X W e f) (he : ∀ whole, isTrue e X.env whole = (do let v ← whole; standAt e.pos; holding [v] (truthy v))) : DT L.c X W e (fTru f) := fun g env σ st Q w ev p => by
  refine bT_of (pt_truth pe_b he) ?_
  refine h g env σ st _ w ev (PostR.bind p fun x s g1 v x1 w1 r p1 => ?_)
  cases hf : truD s x with
  | none => rw [hf] at p1; exact p1.elim
  | some b =>
    rw [hf] at p1
    exact ⟨b, by rw [hX.K]; exact tru_read w1 r hf, p1 g1 b x1 w1 rfl⟩
def PlainTest : Expr → Bool
  | .UnaryOp op _ _ => match op with | .Not => false | _ => true
  | .BoolOp _ _ _ => false
  | .IfExp _ _ _ _ => false
  | .Compare _ _ _ _ => false
  | _ => true
theorem plain_test {e : Expr} {env : Env} (h : PlainTest e = true) : ∀ whole, isTrue e env whole = (do let v ← whole; standAt e.pos; holding [v] (truthy v)) := by
  intro whole
  cases e with
  | UnaryOp op x p => cases op <;> first | rfl | cases h
  | BoolOp _ _ _ => cases h
  | IfExp _ _ _ _ => cases h
  | Compare _ _ _ _ => cases h
  | _ => rfl
theorem t_chain (hX : XOw L X) {op op' : CmpOp} (ha : DP L.c X W ea fa) (hb : DP L.c X W eb fb) (hc : DP L.c X W ec fc) (hm : lastMarks [op, op'] [eb, ec] = false) :
    DT L.c X W (.Compare ea [op, op'] [eb, ec] pos) (fun env st => oBl (fChain op op' fa fb fc env st)) := fun g env σ st Q w ev p => by
  refine bT_of (pt_chain (op_cmp hX.hu) (op_cmp hX.hu) pe_b pe_b pe_b hm) ?_
  rw [hX.K]
  exact post_chain ha hb hc w ev (post_bl p)
/-- a test of and / or, whatever its whole is -/
def bW (X : Cx) (e : Expr) : TT := fun σ H Q => ∀ whole pins s, Inv X pins σ H s → wpAny (model X.prog X.w) X.A (isTrue e X.env whole) (TP X pins σ Q) X.xe s
theorem pw_b : PW X e (bW X e) := ⟨fun wh pins s σ H Q I h => h wh pins s I⟩
theorem bW_of {t : TT} {σ : St} {H : Hp} {Q : Bool → Hp → Prop} (h : PW X e t) (q : t σ H Q) : bW X e σ H Q := fun wh pins s I => h.run wh pins s σ H Q I q
def DW (c : Cst) (X : Cx) (W : WX) (e : Expr) (f : TR) : Prop :=
  ∀ g env σ st (Q : Bool → Hp → Prop), Wf c g st → EnvR c g env σ → PostR c W g σ (fun _ a b => a = b) (f env st) Q → bW X e σ g.H Q
theorem DW.dt {f : TR} (h : DW L.c X W e f) : DT L.c X W e f := fun g env σ st Q w ev p pins s I => h g env σ st Q w ev p _ pins s I
variable {ta tb tc : TR}
theorem w_one {op : BoolOp} (h : DT L.c X W ea ta) : DW L.c X W (.BoolOp op [ea] pos) ta := fun g env σ st Q w ev p => by
  cases op with
  | And => exact bW_of (pw_and1 pt_b) (h g env σ st Q w ev p)
  | Or => exact bW_of (pw_or1 pt_b) (h g env σ st Q w ev p)
def tAndD (ta tb : TR) : TR := fun env st => (ta env st).bind fun b s => if b = true then tb env s else .ok false s
def tOrD (ta tb : TR) : TR := fun env st => (ta env st).bind fun b s => if b = true then .ok true s else tb env s
theorem w_and (ha : DT L.c X W ea ta) (hb : DW L.c X W (.BoolOp .And (eb :: rest) pos) tb) : DW L.c X W (.BoolOp .And (ea :: eb :: rest) pos) (tAndD ta tb) := fun g env σ st Q w ev p => by
  refine bW_of (pw_and pt_b pw_b) ?_
  refine ha g env σ st _ w ev (PostR.bind p fun b s g1 v x1 w1 r p1 => ?_)
  have r : b = v := r
  subst r
  cases b with
  | true => exact hb g1 env σ s Q w1 (ev.ext x1 w) (PostR.later x1 p1)
  | false => exact p1 g1 _ x1 w1 rfl
theorem w_or (ha : DT L.c X W ea ta) (hb : DW L.c X W (.BoolOp .Or (eb :: rest) pos) tb) : DW L.c X W (.BoolOp .Or (ea :: eb :: rest) pos) (tOrD ta tb) := fun g env σ st Q w ev p => by
  refine bW_of (pw_or pt_b pw_b) ?_
  refine ha g env σ st _ w ev (PostR.bind p fun b s g1 v x1 w1 r p1 => ?_)
  have r : b = v := r
  subst r
  cases b with
  | false => exact hb g1 env σ s Q w1 (ev.ext x1 w) (PostR.later x1 p1)
  | true => exact p1 g1 _ x1 w1 rfl
def tNotD (ta : TR) : TR := fun env st => (ta env st).bind fun b s => .ok (!b) s
theorem t_not (h : DT L.c X W ea ta) : DT L.c X W (.UnaryOp .Not ea pos) (tNotD ta) := fun g env σ st Q w ev p => by
  refine bT_of (pt_not pt_b) ?_
  refine h g env σ st _ w ev (PostR.bind p fun b s g1 v x1 w1 r p1 => ?_)
  have r : b = v := r
  subst r
  exact p1 g1 _ x1 w1 rfl

/-! ### and, or, not as values; a if t else b -/
def fAnd (fa fb : ER) : ER := fun env st => (fa env st).bind fun x s => match truD s x with
  | some true => fb env s
  | some false => .ok x s
  | none => .bad
def fOr (fa fb : ER) : ER := fun env st => (fa env st).bind fun x s => match truD s x with
  | some true => .ok x s
  | some false => fb env s
  | none => .bad
theorem s_one {op : BoolOp} (h : DE L.c X W ea fa) : DE L.c X W (.BoolOp op [ea] pos) fa := fun g env σ st Q w ev p => bE_of (pe_one pe_b) (h g env σ st Q w ev p)
theorem s_and (hX : XOw L X) (ha : DE L.c X W ea fa) (hb : DE L.c X W (.BoolOp .And (eb :: rest) pos) fb) : DE L.c X W (.BoolOp .And (ea :: eb :: rest) pos) (fAnd fa fb) := fun g env σ st Q w ev p => by
  refine bE_of (pe_andT pe_b pe_b) ?_
  refine ha g env σ st _ w ev (PostR.bind p fun x s g1 v x1 w1 r p1 => ?_)
  cases hf : truD s x with
  | none => rw [hf] at p1; exact p1.elim
  | some b =>
    rw [hf] at p1
    refine ⟨b, by rw [hX.K]; exact tru_read w1 (.inl r) hf, ?_⟩
    cases b with
    | true => exact hb g1 env σ s Q w1 (ev.ext x1 w) (PostR.later x1 p1)
    | false => exact p1 g1 v x1 w1 r
theorem s_or (hX : XOw L X) (ha : DE L.c X W ea fa) (hb : DE L.c X W (.BoolOp .Or (eb :: rest) pos) fb) : DE L.c X W (.BoolOp .Or (ea :: eb :: rest) pos) (fOr fa fb) := fun g env σ st Q w ev p => by
  refine bE_of (pe_orT pe_b pe_b) ?_
  refine ha g env σ st _ w ev (PostR.bind p fun x s g1 v x1 w1 r p1 => ?_)
  cases hf : truD s x with
  | none => rw [hf] at p1; exact p1.elim
  | some b =>
    rw [hf] at p1
    refine ⟨b, by rw [hX.K]; exact tru_read w1 (.inl r) hf, ?_⟩
    cases b with
    | false => exact hb g1 env σ s Q w1 (ev.ext x1 w) (PostR.later x1 p1)
    | true => exact p1 g1 v x1 w1 r
def fNot (fa : ER) : ER := fun env st => (fa env st).bind fun x s => match truD s x with
  | some b => .ok (.bl (!b)) s
  | none => .bad
theorem s_not (hX : XOw L X) (ha : DP L.c X W ea fa) : DE L.c X W (.UnaryOp .Not ea pos) (fNot fa) := fun g env σ st Q w ev p => by
  refine bE_of (pe_notT pe_b) ?_
  refine ha g env σ st _ w ev (PostR.bind p fun x s g1 v x1 w1 r p1 => ?_)
  cases hf : truD s x with
  | none => rw [hf] at p1; exact p1.elim
  | some b =>
    rw [hf] at p1
    exact ⟨b, by rw [hX.K]; exact tru_read w1 r hf, p1 g1 _ x1 w1 rfl⟩
def fIf (t : TR) (fa fb : ER) : ER := fun env st => (t env st).bind fun b s => if b = true then fa env s else fb env s
theorem s_if (ht : DT L.c X W ec tc) (ha : DE L.c X W ea fa) (hb : DE L.c X W eb fb) : DE L.c X W (.IfExp ec ea eb pos) (fIf tc fa fb) := fun g env σ st Q w ev p => by
  refine bE_of (pe_ifExp pt_b pe_b pe_b) ?_
  refine ht g env σ st _ w ev (PostR.bind p fun b s g1 v x1 w1 r p1 => ?_)
  have r : b = v := r
  subst r
  cases b with
  | true => exact ha g1 env σ s Q w1 (ev.ext x1 w) (PostR.later x1 p1)
  | false => exact hb g1 env σ s Q w1 (ev.ext x1 w) (PostR.later x1 p1)
theorem p_if (ht : DT L.c X W ec tc) (ha : DP L.c X W ea fa) (hb : DP L.c X W eb fb) : DP L.c X W (.IfExp ec ea eb pos) (fIf tc fa fb) := fun g env σ st Q w ev p => by
  refine bE_of (pe_ifExp pt_b pe_b pe_b) ?_
  refine ht g env σ st _ w ev (PostR.bind p fun b s g1 v x1 w1 r p1 => ?_)
  have r : b = v := r
  subst r
  cases b with
  | true => exact ha g1 env σ s Q w1 (ev.ext x1 w) (PostR.later x1 p1)
  | false => exact hb g1 env σ s Q w1 (ev.ext x1 w) (PostR.later x1 p1)

/-! ### arguments -/
abbrev AR := DEnv → Store → Out (List D)
variable {as : AR}
def aNil : AR := fun _ st => .ok [] st
def aCons (f : ER) (as : AR) : AR := fun env st => (f env st).bind fun x s => (as env s).bind fun xs s2 => .ok (x :: xs) s2
theorem a_nil : DA L.c X W [] aNil := fun g env σ st Q w ev p => bA_of pa_nil (p g [] (Ext.refl g) w rfl)
theorem a_cons (hs : starEach (e :: es) X.env = (false, eval e X.env) :: starEach es X.env) (h : DE L.c X W e f) (hr : DA L.c X W es as) : DA L.c X W (e :: es) (aCons f as) := fun g env σ st Q w ev p => by
  refine bA_of (pa_cons pe_b pa_b hs) ?_
  refine h g env σ st _ w ev (PostR.bind p fun x s g1 v x1 w1 r p1 => ?_)
  refine hr g1 env σ s _ w1 (ev.ext x1 w) (PostR.bind (PostR.later x1 p1) fun xs s2 g2 vs x2 w2 rs p2 => ?_)
  exact (PostR.later x2 p2) g2 (v :: vs) (Ext.refl g2) w2 ⟨v, vs, rfl, x2.rep w1 r, rs⟩
theorem ap_nil : DAP L.c X W [] aNil := fun g env σ st Q w ev p => bA_of pa_nil (p g [] (Ext.refl g) w rfl)
theorem ap_cons (hs : starEach (e :: es) X.env = (false, eval e X.env) :: starEach es X.env) (h : DP L.c X W e f) (hr : DAP L.c X W es as) : DAP L.c X W (e :: es) (aCons f as) := fun g env σ st Q w ev p => by
  refine bA_of (pa_cons pe_b pa_b hs) ?_
  refine h g env σ st _ w ev (PostR.bind p fun x s g1 v x1 w1 r p1 => ?_)
  refine hr g1 env σ s _ w1 (ev.ext x1 w) (PostR.bind (PostR.later x1 p1) fun xs s2 g2 vs x2 w2 rs p2 => ?_)
  exact (PostR.later x2 p2) g2 (v :: vs) (Ext.refl g2) w2 ⟨v, vs, rfl, r.ext x2 w1, rs⟩
def NoStar : Expr → Bool
  | .Starred _ _ => false
  | _ => true
theorem no_star {e : Expr} {es : List Expr} {env : Env} (h : NoStar e = true) : starEach (e :: es) env = (false, eval e env) :: starEach es env := by
  cases e with
  | Starred _ _ => cases h
  | _ => rfl

/-! ### displays -/
def fTup (as : AR) : ER := fun env st => (as env st).bind fun xs s => if xs.length ≤ sizeLine then .ok (.tup xs) s else .bad
theorem s_tup {j : Nat} (h : DA L.c X W es as) : DE L.c X W (.Tuple es j pos) (fTup as) := fun g env σ st Q w ev p => by
  refine bE_of (pe_tup pa_b) ?_
  refine h g env σ st _ w ev (PostR.bind p fun xs s g1 vs x1 w1 rs p1 => ?_)
  by_cases hl : xs.length ≤ sizeLine
  · rw [if_pos hl] at p1
    refine ⟨by rw [rs.length]; exact hl, fun a ha => ?_⟩
    obtain ⟨x2, w2⟩ := new_frz (o := .tup vs) w1 ha
    exact p1 _ (.ref a) (x1.trans x2) w2 ⟨a, vs, rfl, .inr rfl, upd_same, rs.le (le_new w1 ha)⟩
  · rw [if_neg hl] at p1; exact p1.elim
abbrev FR := DEnv → Store → Out Cell
def fLst (as : AR) : FR := fun env st => (as env st).bind fun xs s => if xs.length ≤ sizeLine then .ok (.lst xs) s else .bad
/-- a new thing, laid -/
theorem newR_upd {g g1 : G} {st : Store} {a : Addr} {o : HO} {cl : Cell} (x1 : Ext g g1) (w1 : Wf L.c g1 st) (ha : g1.H a = none) (r : CRep L.c (g1.upd a o) cl a) : NewR L.c g (g1.upd a o) cl (.ref a) :=
  ⟨a, rfl, x1.nn a ha, w1.notF ha, w1.notas ha, r⟩
theorem d_lst (h : DA L.c X W es as) : DF L.c X W (.List es pos) (fLst as) := fun g env σ st Q w ev p => by
  refine bE_of (pe_lst pa_b) ?_
  refine h g env σ st _ w ev (PostR.bind p fun xs s g1 vs x1 w1 rs p1 => ?_)
  by_cases hl : xs.length ≤ sizeLine
  · rw [if_pos hl] at p1
    refine ⟨by rw [rs.length]; exact hl, fun a ha => ?_⟩
    exact p1 (g1.upd a (.lst vs)) (.ref a) (x1.trans (Ext.upd ha)) (w1.upd ha) (newR_upd x1 w1 ha ⟨vs, upd_same, rs.le (le_upd ha w1)⟩)
  · rw [if_neg hl] at p1; exact p1.elim

/-! ### a[b], a[lo:hi], a[::-1] -/
def NoSlice : Expr → Bool
  | .Slice _ _ _ _ => false
  | _ => true
theorem no_slice {e : Expr} (h : NoSlice e = true) : PlainIx e := by
  intro o i
  cases e with
  | Slice _ _ _ _ => cases h
  | _ => rfl
theorem s_sub (hX : XOw L X) (hs : NoSlice eb = true) (ha : DP L.c X W ea fa) (hb : DP L.c X W eb fb) : DE L.c X W (.Subscript ea eb pos) (f2 subsD fa fb) := fun g env σ st Q w ev p => by
  refine bE_of (pe_ix (ix_sub hX.hu1) pe_b pe_b (no_slice hs)) ?_
  rw [hX.K]
  exact post2 rok_sub2 ha hb w ev p
abbrev OR := DEnv → Store → Out (Option Int)
def bO (X : Cx) (e : Option Expr) : TO := fun σ H Q => ∀ pins s, Inv X pins σ H s → wpAny (model X.prog X.w) X.A (evalPart e X.env) (fun u s' => ∃ o H', Inv X pins σ H' s' ∧ IsPart u o ∧ Q o H') X.xe s
theorem po_b {e : Option Expr} : PO X e (bO X e) := ⟨fun pins s σ H Q I h => h pins s I⟩
def DO (c : Cst) (X : Cx) (W : WX) (e : Option Expr) (f : OR) : Prop :=
  ∀ g env σ st (Q : Option Int → Hp → Prop), Wf c g st → EnvR c g env σ → PostR c W g σ (fun _ a b => a = b) (f env st) Q → bO X e σ g.H Q
def oNo : OR := fun _ st => .ok none st
def oSome (f : ER) : OR := fun env st => (f env st).bind fun x s => match x with
  | .int i => .ok (some i) s
  | _ => .bad
theorem o_none : DO L.c X W none oNo := fun g env σ st Q w ev p pins s I => po_none.run pins s σ g.H Q I (p g none (Ext.refl g) w rfl)
theorem o_some (h : DP L.c X W e f) : DO L.c X W (some e) (oSome f) := fun g env σ st Q w ev p pins s I => by
  refine (po_some pe_b).run pins s σ g.H Q I ?_
  refine h g env σ st _ w ev (PostR.bind p fun x s g1 v x1 w1 r p1 => ?_)
  cases x with
  | int i => exact ⟨i, pr_int r rfl, p1 g1 _ x1 w1 rfl⟩
  | _ => exact p1.elim
def cutL {α : Type} (xs : List α) (lo hi : Option Int) : List α := (xs.drop (HT.sIx xs.length 0 lo)).take (HT.sIx xs.length xs.length hi - HT.sIx xs.length 0 lo)
def sliD (st : Store) (x : D) (lo hi : Option Int) : Option D := match x with
  | .str z => if z.length ≤ sizeLine then some (.str (cutS z lo hi)) else none
  | .tup xs => some (.tup (cutL xs lo hi))
  | x => (lstOf st x).map fun xs => .lst (cutL xs lo hi)
theorem cut_reps {g : G} {xs : List D} {vs : List V} (rs : Reps L.c g xs vs) (lo hi : Option Int) : Reps L.c g (cutL xs lo hi) (cutV vs lo hi) := by
  unfold cutL cutV
  rw [rs.length]
  exact (rs.drop _).take _
theorem cut_whole {α : Type} {xs : List α} {lo hi : Option Int} (h : HT.sIx xs.length 0 lo = 0 ∧ HT.sIx xs.length xs.length hi = xs.length) : cutL xs lo hi = xs := by
  unfold cutL
  rw [h.1, h.2]
  simp
def fSli (fa : ER) (lo hi : OR) : ER := fun env st => (fa env st).bind fun x s1 => (lo env s1).bind fun l s2 => (hi env s2).bind fun u s3 => .opt (sliD s3 x l u) s3
theorem s_slice {lo hi : Option Expr} {fl fh : OR} {p2 : Pos} (hX : XOw L X) (ha : DP L.c X W ea fa) (hl : DO L.c X W lo fl) (hh : DO L.c X W hi fh) : DE L.c X W (.Subscript ea (.Slice lo hi none p2) pos) (fSli fa fl fh) := fun g env σ st Q w ev p => by
  refine bE_of (pe_slice (SlR.or sl_list (SlR.or sl_tupA sl_str)) pe_b po_b po_b) ?_
  refine ha g env σ st _ w ev (PostR.bind p fun x s g1 v x1 w1 r p1 => ?_)
  refine hl g1 env σ s _ w1 (ev.ext x1 w) (PostR.bind (PostR.later x1 p1) fun l s2 g2 l' x2 w2 e2 p2 => ?_)
  have e2 : l = l' := e2
  subst e2
  refine hh g2 env σ s2 _ w2 ((ev.ext x1 w).ext x2 w1) (PostR.bind (PostR.later x2 p2) fun u s3 g3 u' x3 w3 e3 p3 => ?_)
  have e3 : u = u' := e3
  subst e3
  have r3 := r.ext (x2.trans x3) w1
  have p3 := PostR.later x3 p3
  rw [hX.K]
  have viaL : ∀ ds, lstOf s3 x = some ds → PostR L.c W g3 σ (Rep L.c) (.opt (some (.lst (cutL ds l u))) s3) Q → rSlL L.c.K v l u g3.H Q := fun ds h1 p3 => by
    obtain ⟨a, vs, rfl, q, rs⟩ := lst_read w3 r3 h1
    refine ⟨a, vs, rfl, SqL.of q, fun b hb => ?_⟩
    obtain ⟨x4, w4⟩ := new_frz (o := .lst (cutV vs l u)) w3 hb
    exact p3 _ (.ref b) x4 w4 ⟨b, _, rfl, .inr rfl, upd_same, (cut_reps rs l u).le (le_new w3 hb)⟩
  have other : ∀ o, sliD s3 x l u = (lstOf s3 x).map (fun xs => D.lst (cutL xs l u)) → o = o → rSlL L.c.K v l u g3.H Q := fun (_ : Nat) e _ => by
    rw [e] at p3
    cases hL : lstOf s3 x with
    | none => rw [hL] at p3; exact p3.elim
    | some ds => rw [hL] at p3; exact viaL ds hL p3
  cases x with
  | str z =>
    have p3 : PostR L.c W g3 σ (Rep L.c) (.opt (if z.length ≤ sizeLine then some (.str (cutS z l u)) else none) s3) Q := p3
    by_cases hz : z.length ≤ sizeLine
    · rw [if_pos hz] at p3
      exact .inr (.inr ⟨z, pr_str r3 rfl, hz, p3 g3 _ (Ext.refl g3) w3 rfl⟩)
    · rw [if_neg hz] at p3; exact p3.elim
  | tup xs =>
    obtain ⟨a, vs, rfl, q, rs⟩ := tup_read r3 (ds := xs) rfl
    have fa : Rep L.c g3 (.tup xs) (.ref a) := by
      rcases r3 with r3 | ⟨cl, _, _, _, _, q⟩
      · exact r3
      · cases cl <;> cases q
    refine .inr (.inl ⟨a, vs, rfl, SqT.of q, fun hw => ?_, fun _ b hb => ?_⟩)
    · rw [rs.length] at hw
      have e : cutL xs l u = xs := cut_whole hw
      exact p3 g3 (.ref a) (Ext.refl g3) w3 (by rw [e]; exact fa)
    · obtain ⟨x4, w4⟩ := new_frz (o := .tup (cutV vs l u)) w3 hb
      exact p3 _ (.ref b) x4 w4 ⟨b, _, rfl, .inr rfl, upd_same, (cut_reps rs l u).le (le_new w3 hb)⟩
  | _ => exact .inl (other 0 rfl rfl)
theorem reps_reverse {g : G} : ∀ {xs : List D} {vs : List V}, Reps L.c g xs vs → Reps L.c g xs.reverse vs.reverse
  | [], vs, h => by
    have e : vs = [] := h
    rw [e]; exact rfl
  | d :: ds, _, h => by
    obtain ⟨v, ws, e, r, rs⟩ := h
    rw [e, List.reverse_cons, List.reverse_cons]
    exact (reps_reverse rs).append (Reps.one r)
def fRev (fa : ER) : ER := fun env st => (fa env st).bind fun x s => .opt ((lstOf s x).map fun xs => .lst xs.reverse) s
theorem s_rev {j : Nat} {p1 p2 p3 : Pos} (ha : DP L.c X W ea fa) : DE L.c X W (.Subscript ea (.Slice none none (some (.UnaryOp .USub (.Constant (.int 1) j p1) p2)) p3) pos) (fRev fa) := fun g env σ st Q w ev p => by
  refine bE_of (pe_revL pe_b) ?_
  refine ha g env σ st _ w ev (PostR.bind p fun x s g1 v x1 w1 r p1 => ?_)
  cases hL : lstOf s x with
  | none => rw [hL] at p1; exact p1.elim
  | some ds =>
    rw [hL] at p1
    obtain ⟨a, vs, rfl, q, rs⟩ := lst_read w1 r hL
    refine ⟨a, vs, rfl, SqL.of q, fun b hb => ?_⟩
    obtain ⟨x4, w4⟩ := new_frz (o := .lst vs.reverse) w1 hb
    exact p1 _ (.ref b) (x1.trans x4) w4 ⟨b, _, rfl, .inr rfl, upd_same, (reps_reverse rs).le (le_new w1 hb)⟩
end
end DL
end
section
set_option Elab.async false
set_option linter.all false
set_option maxRecDepth 100000
set_option autoImplicit false
/-! DL: calls of built-ins -/
namespace DL
open PySem PySem.Spec L2
open PyProof.Rows hiding St

/-! ### orders -/
def leS (a b : Str) : Bool := !ltS b a
def sortS (xs : List Str) : List Str := xs.mergeSort leS
def sortI (xs : List Int) : List Int := xs.mergeSort fun a b => decide (a ≤ b)
theorem ltS_irrefl (a : Str) : ltS a a = false := by
  unfold ltS
  exact decide_eq_false (List.lt_irrefl _)
theorem ltS_trans {a b c : Str} (h1 : ltS a b = true) (h2 : ltS b c = true) : ltS a c = true := by
  unfold ltS at *
  exact decide_eq_true (List.lt_trans (of_decide_eq_true h1) (of_decide_eq_true h2))
theorem str_ext {a b : Str} (h : a.cps.toList = b.cps.toList) : a = b := by
  obtain ⟨⟨x⟩⟩ := a
  obtain ⟨⟨y⟩⟩ := b
  have e : x = y := h
  rw [e]
theorem leS_antisymm {a b : Str} (h1 : leS a b = true) (h2 : leS b a = true) : a = b := by
  unfold leS ltS at *
  have e1 : ¬ b.cps.toList < a.cps.toList := by simpa using h1
  have e2 : ¬ a.cps.toList < b.cps.toList := by simpa using h2
  exact str_ext (List.le_antisymm (List.not_lt.mp e1) (List.not_lt.mp e2))
theorem leS_trans (a b c : Str) (h1 : leS a b = true) (h2 : leS b c = true) : leS a c = true := by
  unfold leS ltS at *
  have e1 : ¬ b.cps.toList < a.cps.toList := by simpa using h1
  have e2 : ¬ c.cps.toList < b.cps.toList := by simpa using h2
  have e3 : ¬ c.cps.toList < a.cps.toList := List.not_lt.mpr (List.le_trans (List.not_lt.mp e1) (List.not_lt.mp e2))
  simpa using e3
theorem leS_total (a b : Str) : (leS a b || leS b a) = true := by
  unfold leS ltS
  rcases List.le_total a.cps.toList b.cps.toList with h | h
  · have e : ¬ b.cps.toList < a.cps.toList := List.not_lt.mpr h
    simp [e]
  · have e : ¬ a.cps.toList < b.cps.toList := List.not_lt.mpr h
    simp [e]
theorem sortS_sorted (xs : List Str) : (sortS xs).Pairwise fun a b => leS a b = true := List.pairwise_mergeSort (fun a b c => leS_trans a b c) (fun a b => leS_total a b) xs
theorem sortS_perm (xs : List Str) : (sortS xs).Perm xs := List.mergeSort_perm xs _
theorem sortI_sorted (xs : List Int) : (sortI xs).Pairwise (· ≤ ·) := by
  have h := List.pairwise_mergeSort (le := fun a b : Int => decide (a ≤ b)) (fun a b c h1 h2 => by simp at *; omega) (fun a b => by simp; omega) xs
  exact h.imp fun h => by simpa using h
theorem sortI_perm (xs : List Int) : (sortI xs).Perm xs := List.mergeSort_perm xs _
theorem sorted_uniqS {ys xs : List Str} (h1 : ys.Perm xs) (h2 : ys.Pairwise fun a b => leS a b = true) : ys = sortS xs :=
  (h1.trans (sortS_perm xs).symm).eq_of_pairwise (fun _ _ _ _ h h' => leS_antisymm h h') h2 (sortS_sorted xs)
theorem sorted_uniqI {ys xs : List Int} (h1 : ys.Perm xs) (h2 : ys.Pairwise (· ≤ ·)) : ys = sortI xs :=
  (h1.trans (sortI_perm xs).symm).eq_of_pairwise (fun _ _ _ _ h h' => Int.le_antisymm h h') h2 (sortI_sorted xs)
theorem rising_pairwise : ∀ (r : List Str) (p : Str), PyProof.Rows.risingS p r = true → (p :: r).Pairwise fun a b => leS a b = true
  | [], p, _ => by simp
  | x :: r, p, h => by
    unfold PyProof.Rows.risingS at h
    rw [Bool.and_eq_true] at h
    have ih := rising_pairwise r x h.2
    have hpx : leS p x = true := by
      unfold leS ltS
      rw [PyProof.Rows.lt_meets]; exact h.1
    refine List.pairwise_cons.mpr ⟨fun y hy => ?_, ih⟩
    rcases List.mem_cons.mp hy with rfl | hy
    · exact hpx
    · exact leS_trans _ _ _ hpx ((List.pairwise_cons.mp ih).1 y hy)
theorem sortedS_pairwise : ∀ xs : List Str, PyProof.Rows.sortedS xs = true → xs.Pairwise fun a b => leS a b = true
  | [], _ => List.Pairwise.nil
  | x :: r, h => rising_pairwise r x h

/-! ### lists of one kind -/
def intsOf : List D → Option (List Int)
  | [] => some []
  | .int i :: ds => (intsOf ds).map (i :: ·)
  | _ :: _ => none
def strsOf : List D → Option (List Str)
  | [] => some []
  | .str i :: ds => (strsOf ds).map (i :: ·)
  | _ :: _ => none
def blsOf : List D → Option (List Bool)
  | [] => some []
  | .bl i :: ds => (blsOf ds).map (i :: ·)
  | _ :: _ => none
theorem intsOf_eq : ∀ {ds : List D} {ns : List Int}, intsOf ds = some ns → ds = ns.map D.int
  | [], ns, h => by cases h; rfl
  | d :: ds, ns, h => by
    cases d with
    | int i =>
      obtain ⟨ms, h1, rfl⟩ := Option.map_eq_some_iff.mp (show (intsOf ds).map (i :: ·) = some ns from h)
      rw [intsOf_eq h1]; rfl
    | _ => cases h
theorem strsOf_eq : ∀ {ds : List D} {ns : List Str}, strsOf ds = some ns → ds = ns.map D.str
  | [], ns, h => by cases h; rfl
  | d :: ds, ns, h => by
    cases d with
    | str i =>
      obtain ⟨ms, h1, rfl⟩ := Option.map_eq_some_iff.mp (show (strsOf ds).map (i :: ·) = some ns from h)
      rw [strsOf_eq h1]; rfl
    | _ => cases h
theorem blsOf_eq : ∀ {ds : List D} {ns : List Bool}, blsOf ds = some ns → ds = ns.map D.bl
  | [], ns, h => by cases h; rfl
  | d :: ds, ns, h => by
    cases d with
    | bl i =>
      obtain ⟨ms, h1, rfl⟩ := Option.map_eq_some_iff.mp (show (blsOf ds).map (i :: ·) = some ns from h)
      rw [blsOf_eq h1]; rfl
    | _ => cases h
@[simp] theorem intsOf_map (ns : List Int) : intsOf (ns.map D.int) = some ns := by induction ns with | nil => rfl | cons n ns ih => simp [intsOf, ih]
@[simp] theorem strsOf_map (ns : List Str) : strsOf (ns.map D.str) = some ns := by induction ns with | nil => rfl | cons n ns ih => simp [strsOf, ih]
@[simp] theorem blsOf_map (ns : List Bool) : blsOf (ns.map D.bl) = some ns := by induction ns with | nil => rfl | cons n ns ih => simp [blsOf, ih]
section
variable {c : Cst} {g : G} {st : Store}
theorem reps_ints_eq : ∀ {ns : List Int} {vs : List V}, Reps c g (ns.map D.int) vs → vs = ns.map V.int
  | [], vs, h => h
  | n :: ns, vs, h => by
    obtain ⟨v, ws, rfl, r, rs⟩ := h
    have e : v = .int n := r
    rw [e, reps_ints_eq rs]; rfl
theorem reps_strs_eq : ∀ {ns : List Str} {vs : List V}, Reps c g (ns.map D.str) vs → vs = ns.map V.str
  | [], vs, h => h
  | n :: ns, vs, h => by
    obtain ⟨v, ws, rfl, r, rs⟩ := h
    have e : v = .str n := r
    rw [e, reps_strs_eq rs]; rfl
theorem reps_bls_eq : ∀ {ns : List Bool} {vs : List V}, Reps c g (ns.map D.bl) vs → vs = ns.map V.bl
  | [], vs, h => h
  | n :: ns, vs, h => by
    obtain ⟨v, ws, rfl, r, rs⟩ := h
    have e : v = .bl n := r
    rw [e, reps_bls_eq rs]; rfl
theorem reps_strs : ∀ ns : List Str, Reps c g (ns.map D.str) (ns.map V.str)
  | [] => rfl
  | n :: ns => ⟨.str n, _, rfl, rfl, reps_strs ns⟩
theorem reps_keys : ∀ ks : List (Key × D), ∀ vs, RepK c g ks vs → vs.map (·.1) = ks.map (·.1)
  | [], vs, h => by
    have e : vs = [] := h
    rw [e]; rfl
  | (k, d) :: ks, vs, h => by
    obtain ⟨v, ws, rfl, _, rs⟩ := h
    rw [List.map_cons, List.map_cons, reps_keys ks ws rs]
def keyD : Key → D
  | .inl i => .int i
  | .inr x => .str x
theorem keyD_rep (k : Key) : Rep c g (keyD k) (kV k) := by cases k <;> exact rfl
theorem reps_keyD : ∀ ks : List Key, Reps c g (ks.map keyD) (ks.map kV)
  | [] => rfl
  | k :: ks => ⟨kV k, _, rfl, keyD_rep k, reps_keyD ks⟩
end

/-! ### one rule for all of them -/
abbrev CF := Store → List D → Option D
abbrev RCl := List V → Hp → VK → Prop
def COk (c : Cst) (r : RCl) (F : CF) : Prop := ∀ g st ds vs d (Q : VK), Wf c g st → PReps c g ds vs → F st ds = some d →
  (∀ g' v, Ext g g' → Wf c g' st → Rep c g' d v → Q v g'.H) → r vs g.H Q
def fCall (F : CF) (as : AR) : ER := fun env st => (as env st).bind fun xs s => .opt (F s xs) s
section
variable {c : Cst} {g : G} {st : Store}
theorem preps1 {d : D} {vs : List V} (h : PReps c g [d] vs) : ∃ v, vs = [v] ∧ PRep c g d v := by
  obtain ⟨v, ws, rfl, r, e⟩ := h
  have e : ws = [] := e
  rw [e]; exact ⟨v, rfl, r⟩
theorem preps2 {d d' : D} {vs : List V} (h : PReps c g [d, d'] vs) : ∃ v v', vs = [v, v'] ∧ PRep c g d v ∧ PRep c g d' v' := by
  obtain ⟨v, ws, rfl, r, rs⟩ := h
  obtain ⟨v', rfl, r'⟩ := preps1 rs
  exact ⟨v, v', rfl, r, r'⟩
/-! len -/
def lenF : CF := fun st ds => match ds with
  | [d] => match d with
    | .str z => if z.length ≤ sizeLine then some (.int z.length) else none
    | d => match seqOf st d with
      | some xs => some (.int xs.length)
      | none => (dctOf st d).map fun ks => .int ks.length
  | _ => none
def rLenD : RCl := fun xs H Q => ∃ a kvs, xs = [.ref a] ∧ Rd H a (.dK kvs) ∧ Q (.int kvs.length) H
theorem call_lenRd {X : Cx} : CallR X (.builtin "len") rLenD := by
  intro pins s σ H xs us Q I r h
  obtain ⟨a, kvs, rfl, ha, q⟩ := h
  obtain ⟨u, rfl, ru⟩ := vals1 r
  cases ru
  exact d_len I ha fun t s' I' => ⟨.int kvs.length, H, I', ⟨t, rfl⟩, q⟩
def rLenA (K : PySem.W.Frag) : RCl := fun xs H Q => (∃ x n, xs = [x] ∧ LenV K x H n ∧ Q (.int n) H) ∨ rLenD xs H Q
theorem cr_lenA {X : Cx} : CallR X (.builtin "len") (rLenA X.K) := CallR.or call_len call_lenRd
theorem cok_len : COk c (rLenA c.K) lenF := by
  intro g st ds vs d Q w rs e k
  unfold lenF at e
  split at e
  · rename_i x
    obtain ⟨v, rfl, r⟩ := preps1 rs
    split at e
    · rename_i z
      split at e
      · rename_i hz
        cases e
        exact .inl ⟨v, z.length, rfl, by rw [pr_str r rfl]; exact ⟨hz, rfl⟩, k g _ (Ext.refl g) w rfl⟩
      · cases e
    · split at e
      · rename_i xs hs
        cases e
        obtain ⟨a, vs, rfl, q, rs⟩ := seq_read w r hs
        refine .inl ⟨.ref a, vs.length, rfl, ?_, k g _ (Ext.refl g) w (by rw [rs.length]; exact rfl)⟩
        rcases q with q | q
        · exact .inl ⟨vs, q, rfl⟩
        · exact .inr ⟨vs, q, rfl⟩
      · obtain ⟨ks, hs, rfl⟩ := Option.map_eq_some_iff.mp e
        obtain ⟨a, vs, rfl, q, rs⟩ := dct_read w r hs
        have hl : vs.length = ks.length := by
          have := congrArg List.length (reps_keys ks vs rs)
          simpa using this
        exact .inr ⟨a, vs, rfl, q, k g _ (Ext.refl g) w (by rw [hl]; exact rfl)⟩
  · cases e
/-! max, min -/
def maxL : List Int → Int
  | [] => 0
  | x :: xs => xs.foldl max x
def minL : List Int → Int
  | [] => 0
  | x :: xs => xs.foldl min x
theorem foldl_max_mem : ∀ (xs : List Int) (x : Int), xs.foldl max x ∈ x :: xs ∧ ∀ y ∈ x :: xs, y ≤ xs.foldl max x
  | [], x => by simp
  | z :: xs, x => by
    obtain ⟨h1, h2⟩ := foldl_max_mem xs (max x z)
    have hm := h2 (max x z) List.mem_cons_self
    refine ⟨?_, fun y hy => ?_⟩
    · rcases List.mem_cons.mp h1 with h | h
      · rw [List.foldl_cons, h]
        rcases Int.le_total x z with hh | hh
        · rw [Int.max_eq_right hh]; simp
        · rw [Int.max_eq_left hh]; simp
      · rw [List.foldl_cons]; simp [h]
    · rw [List.foldl_cons]
      rcases List.mem_cons.mp hy with rfl | hy
      · omega
      · rcases List.mem_cons.mp hy with rfl | hy
        · omega
        · exact h2 y (List.mem_cons_of_mem _ hy)
theorem foldl_min_mem : ∀ (xs : List Int) (x : Int), xs.foldl min x ∈ x :: xs ∧ ∀ y ∈ x :: xs, xs.foldl min x ≤ y
  | [], x => by simp
  | z :: xs, x => by
    obtain ⟨h1, h2⟩ := foldl_min_mem xs (min x z)
    have hm := h2 (min x z) List.mem_cons_self
    refine ⟨?_, fun y hy => ?_⟩
    · rcases List.mem_cons.mp h1 with h | h
      · rw [List.foldl_cons, h]
        rcases Int.le_total x z with hh | hh
        · rw [Int.min_eq_left hh]; simp
        · rw [Int.min_eq_right hh]; simp
      · rw [List.foldl_cons]; simp [h]
    · rw [List.foldl_cons]
      rcases List.mem_cons.mp hy with rfl | hy
      · omega
      · rcases List.mem_cons.mp hy with rfl | hy
        · omega
        · exact h2 y (List.mem_cons_of_mem _ hy)
theorem maxL_max {ns : List Int} (h : 0 < ns.length) : maxL ns ∈ ns ∧ ∀ y ∈ ns, y ≤ maxL ns := by
  cases ns with
  | nil => simp at h
  | cons x xs => exact foldl_max_mem xs x
theorem minL_min {ns : List Int} (h : 0 < ns.length) : minL ns ∈ ns ∧ ∀ y ∈ ns, minL ns ≤ y := by
  cases ns with
  | nil => simp at h
  | cons x xs => exact foldl_min_mem xs x
def mmF (two : Int → Int → Int) (all : List Int → Int) : CF := fun st ds => match ds with
  | [d] => match lstOf st d with
    | some xs => match intsOf xs with
      | some ns => if 0 < ns.length then some (.int (all ns)) else none
      | none => none
    | none => none
  | [.int i, .int j] => some (.int (two i j))
  | _ => none
def maxF : CF := mmF (fun i j => if j > i then j else i) maxL
def minF : CF := mmF (fun i j => if j < i then j else i) minL
theorem cok_max : COk c (fun vs H Q => (∃ i j, vs = [.int i, .int j] ∧ Q (.int (if j > i then j else i)) H) ∨ rMax c.K vs H Q) maxF := by
  intro g st ds vs d Q w rs e k
  unfold maxF mmF at e
  split at e
  · obtain ⟨v, rfl, r⟩ := preps1 rs
    split at e
    · rename_i xs hs
      split at e
      · rename_i ns hn
        split at e
        · rename_i h0
          cases e
          obtain ⟨a, vs, rfl, q, rs⟩ := lst_read w r hs
          rw [intsOf_eq hn] at rs
          refine .inr ⟨a, ns, rfl, by rw [← reps_ints_eq rs]; exact SqL.of q, h0, fun m h1 h2 => ?_⟩
          obtain ⟨h3, h4⟩ := maxL_max h0
          have e : m = maxL ns := Int.le_antisymm (h4 m h1) (h2 _ h3)
          rw [e]
          exact k g _ (Ext.refl g) w rfl
        · cases e
      · cases e
    · cases e
  · cases e
    obtain ⟨v, v', rfl, r, r'⟩ := preps2 rs
    exact .inl ⟨_, _, by rw [pr_int r rfl, pr_int r' rfl], k g _ (Ext.refl g) w rfl⟩
  · cases e
theorem cok_min : COk c (fun vs H Q => (∃ i j, vs = [.int i, .int j] ∧ Q (.int (if j < i then j else i)) H) ∨ rMin c.K vs H Q) minF := by
  intro g st ds vs d Q w rs e k
  unfold minF mmF at e
  split at e
  · obtain ⟨v, rfl, r⟩ := preps1 rs
    split at e
    · rename_i xs hs
      split at e
      · rename_i ns hn
        split at e
        · rename_i h0
          cases e
          obtain ⟨a, vs, rfl, q, rs⟩ := lst_read w r hs
          rw [intsOf_eq hn] at rs
          refine .inr ⟨a, ns, rfl, by rw [← reps_ints_eq rs]; exact SqL.of q, h0, fun m h1 h2 => ?_⟩
          obtain ⟨h3, h4⟩ := minL_min h0
          have e : m = minL ns := Int.le_antisymm (h2 _ h3) (h4 m h1)
          rw [e]
          exact k g _ (Ext.refl g) w rfl
        · cases e
      · cases e
    · cases e
  · cases e
    obtain ⟨v, v', rfl, r, r'⟩ := preps2 rs
    exact .inl ⟨_, _, by rw [pr_int r rfl, pr_int r' rfl], k g _ (Ext.refl g) w rfl⟩
  · cases e
/-! all, any, sum -/
def alF (f : List Bool → Bool) : CF := fun st ds => match ds with
  | [d] => match lstOf st d with
    | some xs => (blsOf xs).map fun bs => .bl (f bs)
    | none => none
  | _ => none
def allF : CF := alF fun bs => bs.all id
def anyF : CF := alF fun bs => bs.any id
theorem cok_al {f : List Bool → Bool} : COk c (fun vs H Q => ∃ (a : Addr) (bs : List Bool), vs = [V.ref a] ∧ SqL c.K H a (bs.map V.bl) ∧ Q (.bl (f bs)) H) (alF f) := by
  intro g st ds vs d Q w rs e k
  unfold alF at e
  split at e
  · obtain ⟨v, rfl, r⟩ := preps1 rs
    split at e
    · rename_i xs hs
      obtain ⟨bs, hb, rfl⟩ := Option.map_eq_some_iff.mp e
      obtain ⟨a, vs, rfl, q, rs⟩ := lst_read w r hs
      rw [blsOf_eq hb] at rs
      exact ⟨a, bs, rfl, by rw [← reps_bls_eq rs]; exact SqL.of q, k g _ (Ext.refl g) w rfl⟩
    · cases e
  · cases e
def sumF : CF := fun st ds => match ds with
  | [d] => match lstOf st d with
    | some xs => (intsOf xs).map fun bs => .int bs.sum
    | none => none
  | _ => none
theorem cok_sum : COk c (rSum c.K) sumF := by
  intro g st ds vs d Q w rs e k
  unfold sumF at e
  split at e
  · obtain ⟨v, rfl, r⟩ := preps1 rs
    split at e
    · rename_i xs hs
      obtain ⟨bs, hb, rfl⟩ := Option.map_eq_some_iff.mp e
      obtain ⟨a, vs, rfl, q, rs⟩ := lst_read w r hs
      rw [intsOf_eq hb] at rs
      exact ⟨a, bs, rfl, by rw [← reps_ints_eq rs]; exact SqL.of q, k g _ (Ext.refl g) w rfl⟩
    · cases e
  · cases e
/-! sorted -/
def strKeys : List Key → Option (List Str)
  | [] => some []
  | .inr x :: ks => (strKeys ks).map (x :: ·)
  | _ :: _ => none
theorem strKeys_eq : ∀ {ks : List Key} {xs : List Str}, strKeys ks = some xs → ks = xs.map Sum.inr
  | [], xs, h => by cases h; rfl
  | k :: ks, xs, h => by
    cases k with
    | inr x =>
      obtain ⟨ms, h1, rfl⟩ := Option.map_eq_some_iff.mp (show (strKeys ks).map (x :: ·) = some xs from h)
      rw [strKeys_eq h1]; rfl
    | inl _ => cases h
@[simp] theorem strKeys_map (ns : List Str) : strKeys (ns.map Sum.inr) = some ns := by induction ns with | nil => rfl | cons n ns ih => simp [strKeys, ih]
def sortedF : CF := fun st ds => match ds with
  | [d] => match lstOf st d with
    | some xs => match intsOf xs with
      | some ns => if ns.length < 64 then some (.lst ((sortI ns).map .int)) else none
      | none => match strsOf xs with
        | some ns => if ns.length < 64 then some (.lst ((sortS ns).map .str)) else none
        | none => none
    | none => match dctOf st d with
      | some ks => match strKeys (ks.map (·.1)) with
        | some ns => if ns.length < 64 then some (.lst ((sortS ns).map .str)) else none
        | none => none
      | none => none
  | _ => none
def rSortA (K : PySem.W.Frag) : RCl := fun vs H Q => rSorted K vs H Q ∨ rSortedS K vs H Q ∨ (∃ (a : Addr) (kvs : List (Key × V)) (ks : List Str), vs = [.ref a] ∧ Rd H a (.dK kvs) ∧ kvs.map (·.1) = ks.map Sum.inr ∧ ks.length < 64 ∧
    ∀ ys p, ys.Perm ks → PyProof.Rows.sortedS ys = true → H p = none → Q (.ref p) (upd H p (.lst (ys.map V.str))))
theorem cr_sortA {X : Cx} (hc : X.calm = true) : CallR X (.builtin "sorted") (rSortA X.K) := CallR.or cr_sorted (CallR.or cr_sortedS (call_sortedD hc))
/-- a new list of data is handed on -/
theorem new_lst {g : G} {st : Store} (w : Wf c g st) {ds : List D} {vs : List V} {p : Addr} {Q : VK} (hp : g.H p = none) (rs : Reps c g ds vs) (k : ∀ g' v, Ext g g' → Wf c g' st → Rep c g' (.lst ds) v → Q v g'.H) : Q (.ref p) (upd g.H p (.lst vs)) := by
  obtain ⟨x1, w1⟩ := new_frz (o := .lst vs) w hp
  exact k _ (.ref p) x1 w1 ⟨p, vs, rfl, .inr rfl, upd_same, rs.le (le_new w hp)⟩
theorem new_tup {g : G} {st : Store} (w : Wf c g st) {ds : List D} {vs : List V} {p : Addr} {Q : VK} (hp : g.H p = none) (rs : Reps c g ds vs) (k : ∀ g' v, Ext g g' → Wf c g' st → Rep c g' (.tup ds) v → Q v g'.H) : Q (.ref p) (upd g.H p (.tup vs)) := by
  obtain ⟨x1, w1⟩ := new_frz (o := .tup vs) w hp
  exact k _ (.ref p) x1 w1 ⟨p, vs, rfl, .inr rfl, upd_same, rs.le (le_new w hp)⟩
theorem cok_sorted : COk c (rSortA c.K) sortedF := by
  intro g st ds vs d Q w rs e k
  unfold sortedF at e
  split at e
  · obtain ⟨v, rfl, r⟩ := preps1 rs
    split at e
    · rename_i xs hs
      obtain ⟨a, vs, rfl, q, rs⟩ := lst_read w r hs
      split at e
      · rename_i ns hn
        split at e
        · rename_i h64
          cases e
          rw [intsOf_eq hn] at rs
          refine .inl ⟨a, ns, rfl, by rw [← reps_ints_eq rs]; exact SqL.of q, h64, fun ns' p h1 h2 hp => ?_⟩
          have e : ns' = sortI ns := sorted_uniqI h1 h2
          rw [e]
          exact new_lst w hp (reps_ints _) k
        · cases e
      · split at e
        · rename_i ns hn
          split at e
          · rename_i h64
            cases e
            rw [strsOf_eq hn] at rs
            refine .inr (.inl ⟨a, ns, rfl, by rw [← reps_strs_eq rs]; exact SqL.of q, h64, fun ns' p h1 h2 hp => ?_⟩)
            have e : ns' = sortS ns := sorted_uniqS h1 (sortedS_pairwise _ h2)
            rw [e]
            exact new_lst w hp (reps_strs _) k
          · cases e
        · cases e
    · split at e
      · rename_i ks hk
        split at e
        · rename_i ns hn
          split at e
          · rename_i h64
            cases e
            obtain ⟨a, vs, rfl, q, rs⟩ := dct_read w r hk
            refine .inr (.inr ⟨a, vs, ns, rfl, q, by rw [reps_keys ks vs rs, strKeys_eq hn], h64, fun ns' p h1 h2 hp => ?_⟩)
            have e : ns' = sortS ns := sorted_uniqS h1 (sortedS_pairwise _ h2)
            rw [e]
            exact new_lst w hp (reps_strs _) k
          · cases e
        · cases e
      · cases e
  · cases e
end
end DL
end
section
set_option Elab.async false
set_option linter.all false
set_option maxRecDepth 100000
set_option autoImplicit false
/-! DL: more built-ins, methods of texts -/
namespace DL
open PySem PySem.Spec L2
open PyProof.Rows hiding St

/-! ### kinds -/
inductive Tag where
  | bi (n : String) | own (x : Str)
deriving DecidableEq
def tagV (c : Cst) : Tag → Value
  | .bi n => .type n
  | .own x => .ref (c.ad x)
/-- what is known of the law's classes -/
structure Sig where
  isa : Tag → Tag → Option Bool
/-- an own class whose instances isinstance may be asked of -/
structure InsFacts (K : PySem.W.Frag) (C : Addr) : Prop where
  cl : Cls K C
  ha : PySem.W.findIn K (.ref C) "__class__" = some (some (.builtin "object.__class__"))
  hn : PySem.W.specialIn K (.builtin "object.__class__") "__get__" = some (some (.builtin "getset_descriptor.__get__"))
  htk : PySem.W.takesIn K (.builtin "object.__class__") = some true
  hm : PySem.W.mroIn K C (.type "object") = some true
structure SigOk (L : Law) (S : Sig) : Prop where
  isa : ∀ t u b, S.isa t u = some b → PySem.W.kitOne L.c.K (tagV L.c t) (tagV L.c u) = some b
  ins : ∀ x u b, S.isa (.own x) u = some b → InsFacts L.c.K (L.c.ad x)
def tagOf (st : Store) : D → Option Tag
  | .non => some (.bi "NoneType")
  | .bl _ => some (.bi "bool")
  | .int _ => some (.bi "int")
  | .str _ => some (.bi "str")
  | .lst _ => some (.bi "list")
  | .tup _ => some (.bi "tuple")
  | .dct _ => some (.bi "dict")
  | .obj x _ => some (.own x)
  | .cell i => match st[i]? with
    | some (.lst _) => some (.bi "list")
    | some (.dct _) => some (.bi "dict")
    | some (.ldct _) => some (.bi "dict")
    | some (.ins x _) => some (.own x)
    | none => none
  | .ty _ => none | .ob _ => none | .scr _ => none
def clsTag : D → Option Tag
  | .ty n => some (.bi n)
  | .ob x => some (.own x)
  | _ => none
def clsTags : List D → Option (List Tag)
  | [] => some []
  | d :: ds => match clsTag d, clsTags ds with
    | some t, some ts => some (t :: ts)
    | _, _ => none
def isaAny (S : Sig) (t : Tag) : List Tag → Option Bool
  | [] => some false
  | u :: us => match S.isa t u with
    | some true => some true
    | some false => isaAny S t us
    | none => none
def isinstF (S : Sig) : CF := fun st ds => match ds with
  | [d, c] => match tagOf st d with
    | some t => match c with
      | .tup cs => match clsTags cs with
        | some us => (if us.isEmpty = true then none else isaAny S t us).map .bl
        | none => none
      | c => match clsTag c with
        | some u => (S.isa t u).map .bl
        | none => none
    | none => none
  | _ => none
section
variable {c : Cst} {g : G} {st : Store} {L : Law} {S : Sig}
theorem tag_ty (hS : SigOk L S) (w : Wf L.c g st) {d : D} {v : V} (r : PRep L.c g d v) {t : Tag} (h : tagOf st d = some t) (hi : ∀ x, t = .own x → InsFacts L.c.K (L.c.ad x)) : TyX L.c.K g.H v (tagV L.c t) := by
  rcases r with r | ⟨cl, a, e, _, r, q⟩
  · cases d with
    | non =>
      have e : v = .non := r
      cases h; subst e; exact .base .non
    | bl b =>
      have e : v = .bl b := r
      cases h; subst e; exact .base (.bl b)
    | int b =>
      have e : v = .int b := r
      cases h; subst e; exact .base (.int b)
    | str b =>
      have e : v = .str b := r
      cases h; subst e; exact .base (.str b)
    | lst xs =>
      obtain ⟨a, vs, e, _, q, _⟩ := r
      cases h; subst e; exact .base (.lst q)
    | tup xs =>
      obtain ⟨a, vs, e, _, q, _⟩ := r
      cases h; subst e; exact .base (.tup q)
    | dct xs =>
      obtain ⟨a, vs, e, _, q, _⟩ := r
      cases h; subst e
      rcases q with q | ⟨o, q⟩
      · exact .base (.dK q)
      · exact .fDict q
    | obj x fs =>
      obtain ⟨a, dx, vs, e, _, q, _⟩ := r
      cases h; subst e
      obtain ⟨h1, h2, h3, h4, h5⟩ := hi x rfl
      exact .base (.ins q h1 h2 h3 h4 h5)
    | cell i =>
      obtain ⟨a, e, q⟩ := r
      subst e
      cases hs : st[i]? with
      | none => simp [tagOf, hs] at h
      | some cl =>
        have cr := w.cr i cl a hs q
        cases cl with
        | lst xs =>
          have h : some (Tag.bi "list") = some t := by simpa [tagOf, hs] using h
          cases h
          obtain ⟨vs, e1, _⟩ := cr
          exact .base (.lst e1)
        | dct xs =>
          have h : some (Tag.bi "dict") = some t := by simpa [tagOf, hs] using h
          cases h
          obtain ⟨vs, e1, _⟩ := cr
          exact .base (.dK e1)
        | ldct xs =>
          have h : some (Tag.bi "dict") = some t := by simpa [tagOf, hs] using h
          cases h
          obtain ⟨o, vs, e1, _⟩ := cr
          exact .fDict e1
        | ins x fs =>
          have h : some (Tag.own x) = some t := by simpa [tagOf, hs] using h
          cases h
          obtain ⟨dx, vs, e1, _⟩ := cr
          obtain ⟨h1, h2, h3, h4, h5⟩ := hi x rfl
          exact .base (.ins e1 h1 h2 h3 h4 h5)
    | ty _ => cases h
    | ob _ => cases h
    | scr _ => cases h
  · subst e q
    cases cl with
    | lst xs =>
      cases h
      obtain ⟨vs, e1, _⟩ := r
      exact .base (.lst e1)
    | dct xs =>
      cases h
      obtain ⟨vs, e1, _⟩ := r
      exact .base (.dK e1)
    | ldct xs =>
      cases h
      obtain ⟨o, vs, e1, _⟩ := r
      exact .fDict e1
    | ins x fs =>
      cases h
      obtain ⟨dx, vs, e1, _⟩ := r
      obtain ⟨h1, h2, h3, h4, h5⟩ := hi x rfl
      exact .base (.ins e1 h1 h2 h3 h4 h5)
theorem cls_v {d : D} {v : V} (r : PRep c g d v) {u : Tag} (h : clsTag d = some u) : ClsV v (tagV c u) := by
  rcases r with r | ⟨cl, a, e, _, r, q⟩
  · cases d with
    | ty n =>
      have e : v = .ty n := r
      cases h; subst e; exact .ty n
    | ob x =>
      have e : v = .ref (c.ad x) := r
      cases h; subst e; exact .own _
    | _ => cases h
  · subst q
    cases cl <;> cases h
theorem cls_vs : ∀ {ds : List D} {vs : List V} {us : List Tag}, Reps c g ds vs → clsTags ds = some us → Paired ClsV vs (us.map (tagV c))
  | [], vs, us, r, h => by
    have e : vs = [] := r
    cases h; subst e; exact .nil
  | d :: ds, vs, us, r, h => by
    obtain ⟨v, ws, rfl, r, rs⟩ := r
    unfold clsTags at h
    split at h
    · rename_i t ts h1 h2
      cases h
      exact .cons (cls_v (.inl r) h1) (cls_vs rs h2)
    · cases h
theorem isaAny_ok (hS : SigOk L S) {t : Tag} : ∀ {us : List Tag} {b : Bool}, isaAny S t us = some b → PySem.W.kitAny L.c.K (tagV L.c t) (us.map (tagV L.c)) = some b
  | [], b, h => h
  | u :: us, b, h => by
    unfold isaAny at h
    show PySem.W.kitAny L.c.K _ (tagV L.c u :: us.map (tagV L.c)) = some b
    unfold PySem.W.kitAny
    split at h
    · rename_i e
      rw [hS.isa _ _ _ e]; exact h
    · rename_i e
      rw [hS.isa _ _ _ e]
      exact isaAny_ok hS h
    · cases h
theorem isaAny_first (hS : SigOk L S) {x : Str} {us : List Tag} {b : Bool} (h : isaAny S (.own x) us = some b) (hn : us ≠ []) : InsFacts L.c.K (L.c.ad x) := by
  cases us with
  | nil => exact absurd rfl hn
  | cons u us =>
    unfold isaAny at h
    split at h
    · rename_i e; exact hS.ins _ _ _ e
    · rename_i e; exact hS.ins _ _ _ e
    · cases h
def rIsiA (K : PySem.W.Frag) : RCl := fun xs H Q => rIsi K xs H Q ∨ rIsiT K xs H Q
theorem cr_isi {X : Cx} : CallR X (.builtin "isinstance") (rIsiA X.K) := CallR.or call_isi call_isiT
theorem cok_isi (hS : SigOk L S) : COk L.c (rIsiA L.c.K) (isinstF S) := by
  intro g st ds vs d Q w rs e k
  unfold isinstF at e
  split at e
  · rename_i x y
    obtain ⟨vx, vy, rfl, rx, ry⟩ := preps2 rs
    split at e
    · rename_i t ht
      split at e
      · rename_i cs
        split at e
        · rename_i us hu
          obtain ⟨b, hb, rfl⟩ := Option.map_eq_some_iff.mp e
          split at hb
          · cases hb
          · rename_i hne
            obtain ⟨a, ws, rfl, q, rcs⟩ := tup_read ry (ds := cs) rfl
            refine .inr ⟨vx, a, ws, _, _, b, rfl, q, cls_vs rcs hu, tag_ty hS w rx ht (fun z hz => ?_), isaAny_ok hS hb, k g _ (Ext.refl g) w rfl⟩
            rw [hz] at hb
            exact isaAny_first hS hb fun hn => hne (by rw [hn]; rfl)
        · cases e
      · split at e
        · rename_i u hu
          obtain ⟨b, hb, rfl⟩ := Option.map_eq_some_iff.mp e
          exact .inl ⟨vx, vy, _, _, b, rfl, cls_v ry hu, tag_ty hS w rx ht (fun z hz => hS.ins _ _ _ (hz ▸ hb)), hS.isa _ _ _ hb, k g _ (Ext.refl g) w rfl⟩
        · cases e
    · cases e
  · cases e

/-! ### str, repr, int, bool, list, tuple, dict -/
def strF : CF := fun st ds => match ds with
  | [.int i] => if i.natAbs.log2 < 1920 then some (.str (toString i)) else none
  | [.str x] => some (.str x)
  | _ => none
def rStrA : RCl := fun xs H Q => (∃ i, xs = [.int i] ∧ i.natAbs.log2 < 1920 ∧ Q (.str (toString i)) H) ∨ ∃ a, xs = [.str a] ∧ Q (.str a) H
theorem cr_str {X : Cx} : CallR X (.type "str") rStrA := CallR.or call_str_int SkE.call_str_str
theorem cok_str : COk c rStrA strF := by
  intro g st ds vs d Q w rs e k
  unfold strF at e
  split at e
  · obtain ⟨v, rfl, r⟩ := preps1 rs
    split at e
    · rename_i h
      cases e
      exact .inl ⟨_, by rw [pr_int r rfl], h, k g _ (Ext.refl g) w rfl⟩
    · cases e
  · obtain ⟨v, rfl, r⟩ := preps1 rs
    cases e
    exact .inr ⟨_, by rw [pr_str r rfl], k g _ (Ext.refl g) w rfl⟩
  · cases e
def reprF : CF := fun st ds => match ds with
  | [.int i] => if i.natAbs.log2 < 1920 then some (.str (toString i)) else none
  | [.str x] => if (reprText x).length ≤ sizeLine then some (.str (reprText x)) else none
  | [.bl b] => some (.str (if b then "True" else "False"))
  | [.non] => some (.str "None")
  | _ => none
def rReprA : RCl := fun xs H Q => (∃ i, xs = [.int i] ∧ i.natAbs.log2 < 1920 ∧ Q (.str (toString i)) H) ∨ (∃ a, xs = [.str a] ∧ (reprText a).length ≤ sizeLine ∧ Q (.str (reprText a)) H) ∨
  (∃ b, xs = [.bl b] ∧ Q (.str (if b then "True" else "False")) H) ∨ (xs = [.non] ∧ Q (.str "None") H)
theorem cr_repr {X : Cx} : CallR X (.builtin "repr") rReprA := by
  refine CallR.or SkE.call_repr_int (CallR.or ?_ (CallR.or ?_ ?_))
  · intro pins s σ H xs us Q I r h
    obtain ⟨x, rfl, hz, q⟩ := h
    obtain ⟨u, rfl, t, rfl⟩ := vals1 r
    exact PySem.P.repr_of_str ⟨.str _, H, I.tok _, ⟨_, rfl⟩, q⟩ hz
  · intro pins s σ H xs us Q I r h
    obtain ⟨x, rfl, q⟩ := h
    obtain ⟨u, rfl, ru⟩ := vals1 r
    have e : u = Value.bool x := ru
    subst e
    exact PySem.P.repr_of_bool ⟨.str _, H, I.tok _, ⟨_, rfl⟩, q⟩
  · intro pins s σ H xs us Q I r h
    obtain ⟨rfl, q⟩ := h
    obtain ⟨u, rfl, ru⟩ := vals1 r
    have e : u = Value.none := ru
    subst e
    exact PySem.P.repr_of_none ⟨.str _, H, I.tok _, ⟨_, rfl⟩, q⟩
theorem cok_repr : COk c rReprA reprF := by
  intro g st ds vs d Q w rs e k
  unfold reprF at e
  split at e
  · obtain ⟨v, rfl, r⟩ := preps1 rs
    split at e
    · rename_i h
      cases e
      exact .inl ⟨_, by rw [pr_int r rfl], h, k g _ (Ext.refl g) w rfl⟩
    · cases e
  · obtain ⟨v, rfl, r⟩ := preps1 rs
    split at e
    · rename_i h
      cases e
      exact .inr (.inl ⟨_, by rw [pr_str r rfl], h, k g _ (Ext.refl g) w rfl⟩)
    · cases e
  · obtain ⟨v, rfl, r⟩ := preps1 rs
    cases e
    exact .inr (.inr (.inl ⟨_, by rw [pr_bl r rfl], k g _ (Ext.refl g) w rfl⟩))
  · obtain ⟨v, rfl, r⟩ := preps1 rs
    cases e
    exact .inr (.inr (.inr ⟨by rw [pr_non r rfl], k g _ (Ext.refl g) w rfl⟩))
  · cases e
def intF : CF := fun st ds => match ds with
  | [.int i] => some (.int i)
  | [.bl b] => some (.int (if b then 1 else 0))
  | [.str x] => if x.length ≤ 640 then (PySem.intText? x).map .int else none
  | _ => none
def rIntA : RCl := fun xs H Q => ((∃ i, xs = [.int i] ∧ Q (.int i) H) ∨ ∃ k, xs = [.bl k] ∧ Q (.int (if k then 1 else 0)) H) ∨ ∃ a n, xs = [.str a] ∧ PySem.intText? a = some n ∧ a.length ≤ 640 ∧ Q (.int n) H
theorem cr_int {X : Cx} : CallR X (.type "int") rIntA := CallR.or call_int1 call_int_str
theorem cok_int : COk c rIntA intF := by
  intro g st ds vs d Q w rs e k
  unfold intF at e
  split at e
  · obtain ⟨v, rfl, r⟩ := preps1 rs
    cases e
    exact .inl (.inl ⟨_, by rw [pr_int r rfl], k g _ (Ext.refl g) w rfl⟩)
  · obtain ⟨v, rfl, r⟩ := preps1 rs
    cases e
    exact .inl (.inr ⟨_, by rw [pr_bl r rfl], k g _ (Ext.refl g) w rfl⟩)
  · obtain ⟨v, rfl, r⟩ := preps1 rs
    split at e
    · rename_i h
      obtain ⟨n, hn, rfl⟩ := Option.map_eq_some_iff.mp e
      exact .inr ⟨_, n, by rw [pr_str r rfl], hn, h, k g _ (Ext.refl g) w rfl⟩
    · cases e
  · cases e
def boolF : CF := fun st ds => match ds with
  | [.int i] => some (.bl (i != 0))
  | [.bl b] => some (.bl b)
  | _ => none
theorem cok_bool : COk c (fun xs H Q => (∃ i, xs = [.int i] ∧ Q (.bl (i != 0)) H) ∨ ∃ k, xs = [.bl k] ∧ Q (.bl k) H) boolF := by
  intro g st ds vs d Q w rs e k
  unfold boolF at e
  split at e
  · obtain ⟨v, rfl, r⟩ := preps1 rs
    cases e
    exact .inl ⟨_, by rw [pr_int r rfl], k g _ (Ext.refl g) w rfl⟩
  · obtain ⟨v, rfl, r⟩ := preps1 rs
    cases e
    exact .inr ⟨_, by rw [pr_bl r rfl], k g _ (Ext.refl g) w rfl⟩
  · cases e
def listF : CF := fun st ds => match ds with
  | [d] => match seqOf st d with
    | some xs => some (.lst xs)
    | none => (dctOf st d).map fun ks => .lst (ks.map fun kv => keyD kv.1)
  | _ => none
def rListA (K : PySem.W.Frag) : RCl := fun xs H Q => (∃ p ys, xs = [V.ref p] ∧ (SqL K H p ys ∨ SqT K H p ys) ∧ ∀ l, H l = none → Q (.ref l) (upd H l (.lst ys))) ∨
  ∃ (a : Addr) (kvs : List (Key × V)), xs = [.ref a] ∧ Rd H a (.dK kvs) ∧ ∀ p, H p = none → Q (.ref p) (upd H p (.lst (kvs.map fun kv => kV kv.1)))
theorem cr_list {X : Cx} (hc : X.calm = true) : CallR X (.type "list") (rListA X.K) := CallR.or call_list_of (call_listD hc)
theorem cok_list : COk c (rListA c.K) listF := by
  intro g st ds vs d Q w rs e k
  unfold listF at e
  split at e
  · obtain ⟨v, rfl, r⟩ := preps1 rs
    split at e
    · rename_i xs hs
      cases e
      obtain ⟨a, vs, rfl, q, rs⟩ := seq_read w r hs
      exact .inl ⟨a, vs, rfl, q, fun p hp => new_lst w hp rs k⟩
    · obtain ⟨ks, hs, rfl⟩ := Option.map_eq_some_iff.mp e
      obtain ⟨a, vs, rfl, q, rs⟩ := dct_read w r hs
      refine .inr ⟨a, vs, rfl, q, fun p hp => new_lst w hp ?_ k⟩
      have e1 : (vs.map fun kv => kV kv.1) = (vs.map (·.1)).map kV := by rw [List.map_map]; rfl
      have e2 : (ks.map fun kv => keyD kv.1) = (ks.map (·.1)).map keyD := by rw [List.map_map]; rfl
      rw [e1, e2, reps_keys ks vs rs]
      exact reps_keyD _
  · cases e
def tupleF : CF := fun st ds => match ds with
  | [d] => match lstOf st d with
    | some xs => some (.tup xs)
    | none => match d with
      | .tup xs => some (.tup xs)
      | _ => none
  | _ => none
theorem cok_tuple : COk c (fun xs H Q => ∃ p ys, xs = [V.ref p] ∧ ((SqL c.K H p ys ∧ ∀ l, H l = none → Q (.ref l) (upd H l (.tup ys))) ∨ (SqT c.K H p ys ∧ Q (.ref p) H))) tupleF := by
  intro g st ds vs d Q w rs e k
  unfold tupleF at e
  split at e
  · obtain ⟨v, rfl, r⟩ := preps1 rs
    split at e
    · rename_i xs hs
      cases e
      obtain ⟨a, vs, rfl, q, rs⟩ := lst_read w r hs
      exact ⟨a, vs, rfl, .inl ⟨SqL.of q, fun p hp => new_tup w hp rs k⟩⟩
    · split at e
      · rename_i xs _
        cases e
        obtain ⟨a, vs, rfl, q, rs⟩ := tup_read r (ds := xs) rfl
        have fa : Rep c g (.tup xs) (.ref a) := by
          rcases r with r | ⟨cl, _, _, _, _, q⟩
          · exact r
          · cases cl <;> cases q
        exact ⟨a, vs, rfl, .inr ⟨SqT.of q, k g _ (Ext.refl g) w fa⟩⟩
      · cases e
  · cases e
/-! dict of pairs -/
def putD (kvs : List (Key × D)) (k : Key) (v : D) : List (Key × D) := if (kvs.any fun kv => decide (kv.1 = k)) = true then kvs.map fun kv => if kv.1 = k then (kv.1, v) else kv else kvs ++ [(k, v)]
def mergeD (kvs more : List (Key × D)) : List (Key × D) := more.foldl (fun acc kv => putD acc kv.1 kv.2) kvs
theorem RepK.any {k : Key} : ∀ {ks : List (Key × D)} {vs : List (Key × V)}, RepK c g ks vs → (vs.any fun kv => decide (kv.1 = k)) = ks.any fun kv => decide (kv.1 = k)
  | [], vs, h => by
    have e : vs = [] := h
    rw [e]; rfl
  | (j, d) :: ks, _, h => by
    obtain ⟨v, ws, rfl, r, rs⟩ := h
    rw [List.any_cons, List.any_cons, RepK.any rs]
theorem RepK.repl {k : Key} {d : D} {v : V} (rd : Rep c g d v) : ∀ {ks : List (Key × D)} {vs : List (Key × V)}, RepK c g ks vs → RepK c g (ks.map fun kv => if kv.1 = k then (kv.1, d) else kv) (vs.map fun kv => if kv.1 = k then (kv.1, v) else kv)
  | [], vs, h => by
    have e : vs = [] := h
    rw [e]; exact rfl
  | (j, x) :: ks, _, h => by
    obtain ⟨y, ws, rfl, r, rs⟩ := h
    rw [List.map_cons, List.map_cons]
    by_cases hj : j = k
    · rw [if_pos hj, if_pos hj]
      exact ⟨v, _, rfl, rd, RepK.repl rd rs⟩
    · rw [if_neg hj, if_neg hj]
      exact ⟨y, _, rfl, r, RepK.repl rd rs⟩
theorem RepK.append : ∀ {ks ls : List (Key × D)} {vs ws : List (Key × V)}, RepK c g ks vs → RepK c g ls ws → RepK c g (ks ++ ls) (vs ++ ws)
  | [], ls, vs, ws, h, q => by
    have e : vs = [] := h
    rw [e]; exact q
  | (k, d) :: ks, ls, _, ws, h, q => by
    obtain ⟨v, us, rfl, r, rs⟩ := h
    exact ⟨v, us ++ ws, rfl, r, RepK.append rs q⟩
theorem RepK.put {k : Key} {d : D} {v : V} {ks : List (Key × D)} {vs : List (Key × V)} (h : RepK c g ks vs) (rd : Rep c g d v) : RepK c g (putD ks k d) (putK vs k v) := by
  unfold putD putK
  rw [RepK.any h]
  split
  · exact h.repl rd
  · exact h.append ⟨v, [], rfl, rd, rfl⟩
theorem RepK.merge : ∀ {ms : List (Key × D)} {ws : List (Key × V)} {ks : List (Key × D)} {vs : List (Key × V)}, RepK c g ms ws → RepK c g ks vs → RepK c g (mergeD ks ms) (mergeK vs ws)
  | [], ws, ks, vs, h, q => by
    have e : ws = [] := h
    rw [e]; exact q
  | (k, d) :: ms, _, ks, vs, h, q => by
    obtain ⟨v, us, rfl, r, rs⟩ := h
    exact RepK.merge (ms := ms) (ws := us) rs (q.put r)
def pairOf : D → Option (Key × D)
  | .tup [x, y] => (keyOf x).map fun k => (k, y)
  | _ => none
def pairsOfD : List D → Option (List (Key × D))
  | [] => some []
  | d :: ds => match pairOf d, pairsOfD ds with
    | some p, some ps => some (p :: ps)
    | _, _ => none
def dictF : CF := fun st ds => match ds with
  | [d] => match lstOf st d with
    | some xs => (pairsOfD xs).map fun ps => .dct (mergeD [] ps)
    | none => (dctOf st d).map .dct
  | _ => none
theorem keyOf_v {d : D} {v : V} {k : Key} (r : Rep c g d v) (h : keyOf d = some k) : v = kV k := by
  cases d with
  | int i =>
    cases h; exact r
  | str x =>
    cases h; exact r
  | _ => cases h
theorem pairs_read : ∀ {ds : List D} {vs : List V} {ps : List (Key × D)}, Reps c g ds vs → pairsOfD ds = some ps → ∃ (as : List Addr) (kvs : List (Key × V)), vs = as.map V.ref ∧ RepK c g ps kvs ∧ Paired (fun p kv => SqT c.K g.H p [kV kv.1, kv.2]) as kvs
  | [], vs, ps, r, h => by
    have e : vs = [] := r
    cases h; subst e
    exact ⟨[], [], rfl, rfl, .nil⟩
  | d :: ds, vs, ps, r, h => by
    obtain ⟨v, ws, rfl, r, rs⟩ := r
    unfold pairsOfD at h
    split at h
    · rename_i p qs h1 h2
      cases h
      obtain ⟨as, kvs, rfl, rk, pr⟩ := pairs_read rs h2
      unfold pairOf at h1
      split at h1
      · rename_i x y
        obtain ⟨k, hk, rfl⟩ := Option.map_eq_some_iff.mp h1
        obtain ⟨a, us, rfl, _, q, r⟩ := r
        obtain ⟨vx, us, rfl, rx, r⟩ := r
        obtain ⟨vy, us, rfl, ry, r⟩ := r
        have e : us = [] := r
        subst e
        have ek := keyOf_v rx hk
        subst ek
        exact ⟨a :: as, (k, vy) :: kvs, rfl, ⟨vy, kvs, rfl, ry, rk⟩, .cons (SqT.of q) pr⟩
      · cases h1
    · cases h
theorem new_dct {ks : List (Key × D)} {vs : List (Key × V)} {p : Addr} {Q : VK} (w : Wf c g st) (hp : g.H p = none) (rs : RepK c g ks vs) (k : ∀ g' v, Ext g g' → Wf c g' st → Rep c g' (.dct ks) v → Q v g'.H) : Q (.ref p) (upd g.H p (.dK vs)) := by
  obtain ⟨x1, w1⟩ := new_frz (o := .dK vs) w hp
  exact k _ (.ref p) x1 w1 ⟨p, vs, rfl, .inr rfl, .inl upd_same, rs.le (le_new w hp)⟩
def rDictA (K : PySem.W.Frag) : RCl := fun xs H Q => (∃ (a : Addr) (ps : List Addr) (kvs : List (Key × V)), xs = [V.ref a] ∧ SqL K H a (ps.map V.ref) ∧ Paired (fun p kv => SqT K H p [kV kv.1, kv.2]) ps kvs ∧
    ∀ p, H p = none → Q (.ref p) (upd H p (.dK (mergeK [] kvs)))) ∨ (∃ (a : Addr) (kvs : List (Key × V)), xs = [.ref a] ∧ Rd H a (.dK kvs) ∧ ∀ p, H p = none → Q (.ref p) (upd H p (.dK kvs)))
theorem cr_dict {X : Cx} (hc : X.calm = true) : CallR X (.type "dict") (rDictA X.K) := CallR.or (call_dictP hc) call_dictD
theorem cok_dict : COk c (rDictA c.K) dictF := by
  intro g st ds vs d Q w rs e k
  unfold dictF at e
  split at e
  · obtain ⟨v, rfl, r⟩ := preps1 rs
    split at e
    · rename_i xs hs
      obtain ⟨ps, hp, rfl⟩ := Option.map_eq_some_iff.mp e
      obtain ⟨a, vs, rfl, q, rs⟩ := lst_read w r hs
      obtain ⟨as, kvs, rfl, rk, pr⟩ := pairs_read rs hp
      exact .inl ⟨a, as, kvs, rfl, SqL.of q, pr, fun p hp => new_dct w hp (RepK.merge rk (ks := []) (vs := []) rfl) k⟩
    · obtain ⟨ks, hs, rfl⟩ := Option.map_eq_some_iff.mp e
      obtain ⟨a, vs, rfl, q, rs⟩ := dct_read w r hs
      exact .inr ⟨a, vs, rfl, q, fun p hp => new_dct w hp rs k⟩
  · cases e
end

/-! ### the calls -/
section
variable {L : Law} {X : Cx} {W : WX} {k : Nat} {e o : Expr} {f fo : ER} {pos p apos : Pos} {es rest : List Expr} {as : AR} {x : Str} {id : String} {r : RCl} {F : CF}
theorem no_stars {pos : Pos} {env : Env} : ∀ {es : List Expr}, es.all NoStar = true → (backTo pos (starEach es env)).any (·.1) = false
  | [], _ => rfl
  | e :: es, h => by
    rw [List.all_cons, Bool.and_eq_true] at h
    rw [no_star h.1]
    show (false || (backTo pos (starEach es env)).any (·.1)) = false
    rw [no_stars h.2]; rfl
theorem post_call {g : G} {env : DEnv} {σ : St} {st : Store} {Q : VK} (hk : COk L.c r F) (ha : DAP L.c X W es as) (w : Wf L.c g st) (ev : EnvR L.c g env σ) (q : PostR L.c W g σ (Rep L.c) (fCall F as env st) Q) : tCB r (bA X es) σ g.H Q := by
  refine ha g env σ st _ w ev (PostR.bind q fun xs s g1 vs x1 w1 rs p1 => ?_)
  cases hf : F s xs with
  | none => rw [hf] at p1; exact p1.elim
  | some d =>
    rw [hf] at p1
    exact hk g1 s xs vs d Q w1 rs hf fun g' v x' w' r => p1 g' v (x1.trans x') w' r
theorem s_bcall (hX : XOw L X) (hc : CallR X (.builtin id) r) (hk : COk L.c r F) (hg : Gl X x) (hm : FreeOk L x) (hv : bootBuiltins x = some (.builtin id)) (hn : x ≠ "__name__") (hdb : NmOk x = true) (hs : (e :: es).all NoStar = true) (ha : DAP L.c X W (e :: es) as) :
    DE L.c X W (.Call (.Name x p) (e :: es) [] pos) (fCall F as) := fun g env σ st Q w ev q => by
  rw [List.all_cons, Bool.and_eq_true] at hs
  exact bE_of (pe_callB hc hg (by rw [hX.mg]; exact hm) hv pa_b hn (nm1 hdb) (no_star hs.1) (no_stars hs.2)) (post_call hk ha w ev q)
theorem s_tcall (hX : XOw L X) (hc : CallR X (.type id) r) (hk : COk L.c r F) (hg : Gl X x) (hm : FreeOk L x) (hv : bootBuiltins x = some (.type id)) (hn : x ≠ "__name__") (hdb : NmOk x = true) (hs : (e :: es).all NoStar = true) (ha : DAP L.c X W (e :: es) as) :
    DE L.c X W (.Call (.Name x p) (e :: es) [] pos) (fCall F as) := fun g env σ st Q w ev q => by
  rw [List.all_cons, Bool.and_eq_true] at hs
  exact bE_of (pe_callTy hc hg (by rw [hX.mg]; exact hm) hv pa_b hn (nm1 hdb) (no_star hs.1) (no_stars hs.2)) (post_call hk ha w ev q)

/-! ### methods of texts -/
abbrev MF := Str → Store → List D → Option D
def fMeth (F : MF) (fo : ER) (as : AR) : ER := fun env st => (fo env st).bind fun x s => match x with
  | .str z => (as env s).bind fun xs s2 => .opt (F z s2 xs) s2
  | _ => .bad
abbrev RMt := V → List V → Hp → VK → Prop
def MOk (c : Cst) (r : RMt) (F : MF) : Prop := ∀ g st z ds vs d (Q : VK), Wf c g st → PReps c g ds vs → F z st ds = some d →
  (∀ g' v, Ext g g' → Wf c g' st → Rep c g' d v → Q v g'.H) → r (.str z) vs g.H Q
variable {rm : RMt} {Fm : MF} {name : Str}
theorem s_meth (hX : XOw L X) (slot : PySem.Slot "str" name id) (ty : typeOf (.builtin id) = pure (.type "method_descriptor")) (hr : MtR X id rm) (hk : MOk L.c rm Fm) (ho : DP L.c X W o fo) (ha : DAP L.c X W (e :: es) as) (hs : (e :: es).all NoStar = true)
    (hbase : attributeBase o name X.env (eval o X.env) = eval o X.env) (hfew : ((backTo pos (starEach (e :: es) X.env)).all (fun x => !x.1) && (backToKw pos (keywordEach [] X.env)).all (fun x => x.1.isSome) && decide ((e :: es).length + ([] : List Keyword).length + (if ([] : List Keyword).isEmpty then 0 else 1) < 30)) = true)
    (hline : (apos.endLine == pos.line) = true) : DE L.c X W (.Call (.Attribute o name apos) (e :: es) [] pos) (fMeth Fm fo as) := fun g env σ st Q w ev q => by
  rw [List.all_cons, Bool.and_eq_true] at hs
  refine bE_of (pe_bm (T := "str") F.plainAttrs_str slot ty hr pe_b pa_b hbase hfew hline (no_star hs.1) (no_stars hs.2)) ?_
  refine ho g env σ st _ w ev (PostR.bind q fun x s g1 v x1 w1 r q1 => ?_)
  cases x with
  | str z =>
    rw [pr_str r rfl]
    refine ⟨rfl, ?_⟩
    refine ha g1 env σ s _ w1 (ev.ext x1 w) (PostR.bind (PostR.later x1 q1) fun xs s2 g2 vs x2 w2 rs q2 => ?_)
    cases hf : Fm z s2 xs with
    | none => rw [hf] at q2; exact q2.elim
    | some d =>
      rw [hf] at q2
      exact hk g2 s2 z xs vs d Q w2 rs hf fun g' v x' w' r => q2 g' v (x2.trans x') w' r
  | _ => exact q1.elim
def fMeth0 (F : MF) (fo : ER) : ER := fun env st => (fo env st).bind fun x s => match x with
  | .str z => .opt (F z s []) s
  | _ => .bad
theorem s_meth0 (hX : XOw L X) (slot : PySem.Slot "str" name id) (ty : typeOf (.builtin id) = pure (.type "method_descriptor")) (hr : MtR X id rm) (hk : MOk L.c rm Fm) (ho : DP L.c X W o fo)
    (hbase : attributeBase o name X.env (eval o X.env) = eval o X.env) (hline : (apos.endLine == pos.line) = true) : DE L.c X W (.Call (.Attribute o name apos) [] [] pos) (fMeth0 Fm fo) := fun g env σ st Q w ev q => by
  refine bE_of (pe_bm0 (T := "str") F.plainAttrs_str slot ty hr pe_b hbase hline) ?_
  refine ho g env σ st _ w ev (PostR.bind q fun x s g1 v x1 w1 r q1 => ?_)
  cases x with
  | str z =>
    rw [pr_str r rfl]
    refine ⟨rfl, ?_⟩
    have q1 : PostR L.c W g1 σ (Rep L.c) (.opt (Fm z s []) s) Q := PostR.later x1 q1
    cases hf : Fm z s [] with
    | none => rw [hf] at q1; exact q1.elim
    | some d =>
      rw [hf] at q1
      exact hk g1 s z [] [] d Q w1 rfl hf fun g' v x' w' r => q1 g' v x' w' r
  | _ => exact q1.elim
end
section
variable {c : Cst}
def splitF : MF := fun a st ds => match ds with
  | [.str b] => if (b.length == 0) = false ∧ a.length + 2 ≤ sizeLine then some (.lst ((Txt.split a b).map .str)) else none
  | [.str b, .int k] => if (b.length == 0) = false ∧ -(2 ^ 63) ≤ k ∧ k < 2 ^ 63 ∧ a.length + 2 ≤ sizeLine then some (.lst ((Txt.splitMax a b k).map .str)) else none
  | _ => none
def rSplitA : RMt := fun x xs H Q => (∃ a b, x = .str a ∧ xs = [.str b] ∧ (b.length == 0) = false ∧ a.length + 2 ≤ sizeLine ∧ rNewStrs (Txt.split a b) H Q) ∨
  (∃ (a b : Str) (k : Int), x = .str a ∧ xs = [.str b, .int k] ∧ (b.length == 0) = false ∧ -(2 ^ 63) ≤ k ∧ k < 2 ^ 63 ∧ a.length + 2 ≤ sizeLine ∧ rNewStrs (Txt.splitMax a b k) H Q)
theorem mr_split {X : Cx} : MtR X "str.split" rSplitA := MtR.or mt_split mt_splitMax
theorem mok_split : MOk c rSplitA splitF := by
  intro g st z ds vs d Q w rs e k
  unfold splitF at e
  split at e
  · obtain ⟨v, rfl, r⟩ := preps1 rs
    split at e
    · rename_i h
      cases e
      exact .inl ⟨_, _, rfl, by rw [pr_str r rfl], h.1, h.2, fun p hp => new_lst w hp (reps_strs _) k⟩
    · cases e
  · obtain ⟨v, v', rfl, r, r'⟩ := preps2 rs
    split at e
    · rename_i h
      cases e
      exact .inr ⟨_, _, _, rfl, by rw [pr_str r rfl, pr_int r' rfl], h.1, h.2.1, h.2.2.1, h.2.2.2, fun p hp => new_lst w hp (reps_strs _) k⟩
    · cases e
  · cases e
def joinF : MF := fun a st ds => match ds with
  | [d] => match seqOf st d with
    | some xs => match strsOf xs with
      | some ys => if (ys.map (·.length)).sum + ys.length * a.length ≤ 16777216 then some (.str (Txt.join a ys)) else none
      | none => none
    | none => none
  | _ => none
def rJoinA (K : PySem.W.Frag) : RMt := fun x xs H Q => ∃ a p, ∃ ys : List Str, x = V.str a ∧ xs = [V.ref p] ∧ (SqL K H p (ys.map V.str) ∨ SqT K H p (ys.map V.str)) ∧ (ys.map (·.length)).sum + ys.length * a.length ≤ 16777216 ∧ Q (.str (Txt.join a ys)) H
theorem mok_join : MOk c (rJoinA c.K) joinF := by
  intro g st z ds vs d Q w rs e k
  unfold joinF at e
  split at e
  · obtain ⟨v, rfl, r⟩ := preps1 rs
    split at e
    · rename_i xs hs
      split at e
      · rename_i ys hy
        split at e
        · rename_i h
          cases e
          obtain ⟨a, vs, rfl, q, rs⟩ := seq_read w r hs
          rw [strsOf_eq hy] at rs
          have e := reps_strs_eq rs
          subst e
          exact ⟨z, a, ys, rfl, rfl, q, h, k g _ (Ext.refl g) w rfl⟩
        · cases e
      · cases e
    · cases e
  · cases e
def ss1 (h : Str → Str → D) : MF := fun a st ds => match ds with
  | [.str b] => some (h a b)
  | _ => none
def startsF : MF := ss1 fun a b => .bl (Txt.startswith a b)
def endsF : MF := ss1 fun a b => .bl (Txt.endswith a b)
theorem mok_ss1 {h : Str → Str → D} {hv : Str → Str → V} (hh : ∀ g a b, Rep c g (h a b) (hv a b)) : MOk c (fun x xs H Q => ∃ a b, x = .str a ∧ xs = [.str b] ∧ Q (hv a b) H) (ss1 h) := by
  intro g st z ds vs d Q w rs e k
  unfold ss1 at e
  split at e
  · obtain ⟨v, rfl, r⟩ := preps1 rs
    cases e
    exact ⟨_, _, rfl, by rw [pr_str r rfl], k g _ (Ext.refl g) w (hh g _ _)⟩
  · cases e
theorem mok_starts : MOk c (fun x xs H Q => ∃ a b, x = .str a ∧ xs = [.str b] ∧ Q (.bl (Txt.startswith a b)) H) startsF := mok_ss1 (hv := fun a b => .bl (Txt.startswith a b)) fun _ _ _ => rfl
theorem mok_ends : MOk c (fun x xs H Q => ∃ a b, x = .str a ∧ xs = [.str b] ∧ Q (.bl (Txt.endswith a b)) H) endsF := mok_ss1 (hv := fun a b => .bl (Txt.endswith a b)) fun _ _ _ => rfl
def partF : MF := fun a st ds => match ds with
  | [.str b] => if (b.length == 0) = false ∧ a.length ≤ sizeLine then some (.tup [.str (Txt.partition a b).1, .str (Txt.partition a b).2.1, .str (Txt.partition a b).2.2]) else none
  | _ => none
theorem mok_part : MOk c (fun x xs H Q => ∃ a b, x = .str a ∧ xs = [.str b] ∧ (b.length == 0) = false ∧ a.length ≤ sizeLine ∧
    ∀ p, H p = none → Q (.ref p) (upd H p (.tup [.str (Txt.partition a b).1, .str (Txt.partition a b).2.1, .str (Txt.partition a b).2.2]))) partF := by
  intro g st z ds vs d Q w rs e k
  unfold partF at e
  split at e
  · obtain ⟨v, rfl, r⟩ := preps1 rs
    split at e
    · rename_i h
      cases e
      exact ⟨_, _, rfl, by rw [pr_str r rfl], h.1, h.2, fun p hp => new_tup w hp (reps_strs [_, _, _]) k⟩
    · cases e
  · cases e
def upperF : MF := fun a st ds => match ds with
  | [] => if a.length ≤ 5592405 then some (.str (Txt.upper a)) else none
  | _ => none
theorem mok_upper : MOk c (fun x xs H Q => ∃ a, x = .str a ∧ xs = [] ∧ a.length ≤ 5592405 ∧ Q (.str (Txt.upper a)) H) upperF := by
  intro g st z ds vs d Q w rs e k
  unfold upperF at e
  split at e
  · have e1 : vs = [] := rs
    subst e1
    split at e
    · rename_i h
      cases e
      exact ⟨_, rfl, rfl, h, k g _ (Ext.refl g) w rfl⟩
    · cases e
  · cases e
def indexF : MF := fun a st ds => match ds with
  | [.str b] => match Builtin.Str.occurrences a b 0 a.length 1 with
    | i :: _ => some (.int (i : Nat))
    | [] => none
  | _ => none
theorem mok_index : MOk c (fun x xs H Q => ∃ a b i rest, x = .str a ∧ xs = [.str b] ∧ Builtin.Str.occurrences a b 0 a.length 1 = i :: rest ∧ Q (.int (i : Nat)) H) indexF := by
  intro g st z ds vs d Q w rs e k
  unfold indexF at e
  split at e
  · obtain ⟨v, rfl, r⟩ := preps1 rs
    split at e
    · rename_i i rest h
      cases e
      exact ⟨_, _, i, rest, rfl, by rw [pr_str r rfl], h, k g _ (Ext.refl g) w rfl⟩
    · cases e
  · cases e
end
end DL
end
section
set_option Elab.async false
set_option linter.all false
set_option maxRecDepth 100000
set_option autoImplicit false
/-! DL: f-strings, dicts written, fields, calls of the text's own defs -/
namespace DL
open PySem PySem.Spec L2
open PyProof.Rows hiding St

section
variable {L : Law} {X : Cx} {W : WX} {k : Nat} {e o : Expr} {f fo : ER} {pos p apos : Pos} {es rest : List Expr} {as : AR}
/-! ### f-strings -/
def fmtD : D → Option D
  | .str y => if y.length ≤ sizeLine then some (.str y) else none
  | .int i => if i.natAbs.log2 < 1920 then some (.str (toString i)) else none
  | _ => none
def fFmtV (f : ER) : ER := fun env st => (f env st).bind fun x s => .opt (fmtD x) s
theorem s_fmt (h : DP L.c X W e f) : DE L.c X W (.FormattedValue e (-1) none pos) (fFmtV f) := fun g env σ st Q w ev q => by
  refine bE_of (pe_fmt pe_b) ?_
  refine h g env σ st _ w ev (PostR.bind q fun x s g1 v x1 w1 r q1 => ?_)
  cases x with
  | str y =>
    have q1 : PostR L.c W g σ (Rep L.c) (.opt (if y.length ≤ sizeLine then some (D.str y) else none) s) Q := q1
    by_cases hy : y.length ≤ sizeLine
    · rw [if_pos hy] at q1
      exact .inl ⟨y, pr_str r rfl, hy, q1 g1 _ x1 w1 rfl⟩
    · rw [if_neg hy] at q1; exact q1.elim
  | int y =>
    have q1 : PostR L.c W g σ (Rep L.c) (.opt (if y.natAbs.log2 < 1920 then some (D.str (toString y)) else none) s) Q := q1
    by_cases hy : y.natAbs.log2 < 1920
    · rw [if_pos hy] at q1
      exact .inr ⟨y, pr_int r rfl, hy, q1 g1 _ x1 w1 rfl⟩
    · rw [if_neg hy] at q1; exact q1.elim
  | _ => exact q1.elim
abbrev JR := DEnv → Store → Str → Out Str
def DJ (c : Cst) (X : Cx) (W : WX) (es : List Expr) (f : JR) : Prop :=
  ∀ g env σ st acc (Q : Str → Hp → Prop), Wf c g st → EnvR c g env σ → PostR c W g σ (fun _ a b => a = b) (f env st acc) Q → tJs (es.map (bE X)) acc σ g.H Q
def jNil : JR := fun _ st acc => .ok acc st
def jCons (f : ER) (r : JR) : JR := fun env st acc => (f env st).bind fun x s => match x with
  | .str y => if (acc ++ y).length ≤ sizeLine then r env s (acc ++ y) else .bad
  | _ => .bad
theorem j_nil : DJ L.c X W [] jNil := fun g env σ st acc Q w ev q => q g acc (Ext.refl g) w rfl
theorem j_cons {r : JR} (h : DP L.c X W e f) (hr : DJ L.c X W es r) : DJ L.c X W (e :: es) (jCons f r) := fun g env σ st acc Q w ev q => by
  refine h g env σ st _ w ev (PostR.bind q fun x s g1 v x1 w1 rv q1 => ?_)
  cases x with
  | str y =>
    have q1 : PostR L.c W g σ (fun _ a b => a = b) (if (acc ++ y).length ≤ sizeLine then r env s (acc ++ y) else .bad) Q := q1
    by_cases hy : (acc ++ y).length ≤ sizeLine
    · rw [if_pos hy] at q1
      exact ⟨y, pr_str rv rfl, hy, hr g1 env σ s _ Q w1 (ev.ext x1 w) (PostR.later x1 q1)⟩
    · rw [if_neg hy] at q1; exact q1.elim
  | _ => exact q1.elim
theorem pj_b : ∀ es : List Expr, PJ X es (es.map (bE X))
  | [] => .nil
  | e :: es => .cons pe_b (pj_b es)
def fJoin (r : JR) : ER := fun env st => (r env st Str.empty).bind fun y s => .ok (.str y) s
theorem s_joined {e2 : Expr} {r : JR} (h : DJ L.c X W (e :: e2 :: rest) r) : DE L.c X W (.JoinedStr (e :: e2 :: rest) pos) (fJoin r) := fun g env σ st Q w ev q => by
  refine bE_of (pe_joined (pj_b _)) ?_
  refine h g env σ st Str.empty _ w ev (PostR.bind q fun y s g1 v x1 w1 rv q1 => ?_)
  have rv : y = v := rv
  subst rv
  exact q1 g1 _ x1 w1 rfl
theorem s_joined1 (h : DE L.c X W e f) : DE L.c X W (.JoinedStr [e] pos) f := fun g env σ st Q w ev q => bE_of (pe_joined1 pe_b) (h g env σ st Q w ev q)

/-! ### dicts written -/
abbrev KR := DEnv → Store → Out (List (Key × D))
def kNil : KR := fun _ st => .ok [] st
def kCons (fk fv : ER) (r : KR) : KR := fun env st => (fk env st).bind fun x s => (fv env s).bind fun y s2 => match keyOf x with
  | some k => (r env s2).bind fun ps s3 => .ok ((k, y) :: ps) s3
  | none => .bad
def pairsV (kvs : List (Key × V)) : List (V × V) := kvs.map fun kv => (kV kv.1, kv.2)
def DK (c : Cst) (X : Cx) (W : WX) (ks : List Expr) (vs : List Expr) (f : KR) : Prop :=
  ∀ g env σ st (Q : List (V × V) → Hp → Prop), Wf c g st → EnvR c g env σ → PostR c W g σ (RepK c) (f env st) (fun kvs H' => Q (pairsV kvs) H') → tPairs ((ks.zip vs).map fun p => (bE X p.1, bE X p.2)) σ g.H Q
theorem k_nil : DK L.c X W [] [] kNil := fun g env σ st Q w ev q => q g [] (Ext.refl g) w rfl
theorem k_cons {ek ev : Expr} {ks vs : List Expr} {fk fv : ER} {r : KR} (hk : DE L.c X W ek fk) (hv : DE L.c X W ev fv) (hr : DK L.c X W ks vs r) : DK L.c X W (ek :: ks) (ev :: vs) (kCons fk fv r) := fun g env σ st Q w ev q => by
  refine hk g env σ st _ w ev (PostR.bind q fun x s g1 vx x1 w1 rx q1 => ?_)
  refine hv g1 env σ s _ w1 (ev.ext x1 w) (PostR.bind (PostR.later x1 q1) fun y s2 g2 vy x2 w2 ry q2 => ?_)
  cases hK : keyOf x with
  | none => rw [hK] at q2; exact q2.elim
  | some k =>
    rw [hK] at q2
    have e := keyOf_v rx hK
    subst e
    refine hr g2 env σ s2 _ w2 ((ev.ext x1 w).ext x2 w1) (PostR.bind (PostR.later x2 q2) fun ps s3 g3 kvs x3 w3 rk q3 => ?_)
    exact (PostR.later x3 q3) g3 ((k, vy) :: kvs) (Ext.refl g3) w3 ⟨vy, kvs, rfl, x3.rep w2 ry, rk⟩
theorem pps_b {ks vs : List Expr} (h : ks.length = vs.length) : PPs X pos (ks.map some) vs ((ks.zip vs).map fun p => (bE X p.1, bE X p.2)) := by
  induction ks generalizing vs with
  | nil =>
    cases vs with
    | nil => exact pps_nil
    | cons _ _ => simp at h
  | cons k ks ih =>
    cases vs with
    | nil => simp at h
    | cons v vs => exact pps_cons pe_b pe_b (ih (by simpa using h))
def fDsp (r : KR) : FR := fun env st => (r env st).bind fun ps s => if ps.length ≤ 15 then .ok (.dct (mergeD [] ps)) s else .bad
theorem d_new : DF L.c X W (.Dict [] [] pos) (fun _ st => .ok (.dct []) st) := fun g env σ st Q w ev q => by
  refine bE_of pe_dnewK fun a ha => ?_
  exact q (g.upd a (.dK [])) (.ref a) (Ext.upd ha) (w.upd ha) (newR_upd (Ext.refl g) w ha ⟨[], upd_same, rfl⟩)
/-- a thing of one's own changes -/
theorem Ext.mut {g0 g : G} {a : Addr} {o : HO} (x : Ext g0 g) (h : g0.H a = none) : Ext g0 (g.upd a o) := by
  refine ⟨x.F, x.as, fun b u hb e => ?_, x.back, fun b hb => x.nn b ?_⟩
  · have n : b ≠ a := fun z => by subst z; rw [h] at e; cases e
    rcases x.keep b u hb e with z | ⟨f, kvs, od, e1, z⟩
    · exact .inl ((upd_ne n).trans z)
    · exact .inr ⟨f, kvs, od, e1, (upd_ne n).trans z⟩
  · by_cases z : b = a
    · subst z
      have hb : L2.upd g.H b o b = none := hb
      rw [upd_same] at hb; cases hb
    · exact (upd_ne (H := g.H) (o := o) z).symm.trans hb
theorem le_mut {c : Cst} {g : G} {st : Store} {a : Addr} {o : HO} (nF : ¬ g.F a) : Le g (g.upd a o) := by
  have ne : ∀ b, g.F b → b ≠ a := fun b f z => nF (z ▸ f)
  refine ⟨fun _ f => f, fun b f u _ h => ?_, fun b f u _ _ h => (upd_ne (ne b f)).trans h, ⟨[], by simp [G.upd]⟩⟩
  rcases h with h | ⟨od, h⟩
  · exact .inl ((upd_ne (ne b f)).trans h)
  · exact .inr ⟨od, (upd_ne (ne b f)).trans h⟩
theorem Wf.mut {c : Cst} {g : G} {st : Store} {a : Addr} {o : HO} (w : Wf c g st) (nF : ¬ g.F a) (na : a ∉ g.as) : Wf c (g.upd a o) st := by
  refine ⟨fun b hb => ?_, w.ca, w.nd, w.len, fun i cl b h1 h2 => (w.cr i cl b h1 h2).le (le_mut (c := c) (st := st) nF) ?_⟩
  · have n : b ≠ a := fun z => by subst z; exact nF hb
    show L2.upd g.H a o b ≠ none
    rw [upd_ne n]
    exact w.fa b hb
  · have n : b ≠ a := fun z => by subst z; exact na (List.mem_of_getElem? h2)
    exact upd_ne n
theorem EnvR.mut {c : Cst} {g : G} {st : Store} {env : DEnv} {σ : St} {a : Addr} {o : HO} (h : EnvR c g env σ) (w : Wf c g st) (nF : ¬ g.F a) (na : a ∉ g.as) (no : ∀ (i : Nat) (cl : Cell), env[i]? = some (Slot.own cl) → σ[i]? ≠ some (some (V.ref a))) : EnvR c (g.upd a o) env σ := by
  have l := le_mut (c := c) (st := st) (g := g) (a := a) (o := o) nF
  refine ⟨h.len, fun i s u e1 e2 => ?_, h.own⟩
  have r := h.at_ i s u e1 e2
  cases s with
  | no => trivial
  | val d => obtain ⟨v, e, r⟩ := r; exact ⟨v, e, r.le l⟩
  | own cl =>
    obtain ⟨b, e, f, n, r⟩ := r
    have ne : b ≠ a := fun z => no i cl e1 (by rw [e2, e, z])
    exact ⟨b, e, f, n, r.le l (upd_ne ne)⟩
  | exn b cl fs =>
    obtain ⟨e, dd, vs, f, q, r⟩ := r
    have ne : dd ≠ a := fun z => nF (z ▸ f)
    exact ⟨e, dd, vs, f, (upd_ne ne).trans q, r.le l⟩
theorem EnvR.notown {c : Cst} {g : G} {env : DEnv} {σ : St} (h : EnvR c g env σ) {a : Addr} (ha : g.H a = none) : ∀ (i : Nat) (cl : Cell), env[i]? = some (Slot.own cl) → σ[i]? ≠ some (some (V.ref a)) := fun i cl e1 e2 => by
  obtain ⟨b, e, _, _, r⟩ := h.at_ i _ _ e1 e2
  cases e
  obtain ⟨u, hu⟩ := r.th
  rw [ha] at hu; cases hu
theorem PostR.bind2 {c : Cst} {g g1 : G} {σ : St} {α β γ δ : Type} {R : G → α → β → Prop} {R' : G → γ → δ → Prop} {o : Out α} {k : α → Store → Out γ} {Q : δ → Hp → Prop} {S : β → Hp → Prop} (x : Ext g g1) (h : PostR c W g σ R' (o.bind k) Q)
    (hk : ∀ d s g2 v, Ext g1 g2 → Wf c g2 s → R g2 d v → PostR c W g σ R' (k d s) Q → S v g2.H) : PostR c W g1 σ R o S := by
  cases o with
  | ok d s => exact fun g2 v x2 w2 r => hk d s g2 v x2 w2 r h
  | exc y fs s => exact PostR.later x h
  | bad => exact h
theorem d_dsp {ks vs : List Expr} {r : KR} (hl : ks.length = vs.length) (h0 : ks ≠ []) (h15 : ks.length ≤ 15) (h : DK L.c X W ks vs r) : DF L.c X W (.Dict (ks.map some) vs pos) (fDsp r) := fun g env σ st Q w ev q => by
  refine bE_of (pe_disp (pps_b hl) (by simp) (by simpa using hl) (by simpa using h0) (by simpa using h15)) fun a ha => ?_
  have x1 := Ext.upd (g := g) (o := .dK []) ha
  have w1 := w.upd (o := .dK []) ha
  have nF : ¬ (g.upd a (.dK [])).F a := w.notF ha
  have na : a ∉ (g.upd a (.dK [])).as := w.notas ha
  refine h (g.upd a (.dK [])) env σ st _ w1 (ev.ext x1 w) (PostR.bind2 (R := RepK L.c) x1 q fun ps s g2 kvs x2 w2 rk q2 => ?_)
  have e2 : g2.H a = some (.dK []) := x2.kept na upd_same (.inl nF)
  have nF2 : ¬ g2.F a := fun z => by
    rcases x2.back a z with z | z
    · exact nF z
    · rw [show (g.upd a (.dK [])).H a = some (.dK []) from upd_same] at z; cases z
  have na2 : a ∉ g2.as := x2.notas na (by rw [show (g.upd a (.dK [])).H a = some (.dK []) from upd_same]; exact fun z => by cases z)
  have hlen : kvs.length = ps.length := by
    have := congrArg List.length (reps_keys ps kvs rk)
    simpa using this
  by_cases h15 : ps.length ≤ 15
  · rw [if_pos h15] at q2
    refine ⟨e2, kvs, rfl, by rw [hlen]; exact h15, ?_⟩
    have w3 : Wf L.c (g2.upd a (.dK (mergeK [] kvs))) s := w2.mut nF2 na2
    have x3 : Ext g (g2.upd a (.dK (mergeK [] kvs))) := (x1.trans x2).mut ha
    exact q2 _ (.ref a) x3 w3 ⟨a, rfl, ha, nF2, na2, mergeK [] kvs, upd_same, RepK.merge (rk.le (le_mut (c := L.c) (st := s) nF2)) (ks := []) (vs := []) rfl⟩
  · rw [if_neg h15] at q2; exact q2.elim
end
end DL
end
section
set_option Elab.async false
set_option linter.all false
set_option maxRecDepth 100000
set_option autoImplicit false
/-! DL: fields, properties, calls of the text's own defs -/
namespace DL
open PySem PySem.Spec L2
open PyProof.Rows hiding St

section
variable {c : Cst} {g : G} {st : Store}
theorem RepF.get {x : Str} {d : D} : ∀ {ds : List (Str × D)} {vs : List (Str × V)}, RepF c g ds vs → ds.lookup x = some d → ∃ v, vs.lookup x = some v ∧ Rep c g d v
  | [], _, _, h => by cases h
  | (k, e) :: ds, _, r, h => by
    obtain ⟨v, ws, rfl, r, rs⟩ := r
    rw [List.lookup_cons] at h ⊢
    split at h
    · cases h; exact ⟨v, rfl, r⟩
    · exact RepF.get rs h
theorem RepF.non {x : Str} : ∀ {ds : List (Str × D)} {vs : List (Str × V)}, RepF c g ds vs → ds.lookup x = none → vs.lookup x = none
  | [], vs, r, _ => by
    have e : vs = [] := r
    rw [e]; rfl
  | (k, e) :: ds, _, r, h => by
    obtain ⟨v, ws, rfl, r, rs⟩ := r
    rw [List.lookup_cons] at h ⊢
    split at h
    · cases h
    · exact RepF.non rs h
end

section
variable {L : Law} {X : Cx} {W : WX} {k j : Nat} {e o : Expr} {f fo : ER} {pos p apos : Pos} {es rest : List Expr} {as : AR} {C x : Str}
/-! ### e.x -/
def FldOk (L : Law) (C x : Str) : Prop := Cls L.c.K (L.c.ad C) ∧ NoAttr L.c.K (L.c.ad C) x
def fFld (C x : Str) (f : ER) : ER := fun env st => (f env st).bind fun d s => match insOf s d with
  | some (y, fs) => if y = C then .opt (fs.lookup x) s else .bad
  | none => .bad
theorem s_fld (hX : XOw L X) (hF : FldOk L C x) (h : DP L.c X W e f) (hb : attributeBase e x X.env (eval e X.env) = eval e X.env) : DE L.c X W (.Attribute e x pos) (fFld C x f) := fun g env σ st Q w ev q => by
  refine bE_of (pe_fld pe_b hb) ?_
  refine h g env σ st _ w ev (PostR.bind q fun d s g1 v x1 w1 r q1 => ?_)
  cases hi : insOf s d with
  | none => rw [hi] at q1; exact q1.elim
  | some yf =>
    obtain ⟨y, fs⟩ := yf
    rw [hi] at q1
    have q1 : PostR L.c W g σ (Rep L.c) (if y = C then .opt (fs.lookup x) s else .bad) Q := q1
    by_cases hy : y = C
    · subst hy
      rw [if_pos rfl] at q1
      obtain ⟨a, dx, vs, rfl, e1, rf⟩ := ins_read w1 r hi
      cases hl : fs.lookup x with
      | none => rw [hl] at q1; exact q1.elim
      | some z =>
        rw [hl] at q1
        obtain ⟨u, hu, ru⟩ := rf.get hl
        exact ⟨a, _, dx, vs, u, rfl, e1, by rw [hX.K]; exact hF.1, by rw [hX.K]; exact hF.2, hu, q1 g1 u x1 w1 ru⟩
    · rw [if_neg hy] at q1; exact q1.elim

/-! ### what a def promises -/
/-- behind a call -/
def PostX (c : Cst) (g : G) (E : XK) (o : Out D) (Q : VK) : Prop := PostR c (fun cls d _ H => E cls d H) g [] (Rep c) o Q
def DSp (L : Law) (n : Nat) (m : FnM) : Sp := fun vs H Q E => ∃ g ds st, g.H = H ∧ vs.length = n ∧ Wf L.c g st ∧ Reps L.c g ds vs ∧ PostX L.c g E (m ds st) Q
theorem postX {g : G} {o : Out D} {Q : VK} {σ : St} (q : PostR L.c W g σ (Rep L.c) o Q) : PostX L.c g (WE W σ) o Q := by
  cases o with
  | ok d s => exact q
  | exc x fs s => exact q
  | bad => exact q
/-- a thing that can be called with n arguments and the keywords ks -/
def tCW (X : Cx) (f : Addr) (ks : List Str) (vs zs : List V) : TE := fun σ H Q => ∀ pins s us ws, Inv X pins σ H s → Vals vs us → Vals zs ws → wpAny (model X.prog X.w) X.A (call (.ref f) us (ks.zip ws)) (EP X pins σ Q) X.xe s
structure CallOk (L : Law) (k : Nat) (f : Addr) (n : Nat) (ks : List Str) (m : FnM) : Prop where
  kp : PySem.W.keepIn L.c.K (.ref f) = true
  run : ∀ X W σ vs zs g st ds (Q : VK), XOk L X k → Takes X W → Wf L.c g st → vs.length = n → zs.length = ks.length → Reps L.c g ds (vs ++ zs) → PostR L.c W g σ (Rep L.c) (m ds st) Q → tCW X f ks vs zs σ g.H Q
theorem CallOk.mono {f : Addr} {n : Nat} {ks : List Str} {m : FnM} (h : CallOk L j f n ks m) (hj : j ≤ k) : CallOk L k f n ks m := ⟨h.kp, fun X W σ vs zs g st ds Q hX => h.run X W σ vs zs g st ds Q (hX.mono hj)⟩
theorem callOk_fn {f : Addr} {fd : FuncData} {ps ks : List Str} {n n' : Nat} {m : FnM} {gg : List Value → List Value → List Value} {gV : List V → List V → List V} {gD : List D → List D} (F : FnOk L.P L.w L.c.K L.mg L.base (CX L.P L.w) k f fd ps (DSp L n' m)) (kp : PySem.W.keepIn L.c.K (.ref f) = true)
    (hb : KBn L.c.K fd ps n ks gg gV) (hn : ∀ vs zs, vs.length = n → zs.length = ks.length → (gV vs zs).length = n') (hD : ∀ g ds vs zs, vs.length = n → zs.length = ks.length → Reps L.c g ds (vs ++ zs) → Reps L.c g (gD ds) (gV vs zs)) : CallOk L k f n ks (fun ds => m (gD ds)) := by
  refine ⟨kp, fun X W σ vs zs g st ds Q hX tk w l1 l2 rs q pins s us ws I rv rz => ?_⟩
  obtain ⟨P, W', c, mg, base⟩ := L
  obtain ⟨⟨e1, e2, e3, e4, e5, _, nd⟩, hc, hr⟩ := hX
  dsimp only at e1 e2 e3 e4 e5 F hb
  subst e1 e2 e4 e5
  have e3' : c.K = X.K := e3.symm
  rw [e3'] at F hb
  have r2 := hb.rel rv rz
  refine wpAny_call (codeAny_mono (F.run X.A X.stack s g.H ⟨us, ks.zip ws⟩ (gg us ws) (gV vs zs) Q (WE W σ) hr I.env0 (hb.to s us ws I.kIn (rv.length.symm.trans l1) (rz.length.symm.trans l2)) r2 ⟨g, gD ds, st, rfl, hn _ _ l1 l2, w, hD g ds vs zs l1 l2 rs, postX q⟩) fun r s' hq => ?_)
  cases r with
  | error e => exact passAt tk σ pins g.H s e s' I hq
  | ok fl =>
    cases fl with
    | ret u => exact I.after hq
    | next => exact False.elim hq
    | brk => exact False.elim hq
    | cont => exact False.elim hq

/-! ### the forms of a call -/
def bP (X : Cx) (kws : List Keyword) : TA := fun σ H Q => ∀ (pos : Pos) pins s, Inv X pins σ H s → wpAny (model X.prog X.w) X.A (evalAll ((backToKw pos (keywordEach kws X.env)).map (·.2))) (AP X pins σ Q) X.xe s
theorem pk_b {kws : List Keyword} : PK X kws (bP X kws) := ⟨fun pos pins s σ H Q I h => h pos pins s I⟩
theorem bP_of {kws : List Keyword} {t : TA} {σ : St} {H : Hp} {Q : List V → Hp → Prop} (h : PK X kws t) (q : t σ H Q) : bP X kws σ H Q := fun pos pins s I => h.run pos pins s σ H Q I q
def DPK (c : Cst) (X : Cx) (W : WX) (kws : List Keyword) (f : AR) : Prop :=
  ∀ g env σ st (Q : List V → Hp → Prop), Wf c g st → EnvR c g env σ → PostR c W g σ (Reps c) (f env st) Q → bP X kws σ g.H Q
theorem kw_nil : DPK L.c X W [] aNil := fun g env σ st Q w ev p => bP_of pk_nil (p g [] (Ext.refl g) w rfl)
theorem kw_cons {nm : Option Str} {kpos : Pos} {kws : List Keyword} (h : DE L.c X W e f) (hr : DPK L.c X W kws as) : DPK L.c X W (⟨nm, e, kpos⟩ :: kws) (aCons f as) := fun g env σ st Q w ev p => by
  refine bP_of (pk_cons pe_b pk_b) ?_
  refine h g env σ st _ w ev (PostR.bind p fun x s g1 v x1 w1 r p1 => ?_)
  refine hr g1 env σ s _ w1 (ev.ext x1 w) (PostR.bind (PostR.later x1 p1) fun xs s2 g2 vs x2 w2 rs p2 => ?_)
  exact (PostR.later x2 p2) g2 (v :: vs) (Ext.refl g2) w2 ⟨v, vs, rfl, x2.rep w1 r, rs⟩
variable {fa : Addr} {ks : List Str} {kws : List Keyword}
theorem pe_cw (hg : Gl X x) (hm : X.mg x = some (.ref fa)) (hk : PySem.W.keepIn X.K (.ref fa) = true) (hdb : (x == ("__debug__" : Str)) = false) (hs : (e :: es).all NoStar = true) : PE X (.Call (.Name x p) (e :: es) [] pos) (fun σ H Q => bA X (e :: es) σ H fun vs H1 => tCW X fa [] vs [] σ H1 Q) := by
  rw [List.all_cons, Bool.and_eq_true] at hs
  refine ⟨fun pins s σ H Q I h => ?_⟩
  refine wpAny_Call_Name_kw (ld_glob I hg hm ?_ hdb)
  refine PySem.W.callWith_K (h₀ := X.base) I.ok.mod.kin hk (thn (h pos pins s I) fun us s1 ⟨vs, H1, I1, r, q⟩ => ⟨I1.kIn, ?_⟩) (no_star hs.1) (no_stars hs.2)
  exact q pins s1 us [] I1 r .nil
theorem pe_cw0 (hg : Gl X x) (hm : X.mg x = some (.ref fa)) (hk : PySem.W.keepIn X.K (.ref fa) = true) (hdb : (x == ("__debug__" : Str)) = false) : PE X (.Call (.Name x p) [] [] pos) (fun σ H Q => tCW X fa [] [] [] σ H Q) := by
  refine ⟨fun pins s σ H Q I h => ?_⟩
  refine wpAny_Call_Name_kw (ld_glob I hg hm ?_ hdb)
  exact PySem.W.callWith_K0 I.kIn hk (h pins s [] [] I .nil .nil)
def kwNames (kws : List Keyword) : List Str := kws.filterMap (·.arg)
def KwOk (kws : List Keyword) : Bool := kws.all fun k => k.arg.isSome
theorem kw_all {env : Env} : ∀ {kws : List Keyword}, KwOk kws = true → (backToKw pos (keywordEach kws env)).all (·.1.isSome) = true ∧ (backToKw pos (keywordEach kws env)).filterMap (·.1) = kwNames kws ∧ (backToKw pos (keywordEach kws env)).any (·.1.isNone) = false
  | [], _ => ⟨rfl, rfl, rfl⟩
  | ⟨nm, e, kp⟩ :: kws, h => by
    unfold KwOk at h
    rw [List.all_cons, Bool.and_eq_true] at h
    obtain ⟨h1, h2, h3⟩ := kw_all (kws := kws) (env := env) (show KwOk kws = true from h.2)
    cases nm with
    | none => exact absurd h.1 (by simp)
    | some n => exact ⟨h1, by show n :: (backToKw pos (keywordEach kws env)).filterMap (·.1) = n :: kwNames kws; rw [h2], h3⟩
theorem pe_cwK (hg : Gl X x) (hm : X.mg x = some (.ref fa)) (hk : PySem.W.keepIn X.K (.ref fa) = true) (hdb : (x == ("__debug__" : Str)) = false) (hs : (e :: es).all NoStar = true) (hkw : KwOk kws = true) :
    PE X (.Call (.Name x p) (e :: es) kws pos) (fun σ H Q => bA X (e :: es) σ H fun vs H1 => bP X kws σ H1 fun zs H2 => tCW X fa (kwNames kws) vs zs σ H2 Q) := by
  rw [List.all_cons, Bool.and_eq_true] at hs
  obtain ⟨h1, h2, h3⟩ := kw_all (pos := pos) (env := X.env) hkw
  refine ⟨fun pins s σ H Q I h => ?_⟩
  refine wpAny_Call_Name_kw (ld_glob I hg hm ?_ hdb)
  refine PySem.W.callWith_KW (h₀ := X.base) I.ok.mod.kin hk h1 (thn (h pos pins s I) fun us s1 ⟨vs, H1, I1, r, q⟩ => ?_) ?_ (no_star hs.1)
  · refine thn (q pos pins s1 I1) fun ws s2 ⟨zs, H2, I2, rz, q2⟩ => ⟨I2.kIn, ?_⟩
    rw [h2]
    exact q2 pins s2 us ws I2 r rz
  · rw [h3, Bool.or_false, no_star hs.1]
    show (false || (backTo pos (starEach es X.env)).any (·.1)) = false
    rw [no_stars hs.2]; rfl
theorem pe_cwK0 (hg : Gl X x) (hm : X.mg x = some (.ref fa)) (hk : PySem.W.keepIn X.K (.ref fa) = true) (hdb : (x == ("__debug__" : Str)) = false) (hkw : KwOk kws = true) :
    PE X (.Call (.Name x p) [] kws pos) (fun σ H Q => bP X kws σ H fun zs H2 => tCW X fa (kwNames kws) [] zs σ H2 Q) := by
  obtain ⟨h1, h2, h3⟩ := kw_all (pos := pos) (env := X.env) hkw
  refine ⟨fun pins s σ H Q I h => ?_⟩
  refine wpAny_Call_Name_kw (ld_glob I hg hm ?_ hdb)
  refine PySem.W.callWith_KW0 (h₀ := X.base) I.ok.mod.kin hk h1 ?_ (by rw [h3]; rfl)
  refine thn (h pos pins s I) fun ws s2 ⟨zs, H2, I2, rz, q2⟩ => ⟨I2.kIn, ?_⟩
  rw [h2]
  exact q2 pins s2 [] ws I2 .nil rz
/-! own methods -/
def NoCall0 : Expr → Bool
  | .Call (.Name _ _) [] [] _ => false
  | _ => true
theorem base_of {env : Env} {m : Str} (h : NoCall0 o = true) : attributeBase o m env (eval o env) = eval o env := by
  unfold attributeBase
  split
  · cases h
  · rfl
theorem wpAny_meth {M : Model} {A : Around} {E : Value → Shared → Prop} {s : Shared} {env : Env} {name : Str} {args : List Expr} {kws : List Keyword} {Q : Value → Shared → Prop} (hbase : attributeBase o name env (eval o env) = eval o env)
    (hform : methodCallForm (args.length + kws.length) (backTo pos (starEach args env)) (backToKw pos (keywordEach kws env)) = true) (hline : (apos.endLine == pos.line) = true)
    (h : wpAny M A (eval o env) (fun ov s₁ => wpAny M A (getMethod ov name (do return (← importBound o env).getD true)) (fun fx s₂ => wpAny M A (callWith pos fx.1 fx.2 (backTo pos (starEach args env)) (backToKw pos (keywordEach kws env))) Q E s₂) E s₁) E s) :
    wpAny M A (eval (.Call (.Attribute o name apos) args kws pos) env) Q E s := by
  rw [arm_eval_Call, hbase]
  refine wpAny_bind (wpAny_mono h (fun ov s₁ h₁ => ?_) fun _ _ e => e)
  refine wpAny_bind (wpAny_standAt ?_)
  have hpos : methodCallPos true o env apos pos = pure pos := by unfold methodCallPos; simp [hline]
  unfold methodCall calleeOf
  rw [hform]
  refine wpAny_bind (wpAny_holding (wpAny_mono h₁ (fun fx s₂ h₂ => ?_) fun _ _ e => e))
  exact wpAny_bind (wpAny_of_eq hpos h₂)
theorem form_of {env : Env} (hs : es.all NoStar = true) (hkw : KwOk kws = true) (hl : decide (es.length + kws.length + 1 < 30) = true) : methodCallForm (es.length + kws.length) (backTo pos (starEach es env)) (backToKw pos (keywordEach kws env)) = true := by
  obtain ⟨h1, _, _⟩ := kw_all (pos := pos) (env := env) hkw
  have h2 : (backTo pos (starEach es env)).all (fun x => !x.1) = true := by
    have := no_stars (pos := pos) (env := env) hs
    rw [List.any_eq_false] at this
    rw [List.all_eq_true]
    intro y hy
    simpa using this y hy
  have hl : es.length + kws.length + 1 < 30 := of_decide_eq_true hl
  unfold methodCallForm
  rw [h1, h2]
  have : es.length + kws.length + (if (backToKw pos (keywordEach kws env)).isEmpty then 0 else 1) < 30 := by
    split <;> omega
  simpa using this
variable {m : Str} {Ca : Addr}
def tMW (X : Cx) (C : Addr) (m : Str) (ta : TE) (t : V → TE) : TE := fun σ H Q => ta σ H fun x H1 => ∃ a dx fs, x = .ref a ∧ H1 a = some (.ins C dx fs) ∧ fs.lookup m = none ∧ t x σ H1 Q
theorem pe_mw (c : Cls X.K Ca) (hm : Meth X.K Ca m fa) (hb : NoCall0 o = true) (hs : (e :: es).all NoStar = true) (hl : decide ((e :: es).length + 0 + 1 < 30) = true) (hline : (apos.endLine == pos.line) = true) :
    PE X (.Call (.Attribute o m apos) (e :: es) [] pos) (tMW X Ca m (bE X o) fun x σ H Q => bA X (e :: es) σ H fun vs H1 => tCW X fa [] (x :: vs) [] σ H1 Q) := by
  refine ⟨fun pins s σ H Q I h => ?_⟩
  refine wpAny_meth (base_of hb) (form_of hs rfl hl) hline (thn (h pins s I) fun u s1 ⟨x, H1, I1, rx, a, dx, fs, ex, ea, l, q⟩ => ?_)
  subst ex
  obtain rfl : u = Value.ref a := rx
  refine getmeth_ok I1 ea c hm l ?_
  rw [List.all_cons, Bool.and_eq_true] at hs
  refine PySem.W.callWith_K (first := [.ref a]) (h₀ := X.base) I.ok.mod.kin hm.kp (thn (q pos pins s1 I1) fun us s2 ⟨vs, H2, I2, r, q2⟩ => ⟨I2.kIn, ?_⟩) (no_star hs.1) (no_stars hs.2)
  exact q2 pins s2 (.ref a :: us) [] I2 (.cons rfl r) .nil
theorem pe_mw0 (c : Cls X.K Ca) (hm : Meth X.K Ca m fa) (hb : NoCall0 o = true) (hline : (apos.endLine == pos.line) = true) :
    PE X (.Call (.Attribute o m apos) [] [] pos) (tMW X Ca m (bE X o) fun x σ H Q => tCW X fa [] [x] [] σ H Q) := by
  refine ⟨fun pins s σ H Q I h => ?_⟩
  refine wpAny_meth (base_of hb) rfl hline (thn (h pins s I) fun u s1 ⟨x, H1, I1, rx, a, dx, fs, ex, ea, l, q⟩ => ?_)
  subst ex
  obtain rfl : u = Value.ref a := rx
  refine getmeth_ok I1 ea c hm l ?_
  exact PySem.W.callWith_K0 (first := [.ref a]) I1.kIn hm.kp (q pins s1 [.ref a] [] I1 (.cons rfl .nil) .nil)
theorem pe_mwK (c : Cls X.K Ca) (hm : Meth X.K Ca m fa) (hb : NoCall0 o = true) (hs : (e :: es).all NoStar = true) (hkw : KwOk kws = true) (hl : decide ((e :: es).length + kws.length + 1 < 30) = true) (hline : (apos.endLine == pos.line) = true) :
    PE X (.Call (.Attribute o m apos) (e :: es) kws pos) (tMW X Ca m (bE X o) fun x σ H Q => bA X (e :: es) σ H fun vs H1 => bP X kws σ H1 fun zs H2 => tCW X fa (kwNames kws) (x :: vs) zs σ H2 Q) := by
  obtain ⟨h1, h2, h3⟩ := kw_all (pos := pos) (env := X.env) hkw
  refine ⟨fun pins s σ H Q I h => ?_⟩
  refine wpAny_meth (base_of hb) (form_of hs hkw hl) hline (thn (h pins s I) fun u s1 ⟨x, H1, I1, rx, a, dx, fs, ex, ea, l, q⟩ => ?_)
  subst ex
  obtain rfl : u = Value.ref a := rx
  refine getmeth_ok I1 ea c hm l ?_
  rw [List.all_cons, Bool.and_eq_true] at hs
  refine PySem.W.callWith_KW (first := [.ref a]) (h₀ := X.base) I.ok.mod.kin hm.kp h1 (thn (q pos pins s1 I1) fun us s2 ⟨vs, H2, I2, r, q2⟩ => ?_) ?_ (no_star hs.1)
  · refine thn (q2 pos pins s2 I2) fun ws s3 ⟨zs, H3, I3, rz, q3⟩ => ⟨I3.kIn, ?_⟩
    rw [h2]
    exact q3 pins s3 (.ref a :: us) ws I3 (.cons rfl r) rz
  · rw [h3, Bool.or_false, no_star hs.1]
    show (false || (backTo pos (starEach es X.env)).any (·.1)) = false
    rw [no_stars hs.2]; rfl
theorem pe_mwK0 (c : Cls X.K Ca) (hm : Meth X.K Ca m fa) (hb : NoCall0 o = true) (hkw : KwOk kws = true) (hl : decide (0 + kws.length + 1 < 30) = true) (hline : (apos.endLine == pos.line) = true) :
    PE X (.Call (.Attribute o m apos) [] kws pos) (tMW X Ca m (bE X o) fun x σ H Q => bP X kws σ H fun zs H2 => tCW X fa (kwNames kws) [x] zs σ H2 Q) := by
  obtain ⟨h1, h2, h3⟩ := kw_all (pos := pos) (env := X.env) hkw
  refine ⟨fun pins s σ H Q I h => ?_⟩
  refine wpAny_meth (base_of hb) (form_of (es := []) rfl hkw hl) hline (thn (h pins s I) fun u s1 ⟨x, H1, I1, rx, a, dx, fs, ex, ea, l, q⟩ => ?_)
  subst ex
  obtain rfl : u = Value.ref a := rx
  refine getmeth_ok I1 ea c hm l ?_
  refine PySem.W.callWith_KW0 (first := [.ref a]) (h₀ := X.base) I.ok.mod.kin hm.kp h1 ?_ (by rw [h3]; rfl)
  refine thn (q pos pins s1 I1) fun ws s3 ⟨zs, H3, I3, rz, q3⟩ => ⟨I3.kIn, ?_⟩
  rw [h2]
  exact q3 pins s3 [.ref a] ws I3 (.cons rfl .nil) rz

/-! ### the nodes -/
/-- f(args, kws): the def or class that the module's name x stands for -/
def fApp (m : FnM) (as ks : AR) : ER := fun env st => (as env st).bind fun xs s => (ks env s).bind fun ys s2 => m (xs ++ ys) s2
def NmTo (L : Law) (x : Str) : Prop := L.mg x = some (.ref (L.c.ad x))
variable {bs : AR} {fm : FnM} {n : Nat}
theorem PostR.bindE {c : Cst} {g : G} {σ : St} {α β γ δ : Type} {R : G → α → β → Prop} {R' : G → γ → δ → Prop} {o : Out α} {k : α → Store → Out γ} {Q : δ → Hp → Prop} {S : β → Hp → Prop} (h : PostR c W g σ R' (o.bind k) Q)
    (hk : ∀ d s g1 v, o = .ok d s → Ext g g1 → Wf c g1 s → R g1 d v → PostR c W g σ R' (k d s) Q → S v g1.H) : PostR c W g σ R o S := by
  cases o with
  | ok d s => exact fun g2 v x2 w2 r => hk d s g2 v rfl x2 w2 r h
  | exc y fs s => exact h
  | bad => exact h
/-- so many values -/
def ALen (as : AR) (n : Nat) : Prop := ∀ env st xs s, as env st = .ok xs s → xs.length = n
theorem alen_nil : ALen aNil 0 := fun _ _ _ _ h => by cases h; rfl
theorem alen_cons (h : ALen as n) : ALen (aCons f as) (n + 1) := fun env st xs s e => by
  unfold aCons at e
  cases hf : f env st with
  | ok d s1 =>
    rw [hf, Out.bind_ok] at e
    cases ha : as env s1 with
    | ok ds s2 =>
      rw [ha] at e
      cases e
      rw [List.length_cons, h _ _ _ _ ha]
    | exc _ _ _ => rw [ha] at e; cases e
    | bad => rw [ha] at e; cases e
  | exc _ _ _ => rw [hf] at e; cases e
  | bad => rw [hf] at e; cases e
variable {g : G} {env : DEnv} {σ : St} {st : Store} {Q : VK} {t : List V → List V → TE}
/-- what is wanted behind the arguments -/
def AfterArgs (L : Law) (W : WX) (fm : FnM) (n : Nat) (t : List V → TE) (σ : St) : Prop := ∀ g2 st2 ds vs (Q : VK), Wf L.c g2 st2 → vs.length = n → Reps L.c g2 ds vs → PostR L.c W g2 σ (Rep L.c) (fm ds st2) Q → t vs σ g2.H Q
def fAp (m : FnM) (as : AR) : ER := fun env st => (as env st).bind fun xs s => m xs s
theorem post_ap {t : List V → TE} (ha : DA L.c X W es as) (la : ALen as n) (w : Wf L.c g st) (ev : EnvR L.c g env σ) (q : PostR L.c W g σ (Rep L.c) (fAp fm as env st) Q) (ht : AfterArgs L W fm n t σ) : bA X es σ g.H fun vs H1 => t vs σ H1 Q := by
  refine ha g env σ st _ w ev (PostR.bindE q fun xs s g1 vs e x1 w1 rs q1 => ?_)
  exact ht g1 s xs vs Q w1 (by rw [rs.length]; exact la _ _ _ _ e) rs (PostR.later x1 q1)
def AfterBoth (L : Law) (W : WX) (fm : FnM) (n m : Nat) (t : List V → List V → TE) (σ : St) : Prop := ∀ g2 st2 ds vs zs (Q : VK), Wf L.c g2 st2 → vs.length = n → zs.length = m → Reps L.c g2 ds (vs ++ zs) → PostR L.c W g2 σ (Rep L.c) (fm ds st2) Q → t vs zs σ g2.H Q
theorem post_app {m : Nat} (ha : DA L.c X W es as) (hk : DPK L.c X W kws bs) (la : ALen as n) (lb : ALen bs m) (w : Wf L.c g st) (ev : EnvR L.c g env σ) (q : PostR L.c W g σ (Rep L.c) (fApp fm as bs env st) Q) (ht : AfterBoth L W fm n m t σ) :
    bA X es σ g.H fun vs H1 => bP X kws σ H1 fun zs H2 => t vs zs σ H2 Q := by
  refine ha g env σ st _ w ev (PostR.bindE q fun xs s g1 vs e x1 w1 rs q1 => ?_)
  refine hk g1 env σ s _ w1 (ev.ext x1 w) (PostR.bindE (PostR.later x1 q1) fun ys s2 g2 zs e2 x2 w2 rz q2 => ?_)
  exact ht g2 s2 (xs ++ ys) vs zs Q w2 (by rw [rs.length]; exact la _ _ _ _ e) (by rw [rz.length]; exact lb _ _ _ _ e2) ((x2.reps w1 rs).append rz) (PostR.later x2 q2)
theorem CallOk.after {f : Addr} {ks : List Str} (c : CallOk L k f n ks fm) (hX : XOk L X k) (tk : Takes X W) {σ : St} : AfterBoth L W fm n ks.length (tCW X f ks) σ := fun g2 st2 ds vs zs Q w l1 l2 rs q => c.run X W σ vs zs g2 st2 ds Q hX tk w l1 l2 rs q
theorem CallOk.after0 {f : Addr} (c : CallOk L k f n [] fm) (hX : XOk L X k) (tk : Takes X W) {σ : St} : AfterArgs L W fm n (fun vs => tCW X f [] vs []) σ := fun g2 st2 ds vs Q w l1 rs q => c.run X W σ vs [] g2 st2 ds Q hX tk w l1 rfl (by rw [List.append_nil]; exact rs) q
theorem CallOk.kpX {f : Addr} {ks : List Str} (c : CallOk L k f n ks fm) (hX : XOk L X k) : PySem.W.keepIn X.K (.ref f) = true := by rw [hX.K]; exact c.kp
theorem NmTo.at (h : NmTo L x) (hX : XOk L X k) : X.mg x = some (.ref (L.c.ad x)) := by rw [hX.mg]; exact h
theorem s_app (hX : XOk L X k) (tk : Takes X W) (hg : Gl X x) (hm : NmTo L x) (hn : NmOk x = true) (c : CallOk L k (L.c.ad x) n [] fm) (hs : (e :: es).all NoStar = true) (ha : DA L.c X W (e :: es) as) (la : ALen as n) :
    DE L.c X W (.Call (.Name x p) (e :: es) [] pos) (fAp fm as) := fun g env σ st Q w ev q =>
  bE_of (pe_cw hg (hm.at hX) (c.kpX hX) (nm1 hn) hs) (post_ap ha la w ev q (c.after0 hX tk))
theorem s_app0 (hX : XOk L X k) (tk : Takes X W) (hg : Gl X x) (hm : NmTo L x) (hn : NmOk x = true) (c : CallOk L k (L.c.ad x) 0 [] fm) : DE L.c X W (.Call (.Name x p) [] [] pos) (fAp fm aNil) := fun g env σ st Q w ev q =>
  bE_of (pe_cw0 hg (hm.at hX) (c.kpX hX) (nm1 hn)) (c.after0 hX tk g st [] [] Q w rfl rfl q)
theorem s_appK (hX : XOk L X k) (tk : Takes X W) (hg : Gl X x) (hm : NmTo L x) (hn : NmOk x = true) (c : CallOk L k (L.c.ad x) n (kwNames kws) fm) (hs : (e :: es).all NoStar = true) (hkw : KwOk kws = true) (ha : DA L.c X W (e :: es) as) (hk : DPK L.c X W kws bs) (la : ALen as n) (lb : ALen bs (kwNames kws).length) :
    DE L.c X W (.Call (.Name x p) (e :: es) kws pos) (fApp fm as bs) := fun g env σ st Q w ev q =>
  bE_of (pe_cwK hg (hm.at hX) (c.kpX hX) (nm1 hn) hs hkw) (post_app ha hk la lb w ev q (c.after hX tk))
theorem s_appK0 (hX : XOk L X k) (tk : Takes X W) (hg : Gl X x) (hm : NmTo L x) (hn : NmOk x = true) (c : CallOk L k (L.c.ad x) 0 (kwNames kws) fm) (hkw : KwOk kws = true) (hk : DPK L.c X W kws bs) (lb : ALen bs (kwNames kws).length) :
    DE L.c X W (.Call (.Name x p) [] kws pos) (fApp fm aNil bs) := fun g env σ st Q w ev q => by
  refine bE_of (pe_cwK0 hg (hm.at hX) (c.kpX hX) (nm1 hn) hkw) ?_
  have q : PostR L.c W g σ (Rep L.c) ((bs env st).bind fun ys s2 => fm ([] ++ ys) s2) Q := q
  exact hk g env σ st _ w ev (PostR.bindE q fun ys s2 g2 zs e2 x2 w2 rz q2 => c.after hX tk g2 s2 ([] ++ ys) [] zs Q w2 rfl (by rw [rz.length]; exact lb _ _ _ _ e2) rz (PostR.later x2 q2))
/-! methods -/
/-- o.m(..), o an instance of C -/
structure MethOk (L : Law) (k : Nat) (C m : Str) (n : Nat) (ks : List Str) (fm : FnM) : Prop where
  cl : Cls L.c.K (L.c.ad C)
  ex : ∃ f, Meth L.c.K (L.c.ad C) m f ∧ CallOk L k f (n + 1) ks fm
theorem MethOk.mono (h : MethOk L j C m n ks fm) (hj : j ≤ k) : MethOk L k C m n ks fm := ⟨h.cl, h.ex.imp fun f h => ⟨h.1, h.2.mono hj⟩⟩
def fSelf (C m : Str) (fo : ER) (K : D → ER) : ER := fun env st => (fo env st).bind fun d s => match insOf s d with
  | some (y, fs) => if y = C ∧ fs.lookup m = none then K d env s else .bad
  | none => .bad
theorem post_self {t : V → TE} {F : D → ER} (hX : XOk L X k) (ho : DE L.c X W o fo) (w : Wf L.c g st) (ev : EnvR L.c g env σ) (q : PostR L.c W g σ (Rep L.c) (fSelf C m fo F env st) Q)
    (ht : ∀ g1 s d v (Q : VK), Ext g g1 → Wf L.c g1 s → EnvR L.c g1 env σ → Rep L.c g1 d v → PostR L.c W g1 σ (Rep L.c) (F d env s) Q → t v σ g1.H Q) : tMW X (L.c.ad C) m (bE X o) t σ g.H Q := by
  refine ho g env σ st _ w ev (PostR.bind q fun d s g1 v x1 w1 r q1 => ?_)
  cases hi : insOf s d with
  | none => rw [hi] at q1; exact q1.elim
  | some yf =>
    obtain ⟨y, fs⟩ := yf
    rw [hi] at q1
    have q2 : PostR L.c W g σ (Rep L.c) (if y = C ∧ fs.lookup m = none then F d env s else .bad) Q := q1
    by_cases hy : y = C ∧ fs.lookup m = none
    · rw [if_pos hy] at q2
      obtain ⟨rfl, hl⟩ := hy
      obtain ⟨a, dx, vs, rfl, e1, rf⟩ := ins_read w1 (.inl r) hi
      exact ⟨a, dx, vs, rfl, e1, rf.non hl, ht g1 s d _ Q x1 w1 (ev.ext x1 w) r (PostR.later x1 q2)⟩
    · rw [if_neg hy] at q2; exact q2.elim
def fMe (C m : Str) (fm : FnM) (fo : ER) (as : AR) : ER := fSelf C m fo fun d env s => (as env s).bind fun xs s2 => fm (d :: xs) s2
def fMeK (C m : Str) (fm : FnM) (fo : ER) (as bs : AR) : ER := fSelf C m fo fun d env s => (as env s).bind fun xs s2 => (bs env s2).bind fun ys s3 => fm (d :: (xs ++ ys)) s3
theorem s_me (hX : XOk L X k) (tk : Takes X W) (M : MethOk L k C m n [] fm) (hb : NoCall0 o = true) (hs : (e :: es).all NoStar = true) (hl : decide ((e :: es).length + 0 + 1 < 30) = true) (hline : (apos.endLine == pos.line) = true) (ho : DE L.c X W o fo) (ha : DA L.c X W (e :: es) as) (la : ALen as n) :
    DE L.c X W (.Call (.Attribute o m apos) (e :: es) [] pos) (fMe C m fm fo as) := fun g env σ st Q w ev q => by
  obtain ⟨f, hm, c⟩ := M.ex
  refine bE_of (pe_mw (Ca := L.c.ad C) (fa := f) (by rw [hX.K]; exact M.cl) (by rw [hX.K]; exact hm) hb hs hl hline) (post_self hX ho w ev q fun g1 s d v Q x1 w1 ev1 r q1 => ?_)
  refine ha g1 env σ s _ w1 ev1 (PostR.bindE q1 fun xs s2 g2 vs e x2 w2 rs q2 => ?_)
  exact c.after0 hX tk g2 s2 (d :: xs) (v :: vs) Q w2 (by rw [List.length_cons, rs.length, la _ _ _ _ e]) ⟨v, vs, rfl, x2.rep w1 r, rs⟩ (PostR.later x2 q2)
theorem s_me0 (hX : XOk L X k) (tk : Takes X W) (M : MethOk L k C m 0 [] fm) (hb : NoCall0 o = true) (hline : (apos.endLine == pos.line) = true) (ho : DE L.c X W o fo) : DE L.c X W (.Call (.Attribute o m apos) [] [] pos) (fMe C m fm fo aNil) := fun g env σ st Q w ev q => by
  obtain ⟨f, hm, c⟩ := M.ex
  refine bE_of (pe_mw0 (Ca := L.c.ad C) (fa := f) (by rw [hX.K]; exact M.cl) (by rw [hX.K]; exact hm) hb hline) (post_self hX ho w ev q fun g1 s d v Q x1 w1 ev1 r q1 => ?_)
  exact c.after0 hX tk g1 s [d] [v] Q w1 rfl ⟨v, [], rfl, r, rfl⟩ q1
theorem s_meK (hX : XOk L X k) (tk : Takes X W) (M : MethOk L k C m n (kwNames kws) fm) (hb : NoCall0 o = true) (hs : (e :: es).all NoStar = true) (hkw : KwOk kws = true) (hl : decide ((e :: es).length + kws.length + 1 < 30) = true) (hline : (apos.endLine == pos.line) = true) (ho : DE L.c X W o fo) (ha : DA L.c X W (e :: es) as) (hk : DPK L.c X W kws bs) (la : ALen as n) (lb : ALen bs (kwNames kws).length) :
    DE L.c X W (.Call (.Attribute o m apos) (e :: es) kws pos) (fMeK C m fm fo as bs) := fun g env σ st Q w ev q => by
  obtain ⟨f, hm, c⟩ := M.ex
  refine bE_of (pe_mwK (Ca := L.c.ad C) (fa := f) (by rw [hX.K]; exact M.cl) (by rw [hX.K]; exact hm) hb hs hkw hl hline) (post_self hX ho w ev q fun g1 s d v Q x1 w1 ev1 r q1 => ?_)
  refine ha g1 env σ s _ w1 ev1 (PostR.bindE q1 fun xs s2 g2 vs e x2 w2 rs q2 => ?_)
  refine hk g2 env σ s2 _ w2 (ev1.ext x2 w1) (PostR.bindE (PostR.later x2 q2) fun ys s3 g3 zs e3 x3 w3 rz q3 => ?_)
  exact c.after hX tk g3 s3 (d :: (xs ++ ys)) (v :: vs) zs Q w3 (by rw [List.length_cons, rs.length, la _ _ _ _ e]) (by rw [rz.length]; exact lb _ _ _ _ e3) ⟨v, vs ++ zs, rfl, x3.rep w2 (x2.rep w1 r), (x3.reps w2 rs).append rz⟩ (PostR.later x3 q3)
theorem s_meK0 (hX : XOk L X k) (tk : Takes X W) (M : MethOk L k C m 0 (kwNames kws) fm) (hb : NoCall0 o = true) (hkw : KwOk kws = true) (hl : decide (0 + kws.length + 1 < 30) = true) (hline : (apos.endLine == pos.line) = true) (ho : DE L.c X W o fo) (hk : DPK L.c X W kws bs) (lb : ALen bs (kwNames kws).length) :
    DE L.c X W (.Call (.Attribute o m apos) [] kws pos) (fMeK C m fm fo aNil bs) := fun g env σ st Q w ev q => by
  obtain ⟨f, hm, c⟩ := M.ex
  refine bE_of (pe_mwK0 (Ca := L.c.ad C) (fa := f) (by rw [hX.K]; exact M.cl) (by rw [hX.K]; exact hm) hb hkw hl hline) (post_self hX ho w ev q fun g1 s d v Q x1 w1 ev1 r q1 => ?_)
  have q1 : PostR L.c W g1 σ (Rep L.c) ((bs env s).bind fun ys s3 => fm (d :: ([] ++ ys)) s3) Q := q1
  refine hk g1 env σ s _ w1 ev1 (PostR.bindE q1 fun ys s3 g3 zs e3 x3 w3 rz q3 => ?_)
  exact c.after hX tk g3 s3 (d :: ([] ++ ys)) [v] zs Q w3 rfl (by rw [rz.length]; exact lb _ _ _ _ e3) ⟨v, zs, rfl, x3.rep w1 r, rz⟩ (PostR.later x3 q3)
/-! properties -/
structure PropOk (L : Law) (k : Nat) (C x : Str) (fm : FnM) : Prop where
  cl : Cls L.c.K (L.c.ad C)
  ex : ∃ (p gA : Addr) (fd : FuncData) (ps : List Str), PropOf L.c.K (L.c.ad C) x p gA ∧ FnOk L.P L.w L.c.K L.mg L.base (CX L.P L.w) k gA fd ps (DSp L 1 fm) ∧ Binds L.c.K fd ps []
theorem PropOk.mono (h : PropOk L j C x fm) (hj : j ≤ k) : PropOk L k C x fm := by
  obtain ⟨cl, p, gA, fd, ps, h1, h2, h3⟩ := h
  exact ⟨cl, p, gA, fd, ps, h1, h2.mono hj, h3⟩
def noexc {α : Type} : Out α → Out α
  | .ok a s => .ok a s
  | _ => .bad
def fProp (C : Str) (fm : FnM) (fo : ER) : ER := fun env st => (fo env st).bind fun d s => match insOf s d with
  | some (y, _) => if y = C then noexc (fm [d] s) else .bad
  | none => .bad
theorem s_prop (hX : XOk L X (k + 1)) (M : PropOk L k C x fm) (hb : NoCall0 o = true) (ho : DE L.c X W o fo) : DE L.c X W (.Attribute o x pos) (fProp C fm fo) := fun g env σ st Q w ev q => by
  obtain ⟨cl, pa, gA, fd, ps, h1, h2, h3⟩ := M
  obtain ⟨P, W', c, mg, base⟩ := L
  obtain ⟨⟨e1, e2, e3, e4, e5, _, nd⟩, hc, hr⟩ := hX
  dsimp only at *
  subst e1 e2 e4 e5
  have e3' : c.K = X.K := e3.symm
  rw [e3'] at h1 h2 h3 cl
  refine bE_of (pe_prop (dvs := []) (ds := []) (E := E0) pe_b cl h1 h2 hr h3 .nil passL (base_of hb)) ?_
  refine ho g env σ st _ w ev (PostR.bind q fun d s g1 v x1 w1 r q1 => ?_)
  cases hi : insOf s d with
  | none => rw [hi] at q1; exact q1.elim
  | some yf =>
    obtain ⟨y, fs⟩ := yf
    rw [hi] at q1
    have q2 : PostR c W g σ (Rep c) (if y = C then noexc (fm [d] s) else .bad) Q := q1
    by_cases hy : y = C
    · subst hy
      rw [if_pos rfl] at q2
      obtain ⟨a, dx, vs, rfl, e1, rf⟩ := ins_read w1 (.inl r) hi
      refine ⟨a, dx, vs, rfl, e1, g1, [d], s, rfl, rfl, w1, ⟨_, [], rfl, r, rfl⟩, ?_⟩
      have q3 := PostR.later x1 q2
      cases hf : fm [d] s with
      | ok z s2 => rw [hf] at q3; exact q3
      | exc _ _ _ => rw [hf] at q3; exact q3.elim
      | bad => rw [hf] at q3; exact q3.elim
    · rw [if_neg hy] at q2; exact q2.elim
end
end DL
end
section
set_option Elab.async false
set_option linter.all false
set_option maxRecDepth 100000
set_option autoImplicit false
/-! DL: targets, what is walked, list and dict comprehensions -/
namespace DL
open PySem PySem.Spec L2
open PyProof.Rows hiding St

def Cell.beq : Cell → Cell → Bool
  | .lst a, .lst b => D.beqs a b
  | .dct a, .dct b => D.beqK a b
  | .ldct a, .ldct b => D.beqK a b
  | .ins a x, .ins b y => decide (a = b) && D.beqF x y
  | _, _ => false
theorem Cell.beq_eq {a b : Cell} (h : Cell.beq a b = true) : a = b := by
  cases a with
  | lst a =>
    cases b with
    | lst b => rw [D.beqs_eq a b h]
    | _ => cases h
  | dct a =>
    cases b with
    | dct b => rw [D.beqK_eq a b h]
    | _ => cases h
  | ldct a =>
    cases b with
    | ldct b => rw [D.beqK_eq a b h]
    | _ => cases h
  | ins a x =>
    cases b with
    | ins b y =>
      have h : (decide (a = b) && D.beqF x y) = true := h
      rw [Bool.and_eq_true] at h
      rw [of_decide_eq_true h.1, D.beqF_eq x y h.2]
    | _ => cases h
theorem Cell.beq_refl (a : Cell) : Cell.beq a a = true := by
  cases a with
  | lst a => exact D.beqs_refl a
  | dct a => exact D.beqK_refl a
  | ldct a => exact D.beqK_refl a
  | ins a x =>
    show (decide (a = a) && D.beqF x x) = true
    rw [D.beqF_refl x, decide_eq_true rfl]; rfl

/-! ### targets -/
mutual
inductive Pat where
  | v (i : Nat) | t (ps : Pats)
inductive Pats where
  | nil | cons (p : Pat) (ps : Pats)
end
mutual
def bindP : Pat → D → Store → DEnv → Option DEnv
  | .v i, d, _, env => some (env.set i (.val d))
  | .t ps, d, st, env => match seqOf st d with
    | some ds => bindPs ps ds st env
    | none => none
def bindPs : Pats → List D → Store → DEnv → Option DEnv
  | .nil, [], _, env => some env
  | .cons p ps, d :: ds, st, env => match bindP p d st env with
    | some env' => bindPs ps ds st env'
    | none => none
  | _, _, _, _ => none
end
mutual
def Pat.ix : Pat → List Nat
  | .v i => [i]
  | .t ps => ps.ix
def Pats.ix : Pats → List Nat
  | .nil => []
  | .cons p ps => p.ix ++ ps.ix
end
/-- only the slots at vs differ -/
def Off (vs : List Nat) (σ σ' : St) : Prop := σ'.length = σ.length ∧ ∀ i, i ∉ vs → σ'[i]? = σ[i]?
theorem Off.refl {vs : List Nat} {σ : St} : Off vs σ σ := ⟨rfl, fun _ _ => rfl⟩
theorem Off.trans {vs ws : List Nat} {σ σ' σ'' : St} (a : Off vs σ σ') (b : Off ws σ' σ'') : Off (vs ++ ws) σ σ'' := ⟨b.1.trans a.1, fun i hi => by
  rw [List.mem_append, not_or] at hi
  exact (b.2 i hi.2).trans (a.2 i hi.1)⟩
def bG (X : Cx) (tg : Expr) : TG := fun v σ H Q => ∀ pins s u, Inv X pins σ H s → RelV v u → wpAny (model X.prog X.w) X.A (assign tg X.env u) (fun _ s' => ∃ σ' H', Inv X pins σ' H' s' ∧ Q σ' H') X.xe s
theorem pg_b {X : Cx} {tg : Expr} : PG X tg (bG X tg) := ⟨fun pins s σ H v u Q I r h => h pins s u I r⟩
theorem bG_of {X : Cx} {tg : Expr} {t : TG} {v : V} {σ : St} {H : Hp} {Q : St → Hp → Prop} (h : PG X tg t) (q : t v σ H Q) : bG X tg v σ H Q := fun pins s u I r => h.run pins s σ H v u Q I r q
def bGs (X : Cx) (ts : List Expr) : TGs := fun vs σ H Q => ∀ pins s us, Inv X pins σ H s → Vals vs us → wpAny (model X.prog X.w) X.A (assignInOrder ((assignEach ts X.env).map (·.2)) us) (fun _ s' => ∃ σ' H', Inv X pins σ' H' s' ∧ Q σ' H') X.xe s
theorem pgs_b {X : Cx} {ts : List Expr} : PGs X ts (bGs X ts) := ⟨fun pins s σ H vs us Q I r h => h pins s us I r⟩
theorem bGs_of {X : Cx} {ts : List Expr} {t : TGs} {vs : List V} {σ : St} {H : Hp} {Q : St → Hp → Prop} (h : PGs X ts t) (q : t vs σ H Q) : bGs X ts vs σ H Q := fun pins s us I r => h.run pins s σ H vs us Q I r q
def DG (c : Cst) (X : Cx) (tg : Expr) (p : Pat) : Prop := ∀ g env σ st d v env' (Q : St → Hp → Prop), Wf c g st → EnvR c g env σ → Rep c g d v → bindP p d st env = some env' → (∀ σ', EnvR c g env' σ' → Off p.ix σ σ' → Q σ' g.H) → bG X tg v σ g.H Q
def DGs (c : Cst) (X : Cx) (tgs : List Expr) (p : Pats) : Prop := ∀ g env σ st ds vs env' (Q : St → Hp → Prop), Wf c g st → EnvR c g env σ → Reps c g ds vs → bindPs p ds st env = some env' → (∀ σ', EnvR c g env' σ' → Off p.ix σ σ' → Q σ' g.H) → bGs X tgs vs σ g.H Q
section
variable {L : Law} {X : Cx} {k : Nat} {pos : Pos}
theorem g_var (hX : XOk L X k) {i : Nat} {x : Str} (hN : X.N[i]? = some x) (hl : X.env.scope.names.lookup x = some .local) : DG L.c X (.Name x pos) (.v i) := fun g env σ st d v env' Q w ev r e q => by
  refine bG_of (pg_name hX.nd hN (.inl hl) (.inr hl)) ?_
  cases e
  refine q _ (ev.set r) ⟨by simp, fun j hj => ?_⟩
  have : i ≠ j := fun z => hj (by simp [Pat.ix, z])
  exact List.getElem?_set_ne this
theorem gs_nil : DGs L.c X [] .nil := fun g env σ st ds vs env' Q w ev r e q => by
  cases ds with
  | nil =>
    have e1 : vs = [] := r
    cases e
    exact bGs_of pgs_nil ⟨e1, q σ ev Off.refl⟩
  | cons _ _ => cases e
/-- a written target, not starred -/
def PlainTg : Expr → Bool
  | .Name _ _ => true
  | .Tuple _ _ _ => true
  | _ => false
theorem tg_cons {e : Expr} {es : List Expr} {env : Env} (h : PlainTg e = true) : assignEach (e :: es) env = (false, assign e env) :: assignEach es env := by
  cases e with
  | Name _ _ => rfl
  | Tuple _ _ _ => rfl
  | _ => cases h
theorem tg_len {env : Env} : ∀ {es : List Expr}, es.all PlainTg = true → (assignEach es env).length = es.length ∧ (assignEach es env).findIdx? (·.1) = none
  | [], _ => ⟨rfl, rfl⟩
  | e :: es, h => by
    rw [List.all_cons, Bool.and_eq_true] at h
    obtain ⟨h1, h2⟩ := tg_len (env := env) h.2
    rw [tg_cons h.1]
    refine ⟨by rw [List.length_cons, List.length_cons, h1], ?_⟩
    rw [List.findIdx?_cons, h2]; rfl
theorem gs_cons {e : Expr} {es : List Expr} {p : Pat} {ps : Pats} (hp : PlainTg e = true) (h : DG L.c X e p) (hr : DGs L.c X es ps) : DGs L.c X (e :: es) (.cons p ps) := fun g env σ st ds vs env' Q w ev r e' q => by
  cases ds with
  | nil => cases e'
  | cons d ds =>
    obtain ⟨v, ws, rfl, r, rs⟩ := r
    cases hb : bindP p d st env with
    | none => simp [bindPs, hb] at e'
    | some env1 =>
      have e' : bindPs ps ds st env1 = some env' := by simpa [bindPs, hb] using e'
      refine bGs_of (pgs_cons pg_b pgs_b (by rw [tg_cons hp]; rfl)) ⟨v, ws, rfl, ?_⟩
      refine h g env σ st d v env1 _ w ev r hb fun σ1 ev1 o1 => ?_
      exact hr g env1 σ1 st ds ws env' Q w ev1 rs e' fun σ2 ev2 o2 => q σ2 ev2 (o1.trans o2)
theorem g_tup (hX : XOk L X k) {es : List Expr} {ps : Pats} {j : Nat} (hp : es.all PlainTg = true) (h : DGs L.c X es ps) (hl : ∀ ds st env env', bindPs ps ds st env = some env' → ds.length = es.length) : DG L.c X (.Tuple es j pos) (.t ps) := fun g env σ st d v env' Q w ev r e q => by
  obtain ⟨h1, h2⟩ := tg_len (env := X.env) hp
  cases hs : seqOf st d with
  | none => simp [bindP, hs] at e
  | some ds =>
    have e : bindPs ps ds st env = some env' := by simpa [bindP, hs] using e
    obtain ⟨a, vs, rfl, sq, rs⟩ := seq_read w (.inl r) hs
    have hn : vs.length = es.length := by rw [rs.length]; exact hl _ _ _ _ e
    have q2 : bGs X es vs σ g.H Q := h g env σ st ds vs env' Q w ev rs e q
    rcases sq with sq | sq
    · exact bG_of (pg_lst hX.calm pgs_b h1 h2) ⟨a, vs, rfl, by rw [hX.K]; exact sq, hn, q2⟩
    · exact bG_of (pg_tup hX.calm pgs_b h1 h2) ⟨a, vs, rfl, by rw [hX.K]; exact sq, hn, q2⟩
def Pats.len : Pats → Nat
  | .nil => 0
  | .cons _ ps => ps.len + 1
theorem bindPs_len : ∀ {ps : Pats} {ds : List D} {st : Store} {env env' : DEnv}, bindPs ps ds st env = some env' → ds.length = ps.len
  | .nil, [], _, _, _, _ => rfl
  | .nil, _ :: _, _, _, _, h => by cases h
  | .cons _ _, [], _, _, _, h => by cases h
  | .cons p ps, d :: ds, st, env, env', h => by
    cases hb : bindP p d st env with
    | none => simp [bindPs, hb] at h
    | some e1 =>
      have h : bindPs ps ds st e1 = some env' := by simpa [bindPs, hb] using h
      rw [List.length_cons, bindPs_len h]; rfl
end
/-! wiped slots -/
def wipeD (env : DEnv) : List Nat → DEnv
  | [] => env
  | v :: vs => (wipeD env vs).set v .no
section
variable {c : Cst} {g : G} {env : DEnv} {σ σ' : St}
theorem EnvR.no (h : EnvR c g env σ) (i : Nat) : EnvR c g (env.set i .no) (σ.set i none) := by
  refine ⟨by simp [h.len], fun j s o e1 e2 => ?_, fun j k cj ck a e1 e2 e3 e4 => ?_⟩
  · by_cases hj : i = j
    · subst hj
      have hi : i < env.length := by simpa using (List.getElem?_eq_some_iff.mp e1).1
      rw [List.getElem?_set_self hi] at e1
      cases e1; trivial
    · rw [List.getElem?_set_ne hj] at e1 e2
      exact h.at_ j s o e1 e2
  · have nj : ∀ {j : Nat} {cj : Cell}, (env.set i Slot.no)[j]? = some (Slot.own cj) → i ≠ j ∧ env[j]? = some (Slot.own cj) := fun {j cj} e => by
      by_cases hj : i = j
      · subst hj
        have hi : i < env.length := by simpa using (List.getElem?_eq_some_iff.mp e).1
        rw [List.getElem?_set_self hi] at e
        cases e
      · exact ⟨hj, by rwa [List.getElem?_set_ne hj] at e⟩
    obtain ⟨n1, e1⟩ := nj e1
    obtain ⟨n2, e2⟩ := nj e2
    rw [List.getElem?_set_ne n1] at e3
    rw [List.getElem?_set_ne n2] at e4
    exact h.own j k cj ck a e1 e2 e3 e4
theorem EnvR.wipe (h : EnvR c g env σ) : ∀ vs : List Nat, EnvR c g (wipeD env vs) (wipe σ vs)
  | [] => h
  | v :: vs => (EnvR.wipe h vs).no v
theorem wipe_at (i : Nat) : ∀ vs : List Nat, (wipe σ vs)[i]? = if i ∈ vs then (if i < σ.length then some none else none) else σ[i]?
  | [] => by simp [L2.wipe]
  | v :: vs => by
    show ((L2.wipe σ vs).set v none)[i]? = _
    by_cases hv : v = i
    · subst hv
      rw [if_pos (by simp)]
      by_cases hi : v < σ.length
      · rw [if_pos hi, List.getElem?_set_self (by rw [wipe_length]; exact hi)]
      · rw [if_neg hi, List.getElem?_eq_none (by simp [wipe_length]; omega)]
    · rw [List.getElem?_set_ne hv, wipe_at i vs]
      simp [List.mem_cons, show ¬ i = v from fun z => hv z.symm]
theorem wipe_off {ix vs : List Nat} (h : Off ix (wipe σ vs) σ') (hs : ∀ i ∈ ix, i ∈ vs) : wipe σ' vs = wipe σ vs := by
  refine List.ext_getElem? fun i => ?_
  have hl : σ'.length = σ.length := by rw [h.1, wipe_length]
  rw [wipe_at, wipe_at, hl]
  by_cases hi : i ∈ vs
  · rw [if_pos hi, if_pos hi]
  · rw [if_neg hi, if_neg hi, h.2 i (fun z => hi (hs i z)), wipe_at, if_neg hi]
end

/-! ### what is walked -/
structure WD where
  items : List D
  guard : Option (Nat × Cell)
def WD.ok (w : WD) (st : Store) : Bool := match w.guard with
  | none => true
  | some (i, cl) => match st[i]? with
    | some cl' => Cell.beq cl cl'
    | none => false
def WalkR (c : Cst) (ρ : G → G → Prop) (g : G) (wd : WD) (J : It) : Prop :=
  ∃ (Gd : Hp → Prop) (Y : Nat → Hp → V → Hp → Prop), Walk J wd.items.length Gd Y ∧ (∀ g2 st2, ρ g g2 → Wf c g2 st2 → wd.ok st2 = true → Gd g2.H) ∧
    ∀ i g2 st2 x H', ρ g g2 → Wf c g2 st2 → wd.ok st2 = true → Y i g2.H x H' → i < wd.items.length → ∃ g3 d, H' = g3.H ∧ Ext g2 g3 ∧ Wf c g3 st2 ∧ wd.items[i]? = some d ∧ Rep c g3 d x
theorem WalkR.ext {c : Cst} {g : G} {st : Store} {wd : WD} {J : It} (w : Wf c g st) (h : WalkR c Le g wd J) : WalkR c Ext g wd J := by
  obtain ⟨Gd, Y, h1, h2, h3⟩ := h
  exact ⟨Gd, Y, h1, fun g2 st2 x => h2 g2 st2 (x.le w), fun i g2 st2 x H' e => h3 i g2 st2 x H' (e.le w)⟩
def bI (X : Cx) (tg iter : Expr) : TI := fun σ H R => ∀ pins s, Inv X pins σ H s → wpAny (model X.prog X.w) X.A (eval iter X.env) (fun v s1 => wpAny (model X.prog X.w) X.A (pyIter v) (PIE X pins σ tg R) X.xe s1) X.xe s
theorem pi_b {X : Cx} {tg iter : Expr} : PI X tg iter (bI X tg iter) := ⟨fun pins s σ H R I h => h pins s I⟩
theorem bI_of {X : Cx} {tg iter : Expr} {wi : TI} {σ : St} {H : Hp} {R : It → Hp → Prop} (h : PI X tg iter wi) (q : wi σ H R) : bI X tg iter σ H R := fun pins s I => h.run pins s σ H R I q
abbrev IR := DEnv → Store → Out WD
/-- an iterable at one state -/
def IA (c : Cst) (X : Cx) (W : WX) (ρ : G → G → Prop) (tg iter : Expr) (f : IR) (g : G) (env : DEnv) (σ : St) (st : Store) : Prop := ∀ R : It → Hp → Prop, PostR c W g σ (WalkR c ρ) (f env st) R → bI X tg iter σ g.H R
def DI (c : Cst) (X : Cx) (W : WX) (ρ : G → G → Prop) (tg iter : Expr) (f : IR) : Prop := ∀ g env σ st, Wf c g st → EnvR c g env σ → IA c X W ρ tg iter f g env σ st
section
variable {L : Law} {X : Cx} {W : WX} {k : Nat} {tg e : Expr} {f : ER} {pos p apos : Pos}
theorem DI.ext {ρ : G → G → Prop} {f : IR} (hρ : ∀ g st wd J, Wf L.c g st → WalkR L.c Le g wd J → WalkR L.c ρ g wd J) (h : DI L.c X W Le tg e f) : DI L.c X W ρ tg e f := fun g env σ st w ev R q =>
  h g env σ st w ev R (PostR.imp (Q := R) q fun d s g' v _ _ w' r k => k (hρ g' s d v w' r))
def seqW (st : Store) : D → Option WD
  | .lst xs => some ⟨xs, none⟩
  | .tup xs => some ⟨xs, none⟩
  | .str z => some ⟨z.cps.toList.map fun c => .str ⟨#[c]⟩, none⟩
  | .scr ns => some ⟨ns.map .int, none⟩
  | .cell i => match st[i]? with
    | some (.lst xs) => some ⟨xs, some (i, .lst xs)⟩
    | _ => none
  | _ => none
def iSeq (f : ER) : IR := fun env st => (f env st).bind fun x s => .opt (seqW s x) s
theorem pi_or {iter : Expr} {w1 w2 : TI} (h1 : PI X tg iter w1) (h2 : PI X tg iter w2) : PI X tg iter (fun σ H R => w1 σ H R ∨ w2 σ H R) := ⟨fun pins s σ H R I h => h.elim (h1.run pins s σ H R I) (h2.run pins s σ H R I)⟩
/-- the value first, then its kind -/
theorem pi_any (he : PE X e (bE X e)) : PI X tg e (fun σ H R => bE X e σ H fun x H1 => (∃ a, x = .ref a ∧ (∃ xs, SqL X.K H1 a xs) ∧ R (Itl X.K a) H1) ∨ (∃ a, x = .ref a ∧ (∃ xs, SqT X.K H1 a xs) ∧ R (Itt X.K a) H1) ∨ ∃ z, x = .str z ∧ R (Its z) H1) := by
  refine ⟨fun pins s σ H R I h => ?_⟩
  refine thn (h pins s I) fun v s1 ⟨x, H1, I1, r1, q1⟩ => ?_
  have v1 : PE X e (fun σ' H' Q => False) := ⟨fun _ _ _ _ _ _ z => z.elim⟩
  rcases q1 with ⟨a, e1, ⟨xs, hq⟩, q⟩ | ⟨a, e1, ⟨xs, hq⟩, q⟩ | ⟨z, e1, q⟩
  · subst e1
    cases r1
    obtain ⟨its, rv, p, hz⟩ := I1.list hq
    refine wpAny_pyIter_list p.isList ?_
    refine ⟨s1.heap.objs.size, [s1.heap.objs.size], _, _, H1, rfl, I1.kept (t' := s1.toks) fun b o e => Heap.get?_push_of_some _ e, turn_list a _, ⟨_, Heap.get?_push_size _ rfl, rfl, rfl⟩, fun b hb => ?_, q⟩
    have e : b = s1.heap.objs.size := by simpa using hb
    subst e
    exact I1.fpOk (Nat.le_refl _) (I1.hok.fresh (Nat.le_refl _))
  · subst e1
    cases r1
    obtain ⟨its, rv, p, hz⟩ := I1.tuple hq
    refine wpAny_pyIter_tuple (show s1.heap.IsTuple a its.toArray from p) ?_
    refine ⟨s1.heap.objs.size, [s1.heap.objs.size], _, _, H1, rfl, I1.kept (t' := s1.toks) fun b o e => Heap.get?_push_of_some _ e, turn_tuple a _, ⟨_, Heap.get?_push_size _ rfl, rfl, rfl⟩, fun b hb => ?_, q⟩
    have e : b = s1.heap.objs.size := by simpa using hb
    subst e
    exact I1.fpOk (Nat.le_refl _) (I1.hok.fresh (Nat.le_refl _))
  · subst e1
    obtain ⟨t, rfl⟩ := r1
    cases ha : z.cps.all (· < 128)
    · exact wpAny_pyIter_wide ha (pi_one (tk := s1.toks) I1 _ (turn_str _ z t "str_iterator" (.inr rfl)) ⟨_, Heap.get?_push_size _ rfl, rfl, rfl⟩ q)
    · exact wpAny_pyIter_ascii ha (pi_one (tk := s1.toks) I1 _ (turn_str _ z t "str_ascii_iterator" (.inl rfl)) ⟨_, Heap.get?_push_size _ rfl, rfl, rfl⟩ q)
/-- a walk whose items stand in a list or tuple that stays -/
theorem walkR_at {c : Cst} {g : G} {wd : WD} {J : It} {vs : List V} {ρ : G → G → Prop} {Gd : Hp → Prop} (hw : Walk J vs.length Gd (YAt vs)) (rs : Reps c g wd.items vs) (hG : ∀ g2 st2, ρ g g2 → Wf c g2 st2 → wd.ok st2 = true → Gd g2.H) (hle : ∀ g2, ρ g g2 → Le g g2) : WalkR c ρ g wd J := by
  have hn := rs.length
  rw [hn] at hw
  refine ⟨Gd, YAt vs, hw, hG, fun i g2 st2 x H' hr w2 hk y hi => ?_⟩
  obtain ⟨e, hx⟩ := y
  obtain ⟨d, hd⟩ : ∃ d, wd.items[i]? = some d := ⟨_, List.getElem?_eq_getElem hi⟩
  obtain ⟨v, hv, r⟩ := rs.get hd
  rw [hx] at hv
  cases hv
  exact ⟨g2, d, e, Ext.refl g2, w2, hd, r.le (hle g2 hr)⟩
theorem i_seq (hX : XOk L X k) (h : DE L.c X W e f) : DI L.c X W Le tg e (iSeq f) := fun g env σ st w ev R q => by
  refine bI_of (pi_any pe_b) ?_
  refine h g env σ st _ w ev (PostR.bind q fun x s g1 v x1 w1 r q1 => ?_)
  cases hs : seqW s x with
  | none => rw [hs] at q1; exact q1.elim
  | some wd =>
    rw [hs] at q1
    have key : ∀ J, WalkR L.c Le g1 wd J → R J g1.H := fun J hJ => q1 g1 J x1 w1 hJ
    rw [hX.K]
    cases x with
    | lst xs =>
      obtain ⟨a, vs, rfl, hF, hq, rs⟩ := r
      cases hs
      exact .inl ⟨a, rfl, ⟨vs, SqL.of hq⟩, key _ (walkR_at walk_list rs (fun g2 st2 l _ _ => SqL.of (l.X a hF _ (fun _ z => by cases z) (fun _ _ z => by cases z) hq)) fun _ l => l)⟩
    | tup xs =>
      obtain ⟨a, vs, rfl, hF, hq, rs⟩ := r
      cases hs
      exact .inr (.inl ⟨a, rfl, ⟨vs, SqT.of hq⟩, key _ (walkR_at walk_tup rs (fun g2 st2 l _ _ => SqT.of (l.X a hF _ (fun _ z => by cases z) (fun _ _ z => by cases z) hq)) fun _ l => l)⟩)
    | str z =>
      have e : v = .str z := r
      subst e
      cases hs
      refine .inr (.inr ⟨z, rfl, key _ ⟨_, _, (by have := walk_str (z := z); rwa [show z.cps.size = (z.cps.toList.map fun c => D.str ⟨#[c]⟩).length by simp] at this), fun _ _ _ _ _ => trivial, fun i g2 st2 x H' l w2 _ y hi => ?_⟩⟩)
      obtain ⟨e1, ch, hc, e2⟩ := y
      subst e2
      exact ⟨g2, .str ⟨#[ch]⟩, e1, Ext.refl g2, w2, by simp [← hc], rfl⟩
    | scr ns =>
      cases hs
      obtain ⟨a, rfl, hq⟩ := r
      have hSq : ∀ g2, Le g1 g2 → SqL L.c.K g2.H a (ns.map V.int) := fun g2 l => by
        rcases hq with ⟨hF, hq⟩ | hq
        · exact .inl (l.H a hF _ (fun _ _ z => by cases z) hq)
        · exact .inr hq
      exact .inl ⟨a, rfl, ⟨_, hSq g1 ⟨fun _ h => h, fun _ _ _ _ h => h, fun _ _ _ _ _ h => h, ⟨[], by simp⟩⟩⟩, key _ (walkR_at walk_list (reps_ints ns) (fun g2 st2 l _ _ => hSq g2 l) fun _ l => l)⟩
    | cell i =>
      obtain ⟨a, rfl, ha⟩ := r
      cases hi : s[i]? with
      | none => simp [seqW, hi] at hs
      | some cl =>
        cases cl with
        | lst xs =>
          have hs : some (⟨xs, some (i, .lst xs)⟩ : WD) = some wd := by simpa [seqW, hi] using hs
          cases hs
          obtain ⟨vs, e1, rs⟩ := w1.cr i _ a hi ha
          have gd : ∀ g2 st2, Le g1 g2 → Wf L.c g2 st2 → WD.ok ⟨xs, some (i, .lst xs)⟩ st2 = true → ∃ ws, SqL L.c.K g2.H a ws ∧ Reps L.c g2 xs ws := fun g2 st2 l w2 hk => by
            unfold WD.ok at hk
            cases h2 : st2[i]? with
            | none => simp [h2] at hk
            | some cl' =>
              have hk : Cell.beq (.lst xs) cl' = true := by simpa [h2] using hk
              have e := Cell.beq_eq hk
              subst e
              obtain ⟨m, hm⟩ := l.as
              obtain ⟨ws, e2, rs2⟩ := w2.cr i _ a h2 (as_get hm ha)
              exact ⟨ws, SqL.of e2, rs2⟩
          refine .inl ⟨a, rfl, ⟨vs, SqL.of e1⟩, key _ ⟨fun H => ∃ ws, ws.length = xs.length ∧ SqL L.c.K H a ws, fun i H x H' => H' = H ∧ ∀ ws, SqL L.c.K H a ws → ws[i]? = some x, ⟨fun j H hj ⟨ws, hl, hq⟩ => ⟨ws, ws[j], hq, by simp [show j < ws.length by rw [hl]; exact hj]⟩, fun H ⟨ws, hl, hq⟩ => ⟨ws, hq, by rw [hl]; exact Nat.le_refl _⟩, fun j H x H' _ _ y => y⟩, fun g2 st2 l w2 hk => ?_, fun j g2 st2 x H' l w2 hk y hj => ?_⟩⟩
          · obtain ⟨ws, h1, h2⟩ := gd g2 st2 l w2 hk
            exact ⟨ws, h2.length, h1⟩
          · obtain ⟨ws, h1, h2⟩ := gd g2 st2 l w2 hk
            obtain ⟨d, hd⟩ : ∃ d, xs[j]? = some d := ⟨_, List.getElem?_eq_getElem hj⟩
            obtain ⟨v, hv, r⟩ := h2.get hd
            have := y.2 ws h1
            rw [hv] at this
            cases this
            exact ⟨g2, d, y.1, Ext.refl g2, w2, hd, r⟩
        | _ => simp [seqW, hi] at hs
    | _ => cases hs
end
end DL
end
section
set_option Elab.async false
set_option linter.all false
set_option maxRecDepth 100000
set_option autoImplicit false
/-! DL: ranges, enumerate, zip, dicts walked; comprehensions -/
namespace DL
open PySem PySem.Spec L2
open PyProof.Rows hiding St

section
variable {L : Law} {X : Cx} {W : WX} {k : Nat} {tg e e2 : Expr} {f f2 : ER} {pos p apos tpos : Pos} {as : AR} {es : List Expr}
/-! ### range -/
def rgW (i : Int) (c : Int) (n : Nat) : WD := ⟨(List.range n).map fun j => .int (i + (j : Nat) * c), none⟩
def asI : Out D → Out Int := fun o => o.bind fun x s => match x with
  | .int i => .ok i s
  | _ => .bad
def rg1 (j : Int) : Option WD := if -(2 ^ 62) ≤ j ∧ j < 2 ^ 62 then some (rgW 0 1 j.toNat) else none
def rg2 (i j : Int) : Option WD := if -(2 ^ 62) ≤ i ∧ i < 2 ^ 62 ∧ -(2 ^ 62) ≤ j ∧ j < 2 ^ 62 then some (rgW i 1 (j - i).toNat) else none
def rg3 (i j c : Int) : Option WD := if c ≠ 0 ∧ c.natAbs < 1073741824 ∧ Builtin.Range.small i j c = true ∧ Builtin.Range.rangeSize i j c = ((Builtin.Range.rangeSize i j c).toNat : Int) then some (rgW i c (Builtin.Range.rangeSize i j c).toNat) else none
def iRng1 (fa : ER) : IR := fun env st => (asI (fa env st)).bind fun j s => .opt (rg1 j) s
def iRng2 (fa fb : ER) : IR := fun env st => (asI (fa env st)).bind fun i s => (asI (fb env s)).bind fun j s2 => .opt (rg2 i j) s2
def iRng3 (fa fb fc : ER) : IR := fun env st => (asI (fa env st)).bind fun i s => (asI (fb env s)).bind fun j s2 => (asI (fc env s2)).bind fun c s3 => .opt (rg3 i j c) s3
theorem walkR_rg {c : Cst} {g : G} {J : It} {i cc : Int} {n : Nat} (h : Walk J n (fun _ => True) (YFn fun j => .int (i + (j : Nat) * cc))) : WalkR c Le g (rgW i cc n) J := by
  refine ⟨fun _ => True, _, by rwa [show (rgW i cc n).items.length = n by simp [rgW]], fun _ _ _ _ _ => trivial, fun j g2 st2 x H' l w2 _ y hj => ?_⟩
  obtain ⟨e1, e2⟩ := y
  have hj : j < n := by simpa [rgW] using hj
  exact ⟨g2, .int (i + (j : Nat) * cc), e1, Ext.refl g2, w2, by simp [rgW, hj], e2⟩
theorem walk_range1 {lo : Int} {n : Nat} : Walk (Itr lo n) n (fun _ => True) (YFn fun j => .int (lo + (j : Nat) * 1)) := by
  have h := walk_range (lo := lo) (n := n)
  have e : (fun i : Nat => V.int (lo + (i : Int))) = fun j => .int (lo + (j : Nat) * 1) := by funext j; rw [Int.mul_one]
  rwa [e] at h
theorem post_int {g : G} {σ : St} {o : Out D} {Q : Int → Hp → Prop} (q : PostR L.c W g σ (fun _ a b => a = b) (asI o) Q) : PostR L.c W g σ (PRep L.c) o (fun x H' => ∃ i, x = .int i ∧ Q i H') := by
  refine PostR.bind q fun x s g1 v x1 w1 r q => ?_
  cases x with
  | int i => exact ⟨i, pr_int r rfl, q g1 i x1 w1 rfl⟩
  | _ => exact q.elim
theorem asI_bind {g : G} {env : DEnv} {σ : St} {st : Store} {γ δ : Type} {R' : G → γ → δ → Prop} {Q : δ → Hp → Prop} {K : Int → Store → Out γ} {S : V → Hp → Prop} (h : DP L.c X W e f) (w : Wf L.c g st) (ev : EnvR L.c g env σ) (q : PostR L.c W g σ R' ((asI (f env st)).bind K) Q)
    (hk : ∀ i s g1, Ext g g1 → Wf L.c g1 s → PostR L.c W g1 σ R' (K i s) Q → S (.int i) g1.H) : bE X e σ g.H S := by
  refine h g env σ st _ w ev ?_
  cases hf : f env st with
  | ok x s =>
    rw [hf] at q
    cases x with
    | int i => exact fun g1 v x1 w1 r => by rw [pr_int r rfl]; exact hk i s g1 x1 w1 (PostR.later x1 q)
    | _ => exact q.elim
  | exc y fs s => rw [hf] at q; exact q
  | bad => rw [hf] at q; exact q.elim
theorem i_rng1 (hX : XOk L X k) (hg : Gl X "range") (hm : FreeOk L "range") (hs : NoStar e = true) (h : DP L.c X W e f) : DI L.c X W Le tg (.Call (.Name "range" p) [e] [] pos) (iRng1 f) := fun g env σ st w ev R q => by
  refine bI_of (pi_range1 hg (by rw [hX.mg]; exact hm) (pa_cons pe_b pa_nil (no_star hs)) (no_star hs)) ?_
  refine asI_bind h w ev q fun j s g1 x1 w1 q1 => ?_
  unfold rg1 at q1
  split at q1
  · rename_i hb
    exact ⟨j, rfl, hb.1, hb.2, q1 g1 _ (Ext.refl g1) w1 (walkR_rg walk_range1)⟩
  · exact q1.elim
theorem i_rng2 (hX : XOk L X k) (hg : Gl X "range") (hm : FreeOk L "range") (hs : NoStar e = true) (hs2 : NoStar e2 = true) (h : DP L.c X W e f) (h2 : DP L.c X W e2 f2) : DI L.c X W Le tg (.Call (.Name "range" p) [e, e2] [] pos) (iRng2 f f2) := fun g env σ st w ev R q => by
  have n2 : starEach [e2] X.env = [(false, eval e2 X.env)] := no_star hs2
  refine bI_of (pi_range2 hg (by rw [hX.mg]; exact hm) (pa_cons pe_b (pa_cons pe_b pa_nil n2) (no_star hs)) (by rw [no_star hs, n2]) n2) ?_
  refine asI_bind h w ev q fun i s g1 x1 w1 q1 => ?_
  refine asI_bind h2 w1 (ev.ext x1 w) q1 fun j s2 g2 x2 w2 q2 => ?_
  unfold rg2 at q2
  split at q2
  · rename_i hb
    exact ⟨i, j, rfl, hb, q2 g2 _ (Ext.refl g2) w2 (walkR_rg walk_range1)⟩
  · exact q2.elim
theorem i_rng3 {e3 : Expr} {f3 : ER} (hX : XOk L X k) (hg : Gl X "range") (hm : FreeOk L "range") (hs : NoStar e = true) (hs2 : NoStar e2 = true) (hs3 : NoStar e3 = true) (h : DP L.c X W e f) (h2 : DP L.c X W e2 f2) (h3 : DP L.c X W e3 f3) : DI L.c X W Le tg (.Call (.Name "range" p) [e, e2, e3] [] pos) (iRng3 f f2 f3) := fun g env σ st w ev R q => by
  have n3 : starEach [e3] X.env = [(false, eval e3 X.env)] := no_star hs3
  refine bI_of (pi_range3 hg (by rw [hX.mg]; exact hm) (pa_cons pe_b (pa_cons pe_b (pa_cons pe_b pa_nil n3) (no_star hs2)) (no_star hs)) (no_star hs) (no_stars (by simp [hs2, hs3]))) ?_
  refine asI_bind h w ev q fun i s g1 x1 w1 q1 => ?_
  refine asI_bind h2 w1 (ev.ext x1 w) q1 fun j s2 g2 x2 w2 q2 => ?_
  refine asI_bind h3 w2 ((ev.ext x1 w).ext x2 w1) q2 fun c s3 g3 x3 w3 q3 => ?_
  unfold rg3 at q3
  split at q3
  · rename_i hb
    exact ⟨i, j, c, _, rfl, ⟨hb.1, hb.2.1, hb.2.2.1, hb.2.2.2⟩, q3 g3 _ (Ext.refl g3) w3 (walkR_rg walk_rangeC)⟩
  · exact q3.elim

/-! ### enumerate, zip -/
/-- a list that is walked: its items, and what must stay -/
def lstW (st : Store) : D → Option WD
  | .lst xs => some ⟨xs, none⟩
  | .scr ns => some ⟨ns.map .int, none⟩
  | .cell i => match st[i]? with
    | some (.lst xs) => some ⟨xs, some (i, .lst xs)⟩
    | _ => none
  | _ => none
/-- how such a list stands at each later state -/
theorem lstW_at {g : G} {s : Store} {d : D} {v : V} {wd : WD} (w : Wf L.c g s) (r : Rep L.c g d v) (h : lstW s d = some wd) : ∃ a, v = .ref a ∧ ∀ g2 st2, Le g g2 → Wf L.c g2 st2 → wd.ok st2 = true → ∃ vs, SqL L.c.K g2.H a vs ∧ Reps L.c g2 wd.items vs := by
  cases d with
  | lst xs =>
    obtain ⟨a, vs, rfl, hF, hq, rs⟩ := r
    cases h
    exact ⟨a, rfl, fun g2 st2 l _ _ => ⟨vs, SqL.of (l.X a hF _ (fun _ z => by cases z) (fun _ _ z => by cases z) hq), rs.le l⟩⟩
  | scr ns =>
    obtain ⟨a, rfl, hq⟩ := r
    cases h
    refine ⟨a, rfl, fun g2 st2 l _ _ => ⟨ns.map V.int, ?_, reps_ints ns⟩⟩
    rcases hq with ⟨hF, hq⟩ | hq
    · exact .inl (l.H a hF _ (fun _ _ z => by cases z) hq)
    · exact .inr hq
  | cell i =>
    obtain ⟨a, rfl, ha⟩ := r
    cases hi : s[i]? with
    | none => simp [lstW, hi] at h
    | some cl =>
      cases cl with
      | lst xs =>
        have h : some (⟨xs, some (i, .lst xs)⟩ : WD) = some wd := by simpa [lstW, hi] using h
        cases h
        refine ⟨a, rfl, fun g2 st2 l w2 hk => ?_⟩
        unfold WD.ok at hk
        cases h2 : st2[i]? with
        | none => simp [h2] at hk
        | some cl' =>
          have hk : Cell.beq (.lst xs) cl' = true := by simpa [h2] using hk
          have e := Cell.beq_eq hk
          subst e
          obtain ⟨m, hm⟩ := l.as
          obtain ⟨ws, e2, rs2⟩ := w2.cr i _ a h2 (as_get hm ha)
          exact ⟨ws, SqL.of e2, rs2⟩
      | _ => simp [lstW, hi] at h
  | _ => cases h
theorem le_refl' (g : G) : Le g g := ⟨fun _ h => h, fun _ _ _ _ h => h, fun _ _ _ _ _ h => h, ⟨[], by simp⟩⟩
/-- new pairs -/
theorem pair_new {c : Cst} {g2 : G} {st2 : Store} {dx dy : D} {x y : V} {v : V} {T : Addr} {H' : Hp} (w2 : Wf c g2 st2) (e1 : v = .ref T) (hT : g2.H T = none) (e2 : H' = upd g2.H T (.tup [x, y])) (rx : Rep c g2 dx x) (ry : Rep c g2 dy y) :
    ∃ g3, H' = g3.H ∧ Ext g2 g3 ∧ Wf c g3 st2 ∧ Rep c g3 (.tup [dx, dy]) v := by
  subst e1 e2
  obtain ⟨x3, w3⟩ := new_frz (o := .tup [x, y]) w2 hT
  have l := le_new (o := .tup [x, y]) w2 hT
  exact ⟨_, rfl, x3, w3, T, [x, y], rfl, .inr rfl, upd_same, ⟨x, _, rfl, rx.le l, y, _, rfl, ry.le l, rfl⟩⟩
def numW (wd : WD) : WD := ⟨(List.range wd.items.length).map fun i => .tup [.int (i : Nat), wd.items.getD i .non], wd.guard⟩
def iEnum (f : ER) : IR := fun env st => (f env st).bind fun x s => .opt ((lstW s x).map numW) s
theorem i_enum {elts : List Expr} {kk : Nat} (hX : XOk L X k) (hg : Gl X "enumerate") (hm : FreeOk L "enumerate") (hs : NoStar e = true) (h : DE L.c X W e f) : DI L.c X W Le (.Tuple elts kk tpos) (.Call (.Name "enumerate" p) [e] [] pos) (iEnum f) := fun g env σ st w ev R q => by
  refine bI_of (pi_enum hg (by rw [hX.mg]; exact hm) (pa_cons pe_b pa_nil (no_star hs)) (no_star hs)) ?_
  rw [hX.K]
  refine h g env σ st _ w ev (PostR.bind q fun x s g1 v x1 w1 r q1 => ?_)
  cases hw : lstW s x with
  | none => rw [hw] at q1; exact q1.elim
  | some wd =>
    rw [hw] at q1
    obtain ⟨a, rfl, at_⟩ := lstW_at w1 r hw
    have ok1 : wd.ok s = true := by
      cases x with
      | cell i =>
        cases hi : s[i]? with
        | none => simp [lstW, hi] at hw
        | some cl =>
          cases cl with
          | lst xs =>
            have hw : some (⟨xs, some (i, .lst xs)⟩ : WD) = some wd := by simpa [lstW, hi] using hw
            cases hw
            simp [WD.ok, hi, Cell.beq_refl]
          | _ => simp [lstW, hi] at hw
      | lst _ => cases hw; rfl
      | scr _ => cases hw; rfl
      | _ => cases hw
    obtain ⟨vs, hq, rs⟩ := at_ g1 s (le_refl' g1) w1 ok1
    refine ⟨a, vs, rfl, hq, q1 g1 _ x1 w1 ⟨fun H => ∃ ws : List V, ws.length = wd.items.length ∧ SqL L.c.K H a ws, fun i H v H' => ∃ T x, v = .ref T ∧ H T = none ∧ H' = upd H T (.tup [.int (i : Nat), x]) ∧ ∀ xs, SqL L.c.K H a xs → xs[i]? = some x, ⟨fun j H hj ⟨ws, hl, hq⟩ => ?_, fun H ⟨ws, hl, hq⟩ => ?_, fun j H x H' _ _ y => y⟩, fun g2 st2 l w2 hk => ?_, fun j g2 st2 x H' l w2 hk y hj => ?_⟩⟩
    · have hj : j < wd.items.length := by simpa [numW] using hj
      exact ⟨ws, ws[j], hq, by simp [show j < ws.length by rw [hl]; exact hj]⟩
    · exact ⟨ws, hq, by rw [hl]; simp [numW]⟩
    · obtain ⟨ws, h1, h2⟩ := at_ g2 st2 l w2 hk
      exact ⟨ws, h2.length, h1⟩
    · obtain ⟨ws, h1, h2⟩ := at_ g2 st2 l w2 hk
      have hj : j < wd.items.length := by simpa [numW] using hj
      obtain ⟨d, hd⟩ : ∃ d, wd.items[j]? = some d := ⟨_, List.getElem?_eq_getElem hj⟩
      obtain ⟨v, hv, rv⟩ := h2.get hd
      obtain ⟨T, x, e1, hT, e2, hx⟩ := y
      have := hx ws h1
      rw [hv] at this
      cases this
      obtain ⟨g3, e3, x3, w3, r3⟩ := pair_new (dx := .int (j : Nat)) w2 e1 hT e2 rfl rv
      exact ⟨g3, _, e3, x3, w3, by simp [numW, List.getElem?_map, List.getElem?_range hj, List.getD_eq_getElem?_getD, hd], r3⟩
end
end DL
end
section
set_option Elab.async false
set_option linter.all false
set_option maxRecDepth 100000
set_option autoImplicit false
/-! DL: dicts walked (locked), list and dict comprehensions -/
namespace DL
open PySem PySem.Spec L2
open PyProof.Rows hiding St

/-! ### a frozen dict is locked -/
def G.lock (g : G) (a : Addr) (od : Obj) (vs : List (Key × V)) : G := { g with H := L2.upd g.H a (.frz od (.dK vs)) }
section
variable {c : Cst} {g g2 : G} {st : Store} {a : Addr} {od : Obj} {vs : List (Key × V)} {env : DEnv} {σ : St}
theorem le_lock (h : g.H a = some (.dK vs)) : Le g (g.lock a od vs) := by
  refine ⟨fun _ f => f, fun b f u _ hb => ?_, fun b f o hd _ hb => ?_, ⟨[], by simp [G.lock]⟩⟩
  · by_cases e : b = a
    · subst e
      rcases hb with hb | ⟨o', hb⟩
      · rw [h] at hb; cases hb
        exact .inr ⟨od, upd_same⟩
      · rw [h] at hb; cases hb
    · rcases hb with hb | ⟨o', hb⟩
      · exact .inl ((upd_ne e).trans hb)
      · exact .inr ⟨o', (upd_ne e).trans hb⟩
  · have e : b ≠ a := fun z => by subst z; rw [h] at hb; cases hb; exact hd _ rfl
    exact (upd_ne e).trans hb
theorem Wf.lock (w : Wf c g st) (hF : g.F a) (h : g.H a = some (.dK vs)) : Wf c (g.lock a od vs) st := by
  refine ⟨fun b hb => ?_, w.ca, w.nd, w.len, fun i cl b h1 h2 => (w.cr i cl b h1 h2).le (le_lock h) ?_⟩
  · show L2.upd g.H a _ b ≠ none
    by_cases e : b = a
    · subst e; rw [upd_same]; exact fun z => by cases z
    · rw [upd_ne e]; exact w.fa b hb
  · exact upd_ne fun z => w.ca b (List.mem_of_getElem? h2) (z ▸ hF)
theorem EnvR.lock (ev : EnvR c g env σ) (hF : g.F a) (h : g.H a = some (.dK vs)) : EnvR c (g.lock a od vs) env σ := by
  have l := le_lock (od := od) h
  refine ⟨ev.len, fun i s o e1 e2 => ?_, ev.own⟩
  have r := ev.at_ i s o e1 e2
  cases s with
  | no => trivial
  | val d => obtain ⟨v, e, r⟩ := r; exact ⟨v, e, r.le l⟩
  | own cl =>
    obtain ⟨b, e, f, n, r⟩ := r
    exact ⟨b, e, f, n, r.le l (upd_ne fun z => f (z ▸ hF))⟩
  | exn b cl fs =>
    obtain ⟨e, dd, ws, f, q, r⟩ := r
    exact ⟨e, dd, ws, f, (upd_ne fun z => by subst z; rw [h] at q; cases q).trans q, r.le l⟩
def G.unlock (g : G) (a : Addr) (vs : List (Key × V)) : G := { g with H := L2.upd g.H a (.dK vs) }
theorem le_unlock (h : g2.H a = some (.frz od (.dK vs))) : Le g2 (g2.unlock a vs) := by
  refine ⟨fun _ f => f, fun b f u nf hb => ?_, fun b f o hd nf hb => ?_, ⟨[], by simp [G.unlock]⟩⟩
  · by_cases e : b = a
    · subst e
      rcases hb with hb | ⟨o', hb⟩
      · rw [h] at hb; cases hb
        exact absurd rfl (nf _ _)
      · rw [h] at hb; cases hb
        exact .inl upd_same
    · rcases hb with hb | ⟨o', hb⟩
      · exact .inl ((upd_ne e).trans hb)
      · exact .inr ⟨o', (upd_ne e).trans hb⟩
  · have e : b ≠ a := fun z => by subst z; rw [h] at hb; cases hb; exact nf _ _ rfl
    exact (upd_ne e).trans hb
theorem Wf.unlock {g2 : G} (w : Wf c g2 st) (hF : g2.F a) (h : g2.H a = some (.frz od (.dK vs))) : Wf c (g2.unlock a vs) st := by
  refine ⟨fun b hb => ?_, w.ca, w.nd, w.len, fun i cl b h1 h2 => (w.cr i cl b h1 h2).le (le_unlock h) ?_⟩
  · show L2.upd g2.H a _ b ≠ none
    by_cases e : b = a
    · subst e; rw [upd_same]; exact fun z => by cases z
    · rw [upd_ne e]; exact w.fa b hb
  · exact upd_ne fun z => w.ca b (List.mem_of_getElem? h2) (z ▸ hF)
/-- from a locked state to a later one, seen without the lock -/
theorem Ext.unlock (h : g.H a = some (.dK vs)) (x : Ext (g.lock a od vs) g2) : Ext g (g2.unlock a vs) := by
  have ln : ∀ b, (g.lock a od vs).H b = none → g.H b = none := fun b hb => by
    by_cases e : b = a
    · subst e
      rw [show (g.lock b od vs).H b = some _ from upd_same] at hb; cases hb
    · exact (upd_ne (H := g.H) (o := .frz od (.dK vs)) e).symm.trans hb
  obtain ⟨m, e, hm⟩ := x.as
  refine ⟨x.F, ⟨m, e, fun b hb => ln b (hm b hb)⟩, fun b o hb eo => ?_, fun b hb => (x.back b hb).imp id (ln b), fun b hb => ?_⟩
  · by_cases z : b = a
    · subst z
      rw [h] at eo; cases eo
      exact .inl upd_same
    · rcases x.keep b o hb ((upd_ne z).trans eo) with q | ⟨f, kvs, od', e1, q⟩
      · exact .inl ((upd_ne z).trans q)
      · exact .inr ⟨f, kvs, od', e1, (upd_ne z).trans q⟩
  · have z : b ≠ a := fun z => by
      subst z
      rw [show (g2.unlock b vs).H b = some _ from upd_same] at hb; cases hb
    exact ln b (x.nn b ((upd_ne (H := g2.H) (o := .dK vs) z).symm.trans hb))
/-- behind a locked walk -/
theorem PostR.unlock {W : WX} {α β : Type} {R R' : G → α → β → Prop} {o : Out α} {Q : β → Hp → Prop} (w : Wf c g st) (hF : g.F a) (h : g.H a = some (.dK vs)) (hR : ∀ g2 s d v, Ext (g.lock a od vs) g2 → Wf c g2 s → R' g2 d v → R (g2.unlock a vs) d v) (q : PostR c W g σ R o Q) :
    PostR c W (g.lock a od vs) σ R' o (fun v H' => H' a = some (.frz od (.dK vs)) ∧ Q v (L2.upd H' a (.dK vs))) := by
  have x0 : Ext g (g.lock a od vs) := by
    refine ⟨fun _ f => f, ⟨[], by simp [G.lock], fun _ z => absurd z (by simp)⟩, fun b o hb e => ?_, fun b hb => .inl hb, fun b hb => ?_⟩
    · by_cases z : b = a
      · subst z
        rw [h] at e; cases e
        exact .inr ⟨hF, vs, od, rfl, upd_same⟩
      · exact .inl ((upd_ne z).trans e)
    · have z : b ≠ a := fun z => by
        subst z
        rw [show (g.lock b od vs).H b = some _ from upd_same] at hb; cases hb
      exact (upd_ne (H := g.H) (o := .frz od (.dK vs)) z).symm.trans hb
  cases o with
  | ok d s =>
    intro g2 v x2 w2 r
    have e2 : g2.H a = some (.frz od (.dK vs)) := x2.kept (fun z => w.ca a z hF) upd_same (.inr fun _ z => by cases z)
    exact ⟨e2, q (g2.unlock a vs) v (x2.unlock h) (w2.unlock (x2.F a hF) e2) (hR g2 s d v x2 w2 r)⟩
  | exc y fs s => exact PostR.later x0 q
  | bad => exact q
/-- what the slots of a loop keep -/
structure LeS (g g' : G) : Prop where
  le : Le g g'
  fz : ∀ a od u, g.F a → g.H a = some (.frz od u) → g'.H a = some (.frz od u)
theorem Ext.leS (x : Ext g g2) (w : Wf c g st) : LeS g g2 := ⟨x.le w, fun a od u f h => x.kept (fun z => w.ca a z f) h (.inr fun _ z => by cases z)⟩
theorem WalkR.leS {wd : WD} {J : It} (h : WalkR c Le g wd J) : WalkR c LeS g wd J := by
  obtain ⟨Gd, Y, h1, h2, h3⟩ := h
  exact ⟨Gd, Y, h1, fun g2 st2 x => h2 g2 st2 x.le, fun i g2 st2 x H' e => h3 i g2 st2 x H' e.le⟩
theorem WalkR.extS {wd : WD} {J : It} (w : Wf c g st) (h : WalkR c LeS g wd J) : WalkR c Ext g wd J := by
  obtain ⟨Gd, Y, h1, h2, h3⟩ := h
  exact ⟨Gd, Y, h1, fun g2 st2 x => h2 g2 st2 (x.leS w), fun i g2 st2 x H' e => h3 i g2 st2 x H' (e.leS w)⟩
end

section
variable {L : Law} {X : Cx} {W : WX} {k : Nat} {tg e : Expr} {f : ER} {pos p apos cpos tpos : Pos} {C x : Str}
/-! ### what a path leads to -/
/-- g with a frozen dict locked, or g -/
def Lk (g g1 : G) : Prop := g1 = g ∨ ∃ a od vs, g.F a ∧ g.H a = some (.dK vs) ∧ g1 = g.lock a od vs
def DPth (c : Cst) (X : Cx) (e : Expr) (f : DEnv → Store → Option D) : Prop := ∀ g env σ st d, Wf c g st → EnvR c g env σ → f env st = some d → ∃ v, Rep c g d v ∧ ∀ g1, Lk g g1 → ∀ Q : VK, Q v g1.H → bE X e σ g1.H Q
def pVar (i : Nat) : DEnv → Store → Option D := fun env _ => match env[i]? with
  | some (.val d) => some d
  | _ => none
def pFld (C x : Str) (f : DEnv → Store → Option D) : DEnv → Store → Option D := fun env st => match f env st with
  | some d => match insOf st d with
    | some (y, fs) => if y = C then fs.lookup x else none
    | none => none
  | none => none
theorem pth_var {i : Nat} (hN : X.N[i]? = some x) (hv : Vis X.env.scope x) (hn : NmOk x = true) : DPth L.c X (.Name x pos) (pVar i) := fun g env σ st d w ev h => by
  unfold pVar at h
  split at h
  · rename_i d' hd
    cases h
    obtain ⟨o, ho, v, rfl, r⟩ := ev.get hd
    exact ⟨v, r, fun g1 _ Q q => bE_of (pe_var hN hv (nm1 hn) (nm2 hn)) ⟨v, ho, q⟩⟩
  · cases h
theorem pth_fld {fp : DEnv → Store → Option D} (hX : XOk L X k) (hF : FldOk L C x) (h : DPth L.c X e fp) (hb : NoCall0 e = true) : DPth L.c X (.Attribute e x pos) (pFld C x fp) := fun g env σ st d w ev hd => by
  unfold pFld at hd
  cases hf : fp env st with
  | none => rw [hf] at hd; cases hd
  | some d0 =>
    rw [hf] at hd
    obtain ⟨v0, r0, run⟩ := h g env σ st d0 w ev hf
    cases hi : insOf st d0 with
    | none => simp [hi] at hd
    | some yf =>
      obtain ⟨y, fs⟩ := yf
      have hd : (if y = C then fs.lookup x else none) = some d := by simpa [hi] using hd
      by_cases hy : y = C
      · subst hy
        rw [if_pos rfl] at hd
        obtain ⟨a, dx, vs, rfl, e1, rf⟩ := ins_read w (.inl r0) hi
        obtain ⟨u, hu, ru⟩ := rf.get hd
        refine ⟨u, ru, fun g1 lk Q q => bE_of (pe_fld pe_b (base_of hb)) (run g1 lk _ ?_)⟩
        refine ⟨a, _, dx, vs, u, rfl, ?_, by rw [hX.K]; exact hF.1, by rw [hX.K]; exact hF.2, hu, q⟩
        rcases lk with rfl | ⟨b, od, ws, hFb, hb, rfl⟩
        · exact e1
        · exact (upd_ne fun z => by subst z; rw [hb] at e1; cases e1).trans e1
      · rw [if_neg hy] at hd; cases hd

/-! ### what is walked, perhaps under a lock -/
def DIX (c : Cst) (X : Cx) (W : WX) (tg iter : Expr) (f : IR) : Prop := ∀ g env σ st, Wf c g st → EnvR c g env σ →
  (IA c X W LeS tg iter f g env σ st) ∨ ∃ a vs, g.F a ∧ g.H a = some (.dK vs) ∧ ∀ od, IA c X W LeS tg iter f (g.lock a od vs) env σ st
theorem DI.ix {fi : IR} (h : DI L.c X W Le tg e fi) : DIX L.c X W tg e fi := fun g env σ st w ev => .inl (h.ext (fun _ _ _ _ _ r => r.leS) g env σ st w ev)
def iKey (fp : DEnv → Store → Option D) : IR := fun env st => match fp env st with
  | some (.dct ks) => .ok ⟨ks.map fun kv => keyD kv.1, none⟩ st
  | _ => .bad
def iVal (fp : DEnv → Store → Option D) : IR := fun env st => match fp env st with
  | some (.dct ks) => .ok ⟨ks.map fun kv => kv.2, none⟩ st
  | _ => .bad
def iItm (fp : DEnv → Store → Option D) : IR := fun env st => match fp env st with
  | some (.dct ks) => .ok ⟨ks.map fun kv => .tup [keyD kv.1, kv.2], none⟩ st
  | _ => .bad
/-- a dict by its path: once it is locked, its walk -/
theorem dix_of {fp : DEnv → Store → Option D} {mk : List (Key × D) → List D} {fi : IR} (hfi : ∀ env st, fi env st = match fp env st with | some (.dct ks) => .ok ⟨mk ks, none⟩ st | _ => .bad) (hp : DPth L.c X e fp) {iter : Expr}
    (hI : ∀ (g : G) (σ : St) (st : Store) (a : Addr) (od : Obj) (ks : List (Key × D)) (vs : List (Key × V)) (R : It → Hp → Prop), Wf L.c g st → g.F a → g.H a = some (.frz od (.dK vs)) → RepK L.c g ks vs → (∀ Q : VK, Q (.ref a) g.H → bE X e σ g.H Q) →
      (∀ J, WalkR L.c LeS g ⟨mk ks, none⟩ J → R J g.H) → bI X tg iter σ g.H R) : DIX L.c X W tg iter fi := fun g env σ st w ev => by
  cases hd : fp env st with
  | none => exact .inl fun R q => by rw [hfi, hd] at q; exact q.elim
  | some d =>
    cases d with
    | dct ks =>
      obtain ⟨v, ⟨a, vs, rfl, hF, hq, rk⟩, run⟩ := hp g env σ st _ w ev hd
      rcases hq with hq | ⟨od, hq⟩
      · refine .inr ⟨a, vs, hF, hq, fun od R q => ?_⟩
        rw [hfi, hd] at q
        exact hI (g.lock a od vs) σ st a od ks vs R (w.lock hF hq) hF upd_same (rk.le (le_lock hq)) (fun Q q => run _ (.inr ⟨a, od, vs, hF, hq, rfl⟩) Q q) fun J hJ => q _ J (Ext.refl _) (w.lock hF hq) hJ
      · refine .inl fun R q => ?_
        rw [hfi, hd] at q
        exact hI g σ st a od ks vs R w hF hq rk (fun Q q => run g (.inl rfl) Q q) fun J hJ => q g J (Ext.refl _) w hJ
    | _ => exact .inl fun R q => by rw [hfi, hd] at q; exact q.elim
theorem keyat {c : Cst} {g : G} {ks : List (Key × D)} {vs : List (Key × V)} (rk : RepK c g ks vs) {i : Nat} {kv : Key × V} (h : vs[i]? = some kv) : ∃ d, ks[i]? = some (kv.1, d) ∧ Rep c g d kv.2 := by
  induction ks generalizing vs i with
  | nil =>
    have e : vs = [] := rk
    rw [e] at h; simp at h
  | cons p ks ih =>
    obtain ⟨k, d⟩ := p
    obtain ⟨v, ws, rfl, r, rs⟩ := rk
    cases i with
    | zero =>
      have h : (k, v) = kv := by simpa using h
      subst h
      exact ⟨d, rfl, r⟩
    | succ i =>
      obtain ⟨d, h1, h2⟩ := ih rs (i := i) (by simpa using h)
      exact ⟨d, by simpa using h1, h2⟩
theorem rk_len {c : Cst} {g : G} {ks : List (Key × D)} {vs : List (Key × V)} (rk : RepK c g ks vs) : vs.length = ks.length := by
  have := congrArg List.length (reps_keys ks vs rk)
  simpa using this
theorem ix_keys {fp : DEnv → Store → Option D} (hp : DPth L.c X e fp) : DIX L.c X W tg e (iKey fp) := dix_of (mk := fun ks => ks.map fun kv => keyD kv.1) (fun _ _ => rfl) hp fun g σ st a od ks vs R w hF hq rk run k => by
  refine bI_of (pi_keys pe_b) (run _ ⟨a, od, rfl, .inl ⟨vs, hq, k _ ?_⟩⟩)
  refine ⟨_, _, by rw [List.length_map, ← rk_len rk]; exact walk_keys, fun g2 st2 l _ _ => l.fz a od _ hF hq, fun i g2 st2 x H' l w2 _ y hi => ?_⟩
  obtain ⟨e1, ky, v, hv, rfl⟩ := y
  obtain ⟨d, hd, _⟩ := keyat rk hv
  exact ⟨g2, keyD ky, e1, Ext.refl g2, w2, by simp [hd], keyD_rep ky⟩
theorem ix_vals {fp : DEnv → Store → Option D} (hp : DPth L.c X e fp) (hb : NoCall0 e = true) (hline : (apos.endLine == cpos.line) = true) : DIX L.c X W tg (.Call (.Attribute e "values" apos) [] [] cpos) (iVal fp) := dix_of (mk := fun ks => ks.map fun kv => kv.2) (fun _ _ => rfl) hp fun g σ st a od ks vs R w hF hq rk run k => by
  refine bI_of (pi_values pe_b (base_of hb) hline) (run _ ⟨a, od, vs, rfl, hq, k _ ?_⟩)
  refine ⟨_, _, by rw [List.length_map, ← rk_len rk]; exact walk_values, fun g2 st2 l _ _ => l.fz a od _ hF hq, fun i g2 st2 x H' l w2 _ y hi => ?_⟩
  obtain ⟨e1, ky, hv⟩ := y
  obtain ⟨d, hd, r⟩ := keyat rk hv
  exact ⟨g2, d, e1, Ext.refl g2, w2, by simp [hd], r.le l.le⟩
theorem ix_items {fp : DEnv → Store → Option D} {elts : List Expr} {kk : Nat} (hp : DPth L.c X e fp) (hb : NoCall0 e = true) (hline : (apos.endLine == cpos.line) = true) : DIX L.c X W (.Tuple elts kk tpos) (.Call (.Attribute e "items" apos) [] [] cpos) (iItm fp) := dix_of (mk := fun ks => ks.map fun kv => .tup [keyD kv.1, kv.2]) (fun _ _ => rfl) hp fun g σ st a od ks vs R w hF hq rk run k => by
  refine bI_of (pi_items pe_b (base_of hb) hline) (run _ ⟨a, od, vs, rfl, hq, k _ ?_⟩)
  refine ⟨_, _, by rw [List.length_map, ← rk_len rk]; exact walk_items, fun g2 st2 l _ _ => l.fz a od _ hF hq, fun i g2 st2 x H' l w2 _ y hi => ?_⟩
  obtain ⟨T, x1, y1, e1, hT, e2, h1, h2⟩ := y
  cases hv : vs[i]? with
  | none => simp [hv] at h1
  | some kv =>
    have h1 : kV kv.1 = x1 := by simpa [hv] using h1
    have h2 : kv.2 = y1 := by simpa [hv] using h2
    subst h1 h2
    obtain ⟨d, hd, r⟩ := keyat rk hv
    obtain ⟨g3, e3, x3, w3, r3⟩ := pair_new w2 e1 hT e2 (keyD_rep kv.1) (r.le l.le)
    exact ⟨g3, _, e3, x3, w3, by simp [hd], r3⟩
end
end DL
end
section
set_option Elab.async false
set_option linter.all false
set_option maxRecDepth 100000
set_option autoImplicit false
/-! DL: list and dict comprehensions -/
namespace DL
open PySem PySem.Spec L2
open PyProof.Rows hiding St

def noW : WX := fun _ _ _ _ => False
section
variable {L : Law} {X : Cx} {W : WX} {k : Nat} {tg iter elt kx : Expr} {ifs : List Expr} {scope : Scope} {own : List (Str × Nat)} {pos : Pos}
/-- the block of a comprehension -/
abbrev blkOf (X : Cx) (scope : Scope) (s : Shared) (H : Hp) (C : Addr) (cl : List (Str × Addr)) (fp : List Addr) : Cx := X.blk s H scope (compEnvC scope cl C X.env) fp
theorem XOk.blk (h : XOk L X k) (s : Shared) (H : Hp) (C : Addr) (cl : List (Str × Addr)) (fp : List Addr) : XOk L (blkOf X scope s H C cl fp) k := ⟨⟨h.P, h.w, h.K, h.mg, h.base, h.un, h.nd⟩, h.calm, h.room⟩
def bTs (X : Cx) (ifs : List Expr) : TT := fun σ H Q => ∀ pins s, Inv X pins σ H s →
  wpAny (model X.prog X.w) X.A (forIn ifs true fun c r => if r = true then do let ok ← isTrue c X.env (eval c X.env); pure (ForInStep.yield ok) else pure (ForInStep.yield r)) (TP X pins σ Q) X.xe s
def DTs (c : Cst) (X : Cx) (W : WX) (ifs : List Expr) (f : TR) : Prop :=
  ∀ g env σ st (Q : Bool → Hp → Prop), Wf c g st → EnvR c g env σ → PostR c W g σ (fun _ a b => a = b) (f env st) Q → bTs X ifs σ g.H Q
def tYesD : TR := fun _ st => .ok true st
theorem ts_nil : DTs L.c X W [] tYesD := fun g env σ st Q w ev q pins s I => pts_nil.run pins s σ g.H Q I (q g true (Ext.refl g) w rfl)
theorem ts_one {c : Expr} {f : TR} (h : DT L.c X W c f) : DTs L.c X W [c] f := fun g env σ st Q w ev q pins s I => (pts_one pt_b).run pins s σ g.H Q I (h g env σ st Q w ev q)
def tEb (X : Cx) (scope : Scope) (e : Expr) : TE := fun σ H Q => ∀ s H0 C cl fp, bE (blkOf X scope s H0 C cl fp) e σ H Q
def tGb (X : Cx) (scope : Scope) (e : Expr) : TG := fun v σ H Q => ∀ s H0 C cl fp, bG (blkOf X scope s H0 C cl fp) e v σ H Q
def tTb (X : Cx) (scope : Scope) (ifs : List Expr) : TT := fun σ H Q => ∀ s H0 C cl fp, bTs (blkOf X scope s H0 C cl fp) ifs σ H Q
theorem pe_eb {e : Expr} (s : Shared) (H0 : Hp) (C : Addr) (cl : List (Str × Addr)) (fp : List Addr) : PE (blkOf X scope s H0 C cl fp) e (tEb X scope e) := ⟨fun pins s' σ H Q I h => h s H0 C cl fp pins s' I⟩
theorem pg_eb {e : Expr} (s : Shared) (H0 : Hp) (C : Addr) (cl : List (Str × Addr)) (fp : List Addr) : PG (blkOf X scope s H0 C cl fp) e (tGb X scope e) := ⟨fun pins s' σ H v u Q I r h => h s H0 C cl fp pins s' u I r⟩
theorem pts_eb {es : List Expr} (s : Shared) (H0 : Hp) (C : Addr) (cl : List (Str × Addr)) (fp : List Addr) : PTs (blkOf X scope s H0 C cl fp) es (tTb X scope es) := ⟨fun pins s' σ H Q I h => h s H0 C cl fp pins s' I⟩

/-- the turns of a comprehension: what each gives, in order -/
def turns {α : Type} (ok : Store → Bool) (step : D → Store → Out (Option α)) : List D → Store → Out (List α)
  | [], s => if ok s = true then .ok [] s else .bad
  | d :: ds, s => if ok s = true then (step d s).bind fun o s1 => (turns ok step ds s1).bind fun r s2 => .ok (o.toList ++ r) s2 else .bad
def stepOf {α : Type} (vs : List Nat) (pat : Pat) (cond : TR) (elt : DEnv → Store → Out α) (env : DEnv) (d : D) (s : Store) : Out (Option α) := match bindP pat d s (wipeD env vs) with
  | some env' => noexc ((cond env' s).bind fun b s1 => if b = true then (elt env' s1).bind fun y s2 => .ok (some y) s2 else .ok none s1)
  | none => .bad
def fLc (vs : List Nat) (it : IR) (pat : Pat) (cond : TR) (elt : ER) : FR := fun env st => (it env st).bind fun wd s => if wd.items.length ≤ sizeLine then (turns wd.ok (stepOf vs pat cond elt env) wd.items s).bind fun r s2 => .ok (.lst r) s2 else .bad
theorem post_ok {c : Cst} {g : G} {σ : St} {W : WX} {α β : Type} {R : G → α → β → Prop} {o : Out α} {Q : β → Hp → Prop} {a : α} {s : Store} (h : PostR c W g σ R o Q) (e : o = .ok a s) : PostR c W g σ R (.ok a s) Q := e ▸ h
theorem noexc_ok {α : Type} {o : Out α} {a : α} {s : Store} (h : noexc o = .ok a s) : o = .ok a s := by
  cases o with
  | ok b t => exact h
  | _ => cases h
theorem out_bind_ok {α β : Type} {o : Out α} {K : α → Store → Out β} {b : β} {s : Store} (h : o.bind K = .ok b s) : ∃ a t, o = .ok a t ∧ K a t = .ok b s := by
  cases o with
  | ok a t => exact ⟨a, t, rfl, h⟩
  | _ => cases h
theorem post_notexc {c : Cst} {g : G} {σ' : St} {W' : WX} {α β : Type} {R : G → α → β → Prop} {o : Out α} {Q' : β → Hp → Prop} {a : α} {s : Store} (e : o = .ok a s) (q : ∀ g' v, Ext g g' → Wf c g' s → R g' a v → Q' v g'.H) : PostR c W' g σ' R o Q' := by
  rw [e]; exact q
/-- what holds at the turns of a comprehension: D the new thing -/
structure Turned {α : Type} (c : Cst) (g1 : G) (D : Addr) (g2 : G) (st2 : Store) : Prop where
  ext : Ext g1 g2
  wf : Wf c g2 st2
  nF : ¬ g2.F D
  na : D ∉ g2.as
theorem lc_run {tc : TR} {fe : ER} {pat : Pat} {it : IR} {g : G} {env : DEnv} {σ : St} {st : Store} {Q : VK} (hX : XOk L X k) (w : Wf L.c g st) (ev : EnvR L.c g env σ) (ia : IA L.c X W LeS tg iter it g env σ st)
    (hg : ∀ s H0 C cl fp, DG L.c (blkOf X scope s H0 C cl fp) tg pat) (ht : ∀ s H0 C cl fp, DTs L.c (blkOf X scope s H0 C cl fp) noW ifs tc) (he : ∀ s H0 C cl fp, DE L.c (blkOf X scope s H0 C cl fp) noW elt fe) (hix : ∀ i ∈ pat.ix, i ∈ own.map (·.2))
    (q : PostR L.c W g σ (NewR L.c g) (fLc (own.map (·.2)) it pat tc fe env st) Q) :
    tLc (bI X tg iter) (tGb X scope tg) (tTb X scope ifs) (tEb X scope elt) (own.map (·.2)) σ g.H Q := by
  refine ia _ (PostR.bind q fun wd s g1 J x1 w1 wk q1 => ?_)
  by_cases hsz0 : ¬ wd.items.length ≤ sizeLine
  · rw [if_neg hsz0] at q1; exact q1.elim
  have hsz : wd.items.length ≤ sizeLine := Decidable.not_not.mp hsz0
  rw [if_pos hsz] at q1
  intro D hD
  obtain ⟨Gd, Y, hw, hGd, hY⟩ := wk.extS w1
  generalize hst : stepOf (own.map (·.2)) pat tc fe env = step at q1
  have nF1 : ¬ g1.F D := w1.notF hD
  have na1 : D ∉ g1.as := w1.notas hD
  have hDg : g.H D = none := x1.nn D hD
  -- the invariant
  let Pv : Nat → Hp → Prop := fun i H => ∃ g2 st2 done acc, H = g2.H ∧ Ext g1 g2 ∧ Wf L.c g2 st2 ∧ ¬ g2.F D ∧ D ∉ g2.as ∧ g2.H D = some (.lst acc) ∧ Reps L.c g2 done acc ∧ done.length ≤ i ∧
    PostR L.c W g σ (NewR L.c g) ((turns wd.ok step (wd.items.drop i) st2).bind fun r s2 => .ok (.lst (done ++ r)) s2) Q
  refine lc_it hw Pv ?_ (fun i H hi hp => ?_) (fun i x H H' hi hp hy => ?_) (fun H hp => ?_)
  · refine ⟨g1.upd D (.lst []), s, [], [], rfl, Ext.upd hD, w1.upd hD, nF1, na1, upd_same, rfl, Nat.le_refl _, ?_⟩
    simpa using q1
  · obtain ⟨g2, st2, done, acc, rfl, x2, w2, nF, na, hA, rs, hl, q2⟩ := hp
    refine hGd g2 st2 x2 w2 ?_
    cases hk : wd.ok st2 with
    | true => rfl
    | false =>
      exfalso
      cases hdr : wd.items.drop i with
      | nil => rw [hdr] at q2; simp [turns, hk] at q2; exact q2
      | cons d ds => rw [hdr] at q2; simp [turns, hk] at q2; exact q2
  · obtain ⟨g2, st2, done, acc, rfl, x2, w2, nF, na, hA, rs, hl, q2⟩ := hp
    have hk : wd.ok st2 = true := by
      cases hk : wd.ok st2 with
      | true => rfl
      | false =>
        exfalso
        cases hdr : wd.items.drop i with
        | nil => rw [hdr] at q2; simp [turns, hk] at q2; exact q2
        | cons d ds => rw [hdr] at q2; simp [turns, hk] at q2; exact q2
    obtain ⟨g3, d, rfl, x3, w3, hd, rd⟩ := hY i g2 st2 x H' x2 w2 hk hy hi
    have hdr : wd.items.drop i = d :: wd.items.drop (i + 1) := by
      have := List.getElem?_eq_some_iff.mp hd
      obtain ⟨h1, h2⟩ := this
      rw [List.drop_eq_getElem_cons h1, h2]
    rw [hdr] at q2
    have q2 : PostR L.c W g σ (NewR L.c g) (((step d st2).bind fun o s1 => (turns wd.ok step (wd.items.drop (i + 1)) s1).bind fun r s2 => .ok (o.toList ++ r) s2).bind fun r s2 => .ok (.lst (done ++ r)) s2) Q := by
      have e : turns wd.ok step (d :: wd.items.drop (i + 1)) st2 = ((step d st2).bind fun o s1 => (turns wd.ok step (wd.items.drop (i + 1)) s1).bind fun r s2 => .ok (o.toList ++ r) s2) := by
        show (if wd.ok st2 = true then _ else _) = _
        rw [if_pos hk]
      rw [e] at q2
      exact q2
    subst hst
    cases hb : bindP pat d st2 (wipeD env (own.map (·.2))) with
    | none =>
      exfalso
      simp only [stepOf, hb] at q2
      exact q2
    | some env' =>
      have es : stepOf (own.map (·.2)) pat tc fe env d st2 = noexc ((tc env' st2).bind fun b s1 => if b = true then (fe env' s1).bind fun y s2 => .ok (some y) s2 else .ok none s1) := by simp only [stepOf, hb]
      rw [es] at q2
      have xg3 : Ext g g3 := (x1.trans x2).trans x3
      have ev3 : EnvR L.c g3 (wipeD env (own.map (·.2))) (wipe σ (own.map (·.2))) := (ev.ext xg3 w).wipe _
      intro s0 H0 C cl fp
      refine hg s0 H0 C cl fp g3 _ _ st2 d x env' _ w3 ev3 rd hb fun σ2 ev2 off => ⟨wipe_off off hix, ?_⟩
      -- the test
      cases ht2 : tc env' st2 with
      | exc _ _ _ => rw [ht2] at q2; exact q2.elim
      | bad => rw [ht2] at q2; exact q2.elim
      | ok b s3 =>
        rw [ht2, Out.bind_ok] at q2
        intro s1 H1 C1 cl1 fp1
        refine ht s1 H1 C1 cl1 fp1 g3 env' σ2 st2 _ w3 ev2 (post_notexc ht2 fun g4 b' x4 w4 eb => ?_)
        have eb : b = b' := eb
        subst eb
        have xg4 : Ext g1 g4 := (x2.trans x3).trans x4
        have hA4 : g4.H D = some (.lst acc) := (x3.trans x4).kept na hA (.inl nF)
        have nF4 : ¬ g4.F D := fun z => by
          rcases (x3.trans x4).back D z with z | z
          · exact nF z
          · rw [hA] at z; cases z
        have na4 : D ∉ g4.as := (x3.trans x4).notas na (by rw [hA]; exact fun z => by cases z)
        cases b with
        | false =>
          simp only [Bool.false_eq_true, if_false] at q2 ⊢
          refine ⟨g4, s3, done, acc, rfl, xg4, w4, nF4, na4, hA4, (x3.trans x4).reps w2 rs, Nat.le_succ_of_le hl, ?_⟩
          have q2 : PostR L.c W g σ (NewR L.c g) (((turns wd.ok (stepOf (own.map (·.2)) pat tc fe env) (wd.items.drop (i + 1)) s3).bind fun r s2 => .ok ([] ++ r) s2).bind fun r s2 => .ok (.lst (done ++ r)) s2) Q := q2
          cases hT : turns wd.ok (stepOf (own.map (·.2)) pat tc fe env) (wd.items.drop (i + 1)) s3 with
          | ok r s5 => rw [hT] at q2; exact q2
          | exc _ _ _ => rw [hT] at q2; exact q2
          | bad => rw [hT] at q2; exact q2
        | true =>
          simp only [if_true] at q2 ⊢
          cases hf : fe env' s3 with
          | exc _ _ _ => rw [hf] at q2; exact q2.elim
          | bad => rw [hf] at q2; exact q2.elim
          | ok y s4 =>
            rw [hf] at q2
            intro s5 H5 C5 cl5 fp5
            refine he s5 H5 C5 cl5 fp5 g4 env' σ2 s3 _ w4 (ev2.ext x4 w3) (post_notexc hf fun g5 v x5 w5 rv => ?_)
            have hA5 : g5.H D = some (.lst acc) := x5.kept na4 hA4 (.inl nF4)
            have nF5 : ¬ g5.F D := fun z => by
              rcases x5.back D z with z | z
              · exact nF4 z
              · rw [hA4] at z; cases z
            have na5 : D ∉ g5.as := x5.notas na4 (by rw [hA4]; exact fun z => by cases z)
            have rs5 : Reps L.c g5 done acc := ((x3.trans x4).trans x5).reps w2 rs
            refine ⟨acc, hA5, ?_, g5.upd D (.lst (acc ++ [v])), s4, done ++ [y], acc ++ [v], rfl, (xg4.trans x5).mut hD, w5.mut nF5 na5, nF5, na5, upd_same, ?_, ?_, ?_⟩
            · rw [rs.length]; omega
            · exact (rs5.append (Reps.one rv)).le (le_mut (c := L.c) (st := s4) nF5)
            · rw [List.length_append]; simp; omega
            · have q2 : PostR L.c W g σ (NewR L.c g) (((turns wd.ok (stepOf (own.map (·.2)) pat tc fe env) (wd.items.drop (i + 1)) s4).bind fun r s2 => .ok ([y] ++ r) s2).bind fun r s2 => .ok (.lst (done ++ r)) s2) Q := q2
              cases hT : turns wd.ok (stepOf (own.map (·.2)) pat tc fe env) (wd.items.drop (i + 1)) s4 with
              | ok r s6 =>
                rw [hT] at q2
                have q2 : PostR L.c W g σ (NewR L.c g) (.ok (.lst (done ++ ([y] ++ r))) s6) Q := q2
                rw [← List.append_assoc] at q2
                exact q2
              | exc _ _ _ => rw [hT] at q2; exact q2
              | bad => rw [hT] at q2; exact q2
  · obtain ⟨g2, st2, done, acc, rfl, x2, w2, nF, na, hA, rs, hl, q2⟩ := hp
    have e : wd.items.drop wd.items.length = [] := by simp
    rw [e] at q2
    by_cases hk : wd.ok st2 = true
    · have q2 : PostR L.c W g σ (NewR L.c g) (.ok (.lst done) st2) Q := by
        simpa [turns, hk] using q2
      exact q2 g2 (.ref D) (x1.trans x2) w2 ⟨D, rfl, hDg, nF, na, acc, hA, rs⟩
    · exfalso
      simp [turns, hk] at q2
      exact q2
theorem newR_unlock {c : Cst} {g g2 : G} {a : Addr} {od : Obj} {vs : List (Key × V)} (hF : g.F a) (h : g.H a = some (.dK vs)) {s : Store} {d : Cell} {v : V} (w : Wf c g s) (x : Ext (g.lock a od vs) g2) (r : NewR c (g.lock a od vs) g2 d v) : NewR c g (g2.unlock a vs) d v := by
  obtain ⟨D, e, hD, nF, na, r⟩ := r
  have ne : D ≠ a := fun z => by
    subst z
    rw [show (g.lock D od vs).H D = some _ from upd_same] at hD; cases hD
  have e2 : g2.H a = some (.frz od (.dK vs)) := x.kept (fun z => w.ca a z hF) upd_same (.inr fun _ z => by cases z)
  exact ⟨D, e, (upd_ne (H := g.H) (o := .frz od (.dK vs)) ne).symm.trans hD, nF, na, r.le (le_unlock e2) (upd_ne ne)⟩
theorem d_lc {tc : TR} {fe : ER} {pat : Pat} {it : IR} (hX : XOk L X k) (ix : DIX L.c X W tg iter it) (ok : BlkOk X.N X.env.scope scope own)
    (hg : ∀ s H0 C cl fp, DG L.c (blkOf X scope s H0 C cl fp) tg pat) (ht : ∀ s H0 C cl fp, DTs L.c (blkOf X scope s H0 C cl fp) noW ifs tc) (he : ∀ s H0 C cl fp, DE L.c (blkOf X scope s H0 C cl fp) noW elt fe) (hix : ∀ i ∈ pat.ix, i ∈ own.map (·.2))
    (hs : ∀ x, foldedSetIterable iter X.env x = pure x) : DF L.c X W (.ListComp elt [⟨tg, iter, ifs, 0⟩] scope pos) (fLc (own.map (·.2)) it pat tc fe) := fun g env σ st Q w ev q => by
  have base : PE X (.ListComp elt [⟨tg, iter, ifs, 0⟩] scope pos) (tLc (bI X tg iter) (tGb X scope tg) (tTb X scope ifs) (tEb X scope elt) (own.map (·.2))) := pe_lc hX.calm hX.nd pi_b ok (fun s H C cl fp => pg_eb s H C cl fp) (fun s H C cl fp => pts_eb s H C cl fp) (fun s H C cl fp => pe_eb s H C cl fp) hs
  rcases ix g env σ st w ev with ia | ⟨a, vs, hF, hq, ia⟩
  · exact bE_of base (lc_run hX w ev ia hg ht he hix q)
  · refine bE_of (pe_lock base) ⟨a, .dK vs, hq, trivial, fun od => ?_⟩
    have q' : PostR L.c W (g.lock a od vs) σ (NewR L.c (g.lock a od vs)) (fLc (own.map (·.2)) it pat tc fe env st) (fun v H' => H' a = some (.frz od (.dK vs)) ∧ Q v (L2.upd H' a (.dK vs))) :=
      PostR.unlock w hF hq (fun g2 s d v x w2 r => newR_unlock (s := st) hF hq w x r) q
    exact lc_run hX (w.lock hF hq) (ev.lock hF hq) (ia od) hg ht he hix q'
end
end DL
end
section
set_option Elab.async false
set_option linter.all false
set_option maxRecDepth 100000
set_option autoImplicit false
/-! DL: dict comprehensions -/
namespace DL
open PySem PySem.Spec L2
open PyProof.Rows hiding St
section
variable {L : Law} {X : Cx} {W : WX} {k : Nat} {tg iter kx vx : Expr} {ifs : List Expr} {scope : Scope} {own : List (Str × Nat)} {pos : Pos}
def fKv (fk fv : ER) : DEnv → Store → Out (Key × D) := fun env s => (fk env s).bind fun x s1 => (fv env s1).bind fun y s2 => match keyOf x with
  | some k => .ok (k, y) s2
  | none => .bad
def fDc (vs : List Nat) (it : IR) (pat : Pat) (cond : TR) (fk fv : ER) : FR := fun env st => (it env st).bind fun wd s => if wd.items.length ≤ sizeLine then (turns wd.ok (stepOf vs pat cond (fKv fk fv) env) wd.items s).bind fun r s2 => .ok (.dct (mergeD [] r)) s2 else .bad
theorem putD_len (ks : List (Key × D)) (k : Key) (d : D) : (putD ks k d).length ≤ ks.length + 1 := by
  unfold putD
  split <;> simp
theorem mergeD_len : ∀ (ms ks : List (Key × D)), (mergeD ks ms).length ≤ ks.length + ms.length
  | [], ks => Nat.le_refl _
  | p :: ms, ks => by
    have h1 := mergeD_len ms (putD ks p.1 p.2)
    have h2 := putD_len ks p.1 p.2
    show (mergeD (putD ks p.1 p.2) ms).length ≤ _
    rw [List.length_cons]; omega
theorem mergeD_snoc (ks ms : List (Key × D)) (p : Key × D) : mergeD ks (ms ++ [p]) = putD (mergeD ks ms) p.1 p.2 := by
  unfold mergeD
  rw [List.foldl_append]; rfl
theorem RepK.le' {c : Cst} {g g' : G} {ks : List (Key × D)} {vs : List (Key × V)} (h : RepK c g ks vs) (l : Le g g') : RepK c g' ks vs := RepK.le l ks vs h
/-- a dict comprehension over it -/
theorem dc_it {J : It} {n : Nat} {G : Hp → Prop} {Y : Nat → Hp → V → Hp → Prop} (w : Walk J n G Y) {g : TG} {tt : TT} {tk tv : TE} {vs : List Nat} {σ : St} {H1 : Hp} {D : Addr} {Qd : Hp → Prop} (Pv : Nat → Hp → Prop) (h0 : Pv 0 (L2.upd H1 D (.dK []))) (hG : ∀ i H, i ≤ n → Pv i H → G H)
    (hs : ∀ i x H H', i < n → Pv i H → Y i H x H' → g x (wipe σ vs) H' fun σ2 H2 => wipe σ2 vs = wipe σ vs ∧ tt σ2 H2 fun b H3 =>
      if b = true then tk σ2 H3 fun y H4 => tv σ2 H4 fun z H5 => ∃ kvs k, y = kV k ∧ H5 D = some (.dK kvs) ∧ kvs.length < sizeLine ∧ Pv (i + 1) (L2.upd H5 D (.dK (putK kvs k z))) else Pv (i + 1) H3) (hd : ∀ H, Pv n H → Qd H) :
    ∃ W : Nat → Nat → Hp → Prop, (∃ m, W 0 m (L2.upd H1 D (.dK []))) ∧ ∀ i m H, W i m H →
      (J.stop i H ∧ Qd H) ∨ (J.go i H ∧ ∃ Nx : Hp → Prop, (∀ H', Nx H' → ∃ m', m' < m ∧ W (i + 1) m' H') ∧ ∀ x H', J.yld i H x H' → g x (wipe σ vs) H' fun σ2 H2 => wipe σ2 vs = wipe σ vs ∧ tt σ2 H2 fun b H3 =>
        if b = true then tk σ2 H3 fun y H4 => tv σ2 H4 fun z H5 => ∃ kvs k, y = kV k ∧ H5 D = some (.dK kvs) ∧ kvs.length < sizeLine ∧ Nx (L2.upd H5 D (.dK (putK kvs k z))) else Nx H3) := by
  refine ⟨fun i m H => m = n - i ∧ i ≤ n ∧ Pv i H, ⟨n, by simp, Nat.zero_le _, h0⟩, ?_⟩
  rintro i m H ⟨rfl, hi, p⟩
  have q := hG i H hi p
  by_cases hlt : i < n
  · refine .inr ⟨w.goes i H hlt q, Pv (i + 1), fun H' p' => ⟨n - (i + 1), by omega, rfl, hlt, p'⟩, fun x H' y => hs i x H H' hlt p (w.yields i H x H' hlt q y)⟩
  · have e : i = n := by omega
    subst e
    exact .inl ⟨w.stops H q, hd H p⟩
theorem dc_run {tc : TR} {fk fv : ER} {pat : Pat} {it : IR} {g : G} {env : DEnv} {σ : St} {st : Store} {Q : VK} (hX : XOk L X k) (w : Wf L.c g st) (ev : EnvR L.c g env σ) (ia : IA L.c X W LeS tg iter it g env σ st)
    (hg : ∀ s H0 C cl fp, DG L.c (blkOf X scope s H0 C cl fp) tg pat) (ht : ∀ s H0 C cl fp, DTs L.c (blkOf X scope s H0 C cl fp) noW ifs tc) (hkx : ∀ s H0 C cl fp, DE L.c (blkOf X scope s H0 C cl fp) noW kx fk) (he : ∀ s H0 C cl fp, DE L.c (blkOf X scope s H0 C cl fp) noW vx fv) (hix : ∀ i ∈ pat.ix, i ∈ own.map (·.2))
    (q : PostR L.c W g σ (NewR L.c g) (fDc (own.map (·.2)) it pat tc fk fv env st) Q) :
    tDc (bI X tg iter) (tGb X scope tg) (tTb X scope ifs) (tEb X scope kx) (tEb X scope vx) (own.map (·.2)) σ g.H Q := by
  refine ia _ (PostR.bind q fun wd s g1 J x1 w1 wk q1 => ?_)
  by_cases hsz0 : ¬ wd.items.length ≤ sizeLine
  · rw [if_neg hsz0] at q1; exact q1.elim
  have hsz : wd.items.length ≤ sizeLine := Decidable.not_not.mp hsz0
  rw [if_pos hsz] at q1
  intro D hD
  obtain ⟨Gd, Y, hw, hGd, hY⟩ := wk.extS w1
  generalize hst : stepOf (own.map (·.2)) pat tc (fKv fk fv) env = step at q1
  have nF1 : ¬ g1.F D := w1.notF hD
  have na1 : D ∉ g1.as := w1.notas hD
  have hDg : g.H D = none := x1.nn D hD
  -- the invariant
  let Pv : Nat → Hp → Prop := fun i H => ∃ g2 st2 done acc, H = g2.H ∧ Ext g1 g2 ∧ Wf L.c g2 st2 ∧ ¬ g2.F D ∧ D ∉ g2.as ∧ g2.H D = some (.dK acc) ∧ RepK L.c g2 (mergeD [] done) acc ∧ done.length ≤ i ∧
    PostR L.c W g σ (NewR L.c g) ((turns wd.ok step (wd.items.drop i) st2).bind fun r s2 => .ok (.dct (mergeD [] (done ++ r))) s2) Q
  refine dc_it hw Pv ?_ (fun i H hi hp => ?_) (fun i x H H' hi hp hy => ?_) (fun H hp => ?_)
  · refine ⟨g1.upd D (.dK []), s, [], [], rfl, Ext.upd hD, w1.upd hD, nF1, na1, upd_same, rfl, Nat.le_refl _, ?_⟩
    simpa using q1
  · obtain ⟨g2, st2, done, acc, rfl, x2, w2, nF, na, hA, rs, hl, q2⟩ := hp
    refine hGd g2 st2 x2 w2 ?_
    cases hk : wd.ok st2 with
    | true => rfl
    | false =>
      exfalso
      cases hdr : wd.items.drop i with
      | nil => rw [hdr] at q2; simp [turns, hk] at q2; exact q2
      | cons d ds => rw [hdr] at q2; simp [turns, hk] at q2; exact q2
  · obtain ⟨g2, st2, done, acc, rfl, x2, w2, nF, na, hA, rs, hl, q2⟩ := hp
    have hk : wd.ok st2 = true := by
      cases hk : wd.ok st2 with
      | true => rfl
      | false =>
        exfalso
        cases hdr : wd.items.drop i with
        | nil => rw [hdr] at q2; simp [turns, hk] at q2; exact q2
        | cons d ds => rw [hdr] at q2; simp [turns, hk] at q2; exact q2
    obtain ⟨g3, d, rfl, x3, w3, hd, rd⟩ := hY i g2 st2 x H' x2 w2 hk hy hi
    have hdr : wd.items.drop i = d :: wd.items.drop (i + 1) := by
      have := List.getElem?_eq_some_iff.mp hd
      obtain ⟨h1, h2⟩ := this
      rw [List.drop_eq_getElem_cons h1, h2]
    rw [hdr] at q2
    have q2 : PostR L.c W g σ (NewR L.c g) (((step d st2).bind fun o s1 => (turns wd.ok step (wd.items.drop (i + 1)) s1).bind fun r s2 => .ok (o.toList ++ r) s2).bind fun r s2 => .ok (.dct (mergeD [] (done ++ r))) s2) Q := by
      have e : turns wd.ok step (d :: wd.items.drop (i + 1)) st2 = ((step d st2).bind fun o s1 => (turns wd.ok step (wd.items.drop (i + 1)) s1).bind fun r s2 => .ok (o.toList ++ r) s2) := by
        show (if wd.ok st2 = true then _ else _) = _
        rw [if_pos hk]
      rw [e] at q2
      exact q2
    subst hst
    cases hb : bindP pat d st2 (wipeD env (own.map (·.2))) with
    | none =>
      exfalso
      simp only [stepOf, hb] at q2
      exact q2
    | some env' =>
      have es : stepOf (own.map (·.2)) pat tc (fKv fk fv) env d st2 = noexc ((tc env' st2).bind fun b s1 => if b = true then (fKv fk fv env' s1).bind fun y s2 => .ok (some y) s2 else .ok none s1) := by simp only [stepOf, hb]
      rw [es] at q2
      have xg3 : Ext g g3 := (x1.trans x2).trans x3
      have ev3 : EnvR L.c g3 (wipeD env (own.map (·.2))) (wipe σ (own.map (·.2))) := (ev.ext xg3 w).wipe _
      intro s0 H0 C cl fp
      refine hg s0 H0 C cl fp g3 _ _ st2 d x env' _ w3 ev3 rd hb fun σ2 ev2 off => ⟨wipe_off off hix, ?_⟩
      -- the test
      cases ht2 : tc env' st2 with
      | exc _ _ _ => rw [ht2] at q2; exact q2.elim
      | bad => rw [ht2] at q2; exact q2.elim
      | ok b s3 =>
        rw [ht2, Out.bind_ok] at q2
        intro s1 H1 C1 cl1 fp1
        refine ht s1 H1 C1 cl1 fp1 g3 env' σ2 st2 _ w3 ev2 (post_notexc ht2 fun g4 b' x4 w4 eb => ?_)
        have eb : b = b' := eb
        subst eb
        have xg4 : Ext g1 g4 := (x2.trans x3).trans x4
        have hA4 : g4.H D = some (.dK acc) := (x3.trans x4).kept na hA (.inl nF)
        have nF4 : ¬ g4.F D := fun z => by
          rcases (x3.trans x4).back D z with z | z
          · exact nF z
          · rw [hA] at z; cases z
        have na4 : D ∉ g4.as := (x3.trans x4).notas na (by rw [hA]; exact fun z => by cases z)
        cases b with
        | false =>
          simp only [Bool.false_eq_true, if_false] at q2 ⊢
          refine ⟨g4, s3, done, acc, rfl, xg4, w4, nF4, na4, hA4, rs.le' ((x3.trans x4).le w2), Nat.le_succ_of_le hl, ?_⟩
          have q2 : PostR L.c W g σ (NewR L.c g) (((turns wd.ok (stepOf (own.map (·.2)) pat tc (fKv fk fv) env) (wd.items.drop (i + 1)) s3).bind fun r s2 => .ok ([] ++ r) s2).bind fun r s2 => .ok (.dct (mergeD [] (done ++ r))) s2) Q := q2
          cases hT : turns wd.ok (stepOf (own.map (·.2)) pat tc (fKv fk fv) env) (wd.items.drop (i + 1)) s3 with
          | ok r s5 => rw [hT] at q2; exact q2
          | exc _ _ _ => rw [hT] at q2; exact q2
          | bad => rw [hT] at q2; exact q2
        | true =>
          simp only [if_true] at q2 ⊢
          cases hfk : fk env' s3 with
          | exc _ _ _ => simp only [fKv, hfk] at q2; exact q2.elim
          | bad => simp only [fKv, hfk] at q2; exact q2.elim
          | ok xk s4 =>
            intro s5 H5 C5 cl5 fp5
            refine hkx s5 H5 C5 cl5 fp5 g4 env' σ2 s3 _ w4 (ev2.ext x4 w3) (post_notexc hfk fun g5 vk x5 w5 rk => ?_)
            cases hfv : fv env' s4 with
            | exc _ _ _ => simp only [fKv, hfk, hfv, Out.bind_ok] at q2; exact q2.elim
            | bad => simp only [fKv, hfk, hfv, Out.bind_ok] at q2; exact q2.elim
            | ok y s6 =>
              intro s7 H7 C7 cl7 fp7
              refine he s7 H7 C7 cl7 fp7 g5 env' σ2 s4 _ w5 ((ev2.ext x4 w3).ext x5 w4) (post_notexc hfv fun g6 v x6 w6 rv => ?_)
              cases hK : keyOf xk with
              | none => simp only [fKv, hfk, hfv, hK, Out.bind_ok] at q2; exact q2.elim
              | some ky =>
                have e := keyOf_v rk hK
                subst e
                have e : fKv fk fv env' s3 = .ok (ky, y) s6 := by simp only [fKv, hfk, hfv, hK, Out.bind_ok]
                rw [e] at q2
                have x46 := x5.trans x6
                have hA6 : g6.H D = some (.dK acc) := x46.kept na4 hA4 (.inl nF4)
                have nF6 : ¬ g6.F D := fun z => by
                  rcases x46.back D z with z | z
                  · exact nF4 z
                  · rw [hA4] at z; cases z
                have na6 : D ∉ g6.as := x46.notas na4 (by rw [hA4]; exact fun z => by cases z)
                have rs6 : RepK L.c g6 (mergeD [] done) acc := rs.le' (((x3.trans x4).trans x46).le w2)
                refine ⟨acc, ky, rfl, hA6, ?_, g6.upd D (.dK (putK acc ky v)), s6, done ++ [(ky, y)], putK acc ky v, rfl, (xg4.trans x46).mut hD, w6.mut nF6 na6, nF6, na6, upd_same, ?_, ?_, ?_⟩
                · rw [rk_len rs6]
                  have := mergeD_len done []
                  simp at this
                  omega
                · rw [mergeD_snoc]
                  exact (rs6.put rv).le' (le_mut (c := L.c) (st := s6) nF6)
                · rw [List.length_append]; simp; omega
                · have q2 : PostR L.c W g σ (NewR L.c g) (((turns wd.ok (stepOf (own.map (·.2)) pat tc (fKv fk fv) env) (wd.items.drop (i + 1)) s6).bind fun r s2 => .ok ([(ky, y)] ++ r) s2).bind fun r s2 => .ok (.dct (mergeD [] (done ++ r))) s2) Q := q2
                  cases hT : turns wd.ok (stepOf (own.map (·.2)) pat tc (fKv fk fv) env) (wd.items.drop (i + 1)) s6 with
                  | ok r s8 =>
                    rw [hT] at q2
                    have q2 : PostR L.c W g σ (NewR L.c g) (.ok (.dct (mergeD [] (done ++ ([(ky, y)] ++ r)))) s8) Q := q2
                    rw [← List.append_assoc] at q2
                    exact q2
                  | exc _ _ _ => rw [hT] at q2; exact q2
                  | bad => rw [hT] at q2; exact q2
  · obtain ⟨g2, st2, done, acc, rfl, x2, w2, nF, na, hA, rs, hl, q2⟩ := hp
    have e : wd.items.drop wd.items.length = [] := by simp
    rw [e] at q2
    by_cases hk : wd.ok st2 = true
    · have q2 : PostR L.c W g σ (NewR L.c g) (.ok (.dct (mergeD [] done)) st2) Q := by
        simpa [turns, hk] using q2
      exact q2 g2 (.ref D) (x1.trans x2) w2 ⟨D, rfl, hDg, nF, na, acc, hA, rs⟩
    · exfalso
      simp [turns, hk] at q2
      exact q2
theorem d_dc {tc : TR} {fk fv : ER} {pat : Pat} {it : IR} (hX : XOk L X k) (ix : DIX L.c X W tg iter it) (ok : BlkOk X.N X.env.scope scope own)
    (hg : ∀ s H0 C cl fp, DG L.c (blkOf X scope s H0 C cl fp) tg pat) (ht : ∀ s H0 C cl fp, DTs L.c (blkOf X scope s H0 C cl fp) noW ifs tc) (hkx : ∀ s H0 C cl fp, DE L.c (blkOf X scope s H0 C cl fp) noW kx fk) (he : ∀ s H0 C cl fp, DE L.c (blkOf X scope s H0 C cl fp) noW vx fv) (hix : ∀ i ∈ pat.ix, i ∈ own.map (·.2))
    (hs : ∀ x, foldedSetIterable iter X.env x = pure x) : DF L.c X W (.DictComp kx vx [⟨tg, iter, ifs, 0⟩] scope pos) (fDc (own.map (·.2)) it pat tc fk fv) := fun g env σ st Q w ev q => by
  have base : PE X (.DictComp kx vx [⟨tg, iter, ifs, 0⟩] scope pos) (tDc (bI X tg iter) (tGb X scope tg) (tTb X scope ifs) (tEb X scope kx) (tEb X scope vx) (own.map (·.2))) := pe_dc hX.calm hX.nd pi_b ok (fun s H C cl fp => pg_eb s H C cl fp) (fun s H C cl fp => pts_eb s H C cl fp) (fun s H C cl fp => pe_eb s H C cl fp) (fun s H C cl fp => pe_eb s H C cl fp) hs
  rcases ix g env σ st w ev with ia | ⟨a, vs, hF, hq, ia⟩
  · exact bE_of base (dc_run hX w ev ia hg ht hkx he hix q)
  · refine bE_of (pe_lock base) ⟨a, .dK vs, hq, trivial, fun od => ?_⟩
    have q' : PostR L.c W (g.lock a od vs) σ (NewR L.c (g.lock a od vs)) (fDc (own.map (·.2)) it pat tc fk fv env st) (fun v H' => H' a = some (.frz od (.dK vs)) ∧ Q v (L2.upd H' a (.dK vs))) :=
      PostR.unlock w hF hq (fun g2 s d v x w2 r => newR_unlock (s := st) hF hq w x r) q
    exact dc_run hX (w.lock hF hq) (ev.lock hF hq) (ia od) hg ht hkx he hix q'
end
end DL
end
section
set_option Elab.async false
set_option linter.all false
set_option maxRecDepth 100000
set_option maxHeartbeats 2000000
set_option autoImplicit false
/-! DX2: a set comprehension of ints and texts, and how many it holds -/
namespace DX
open PySem PySem.Spec L2
open PyProof.Rows hiding St
open PpSet (newSet_ok compLoopS_any codeAny_compStart_set eval_SetComp)
section
variable {X : Cx}
theorem setK_fresh {P : Program} {w : World} {h : Heap} : (h.push { cls := .type "set", dict := none, data := .set #[] 0 (.fresh 0 0 (!w.params.followText "set-order")) }).SetOf (mixKind P w) h.objs.size (fun _ => false) 0 :=
  ⟨_, #[], 0, _, Heap.get?_push_size _ rfl, ⟨rfl, rfl, rfl⟩, rfl, (fun e he => by simp at he), (fun k => by simp), (by decide), (by rfl), rfl⟩
theorem addK_ok {pins : List (Addr × Obj)} {σ : St} {H : Hp} {s : Shared} {E : Value → Shared → Prop} {D : Addr} {S : Key → Bool} {n : Nat} {y : Key} {u : Value} {Q : Value → Shared → Prop} (ry : RelV (kV y) u) (I : Inv X pins σ H s) (hD : H D = some (SetK X.prog X.w D S n)) (room : n + 1 < scanBound)
    (h : ∀ s', Inv X pins σ (upd H D (SetK X.prog X.w D (fun j => S j || decide (j = y)) (if S y = true then n else n + 1))) s' → Q .none s') : wpAny (model X.prog X.w) X.A (call (.builtin "set.add") [.ref D, u]) Q E s := by
  refine call_set_add (kV_is ry) (key_scan ry) (setK_get I hD) room fun h' sb new => ?_
  have he : ∃ u, h'.get? D = some u := by
    have ⟨o, _, _, _, ho, _⟩ := new
    exact ⟨o, ho⟩
  exact h _ (I.write (e := D) (t' := s.toks + 1) (by rw [hD]; trivial) (.inl rfl) (fun b u hb hu => (sb.2 b hb).trans hu) he (setK_new new))
/-- {elt for target in iter if ..}, elt a truth value: D the new set -/
def tScK (P : Program) (w : World) (wi : TI) (g : TG) (tt : TT) (te : TE) (vs : List Nat) : TE := fun σ H Q => wi σ H fun J H1 => ∀ D, H1 D = none → ∃ W : Nat → Nat → Hp → Prop, (∃ m, W 0 m (upd H1 D (SetK P w D (fun _ => false) 0))) ∧ ∀ i m H, W i m H →
  (J.stop i H ∧ Q (.ref D) H) ∨ (J.go i H ∧ ∃ Nx : Hp → Prop, (∀ H', Nx H' → ∃ m', m' < m ∧ W (i + 1) m' H') ∧ ∀ x H', J.yld i H x H' → g x (wipe σ vs) H' fun σ2 H2 => wipe σ2 vs = wipe σ vs ∧ tt σ2 H2 fun b H3 =>
    if b = true then te σ2 H3 fun y H4 => ∃ (c : Key) (S : Key → Bool) (n : Nat), y = kV c ∧ H4 D = some (SetK P w D S n) ∧ n + 1 < scanBound ∧ Nx (upd H4 D (SetK P w D (fun j => S j || decide (j = c)) (if S c = true then n else n + 1))) else Nx H3)
theorem scK_core {pins : List (Addr × Obj)} {s : Shared} {σ : St} {H : Hp} {Q : VK} {elt tg iter : Expr} {ifs : List Expr} {scope : Scope} {own : List (Str × Nat)} {pos pos' : Pos} {wi : TI} {g : TG} {tt : TT} {te : TE} {use : Option (Value → Sem Unit)} {Qf : Value → Shared → Prop}
    (hc : X.calm = true) (hN : X.N.Nodup) (I : Inv X pins σ H s) (hi : PI X tg iter wi) (ok : BlkOk X.N X.env.scope scope own)
    (hg : ∀ (s : Shared) (H : Hp) (C : Addr) (cl : List (Str × Addr)) (fp : List Addr), PG (X.blk s H scope (compEnvC scope cl C X.env) fp) tg g) (ht : ∀ (s : Shared) (H : Hp) (C : Addr) (cl : List (Str × Addr)) (fp : List Addr), PTs (X.blk s H scope (compEnvC scope cl C X.env) fp) ifs tt)
    (he : ∀ (s : Shared) (H : Hp) (C : Addr) (cl : List (Str × Addr)) (fp : List Addr), PE (X.blk s H scope (compEnvC scope cl C X.env) fp) elt te) (hs : ∀ x, foldedSetIterable iter X.env x = pure x)
    (h : tScK X.prog X.w wi g tt te (own.map (·.2)) σ H Q)
    (hRR : ∀ D C s' m H', Inv X pins σ H' s' → Q (.ref D) H' → s'.heap.Ns C m → FpOk X pins H' C → compPost (model X.prog X.w) X.A X.xe use Qf (.ref D) C (.ok .next) s') :
    wpAny (model X.prog X.w) X.A (comprehension (.SetComp elt [⟨tg, iter, ifs, 0⟩] scope pos) scope X.env pos' (newSet (.type "set")) false (eval iter X.env) use) Qf X.xe s := by
  have hfree : ∀ y ∈ scope.names, y.2 = .free → ∃ c, X.env.cells.lookup y.1 = some c := fun y hy e => by
    rcases ok.free y hy e with k | k
    · exact I.ok.has _ (.inl k)
    · exact I.ok.has _ (.inr k)
  refine wpAny_comprehension_free (use := use) rfl hs (closure_ok hfree) ok.kind (fun y hy e => by rw [ok.uniq y hy, e])
    (thn (hi.run pins s σ H _ I h) fun xv s1 hx => thn hx fun itv s2 h2 => ?_)
  obtain ⟨it, fp, tn, J, H2, e, I2, T, st2, f2, q⟩ := h2
  subst e
  refine newSet_ok (newEnv_comp ?_)
  generalize hD : s2.heap.objs.size = D
  have hDn : H2 D = none := I2.hok.fresh (Nat.le_of_eq hD)
  obtain ⟨W, ⟨m0, w0⟩, turn⟩ := q D hDn
  -- the new list
  generalize hs3 : ({ s2 with heap := s2.heap.push { cls := .type "set", dict := none, data := .set #[] 0 (.fresh 0 0 (!X.w.params.followText "set-order")) } } : Shared) = s3
  have I3 : Inv X pins σ (upd H2 D (SetK X.prog X.w D (fun _ => false) 0)) s3 := by
    rw [← hs3]
    refine I2.laid (t' := s2.toks) (fun b o e => Heap.get?_push_of_some _ e) (Nat.le_of_eq hD) ?_
    rw [← hD]
    exact setK_new setK_fresh
  have h3 : s3.heap = s2.heap.push { cls := .type "set", dict := none, data := .set #[] 0 (.fresh 0 0 (!X.w.params.followText "set-order")) } := by rw [← hs3]
  have sz : ∀ b ∈ fp, b < s2.heap.objs.size := fun b hb => by
    obtain ⟨o, e, _⟩ := T.obj _ _ st2 b hb
    exact Heap.lt_size e
  have f3 : ∀ b ∈ fp, FpOk X pins (upd H2 D (SetK X.prog X.w D (fun _ => false) 0)) b ∧ b < s3.heap.objs.size := fun b hb => by
    have hlt := sz b hb
    refine ⟨⟨?_, (f2 b hb).2⟩, by rw [h3, Heap.size_push]; exact Nat.lt_succ_of_lt hlt⟩
    rw [upd_ne (by rw [← hD]; exact Nat.ne_of_lt hlt)]
    exact (f2 b hb).1
  have st3 : tn 0 s3.heap := T.keep _ _ _ st2 fun b _ o e => by rw [h3]; exact Heap.get?_push_of_some _ e
  have I4 := block_start I3 ok hN f3
  have pg := hg s3 (upd H2 D (SetK X.prog X.w D (fun _ => false) 0)) s3.heap.objs.size (cellsFrom (s3.heap.objs.size + 1) scope.names (cloFrom X.env.cells scope.names [])) fp
  have pt := ht s3 (upd H2 D (SetK X.prog X.w D (fun _ => false) 0)) s3.heap.objs.size (cellsFrom (s3.heap.objs.size + 1) scope.names (cloFrom X.env.cells scope.names [])) fp
  have pe := he s3 (upd H2 D (SetK X.prog X.w D (fun _ => false) 0)) s3.heap.objs.size (cellsFrom (s3.heap.objs.size + 1) scope.names (cloFrom X.env.cells scope.names [])) fp
  show codeAny _ _ (.compStart (.SetComp elt [⟨tg, iter, ifs, 0⟩] scope pos) 0 (.ref it) (.ref D) (compEnvC scope (cellsFrom (s3.heap.objs.size + 1) scope.names (cloFrom X.env.cells scope.names [])) s3.heap.objs.size X.env)) (compPost (model X.prog X.w) X.A X.xe use Qf (.ref D) s3.heap.objs.size) { s3 with heap := pushCells (s3.heap.push { cls := .type "dict", data := .dict #[] }) scope.names }
  have nfp : ∀ b ∈ fp, (upd H2 D (SetK X.prog X.w D (fun _ => false) 0)) b = none := fun b hb => (f3 b hb).1.1
  generalize hce : compEnvC scope (cellsFrom (s3.heap.objs.size + 1) scope.names (cloFrom X.env.cells scope.names [])) s3.heap.objs.size X.env = ce at I4 pg pt pe ⊢
  have cL : ce.locals = s3.heap.objs.size := by subst hce; rfl
  generalize hH3 : upd H2 D (SetK X.prog X.w D (fun _ => false) 0) = H3 at I3 I4 pg pt pe w0 nfp f3
  generalize hs4 : ({ s3 with heap := pushCells (s3.heap.push { cls := .type "dict", data := .dict #[] }) scope.names } : Shared) = s4 at I4 ⊢
  have st4 : tn 0 s4.heap := T.keep _ _ _ st3 fun b _ o e => by rw [← hs4]; exact pushCells_keeps _ _ _ _ (Heap.get?_push_of_some _ e)
  have stat : ∀ {σ' : St} {H' : Hp} {s' : Shared}, Inv (X.blk s3 H3 scope ce fp) [] σ' H' s' → (∀ b ∈ fp, H' b = none) → ∀ b ∈ fp, FpOk (X.blk s3 H3 scope ce fp) [] H' b := fun {σ' H' s'} I' hn b hb =>
    ⟨hn b hb, (I'.ok.exf b hb).1, I'.ok.exfs b hb, .inl hb, fun x c e => (I'.ok.exf b hb).2 x c e, fun p hp => absurd (show p ∈ ([] : List (Addr × Obj)) ++ [] from hp) (by simp)⟩
  have loop : codeAny (model X.prog X.w) X.A (.compLoop (.SetComp elt [⟨tg, iter, ifs, 0⟩] scope pos) 0 (.ref it) (.ref D) ce) (compPost (model X.prog X.w) X.A X.xe use Qf (.ref D) s3.heap.objs.size) s4 := by
    refine compLoopS_any (fun n s' => ∃ i H', Inv (X.blk s3 H3 scope ce fp) [] (wipe σ (own.map (·.2))) H' s' ∧ tn i s'.heap ∧ (∀ b ∈ fp, H' b = none) ∧ W i n H') ?_ m0 ⟨0, H3, I4, st4, nfp, w0⟩
    rintro n s5 ⟨i, H5, I5, st5, n5, w5⟩
    rcases turn i n H5 w5 with ⟨stop, qq⟩ | ⟨go, Nx, hNx, step⟩
    · have td := T.done (X.blk s3 H3 scope ce fp) rfl rfl rfl hc i [] s5 _ H5 (fun _ _ => False) I5 (stat I5 n5) st5 stop
      refine thnF td fun r s6 ⟨hr, I6⟩ => ?_
      subst hr
      -- back in the def's context
      have I7 : Inv X pins σ H5 s6 := I3.call' (ch := fp) I6.os I6.base I6.hok I6.bare fun b hb => ⟨(f3 b hb).1.2.2.2.1, (f3 b hb).1.2.1, (f3 b hb).1.2.2.2.2.1, (f3 b hb).1.2.2.2.2.2⟩
      have nC : H5 s3.heap.objs.size = none := by
        have z : H5 ce.locals = none := I6.free
        rw [cL] at z
        exact z
      obtain ⟨m, hn, _⟩ := I6.loc
      have hn : s6.heap.Ns ce.locals m := hn
      rw [cL] at hn
      exact hRR D s3.heap.objs.size s6 m H5 I7 qq hn (I3.fpOk (Nat.le_refl _) nC)
    · have ti := T.item (X.blk s3 H3 scope ce fp) rfl rfl rfl hc i [] s5 _ H5 (fun _ _ => False) I5 (stat I5 n5) st5 go
      refine thnF ti fun r s6 ⟨u, hr, h6⟩ => ?_
      subst hr
      refine thnF h6 fun _ s7 ⟨x, H7, I7, r7, y7, st7, n7⟩ => ?_
      have I7' := I7.pinned (stat I7 n7) (T.obj _ _ st7)
      refine thnF (pg.run _ s7 _ H7 x u _ I7' r7 (step x H7 y7)) fun _ s8 ⟨σ8, H8, I8, hw8, q8⟩ => ?_
      refine thnF (pt.run _ s8 σ8 H8 _ I8 q8) fun b s9 ⟨H9, I9, q9⟩ => ?_
      -- the turn's end
      have fin : ∀ {s' : Shared} {H' : Hp}, Inv (X.blk s3 H3 scope ce fp) ([] ++ pinsAt fp s7.heap) σ8 H' s' → Nx H' → ∃ m, m < n ∧ ∃ i H', Inv (X.blk s3 H3 scope ce fp) [] (wipe σ (own.map (·.2))) H' s' ∧ tn i s'.heap ∧ (∀ b ∈ fp, H' b = none) ∧ W i m H' := fun {s' H'} I' nx => by
        obtain ⟨m', hm, w'⟩ := hNx H' nx
        have pin' : ∀ b ∈ fp, ∀ o, s7.heap.get? b = some o → s'.heap.get? b = some o ∧ H' b = none := fun b hb o e =>
          let z := I'.pin (b, o) (List.mem_append_right _ (List.mem_append_right _ (mem_pinsAt hb e)))
          ⟨z.1, z.2.1⟩
        have hl : (wipe σ (own.map (·.2))).length = σ8.length := by rw [← hw8, wipe_length]
        refine ⟨m', hm, i + 1, H', (I'.unpinned (pins := [])).weak hl (fun j v e => ?_), T.keep _ _ _ st7 fun b hb o e => (pin' b hb o e).1, fun b hb => ?_, w'⟩
        · rw [← hw8] at e
          exact (wipe_some e).1
        · obtain ⟨o, e, _⟩ := T.obj _ _ st7 b hb
          exact (pin' b hb o e).2
      cases b with
      | false =>
        simp only [Bool.false_eq_true, if_false] at q9 ⊢
        exact fin I9 q9
      | true =>
        simp only [if_true] at q9 ⊢
        refine thnF (pe.run _ s9 σ8 H9 _ I9 q9) fun z s10 ⟨yv, H10, I10, r10, cb, S0, n0, ey, hD10, hz10, nx⟩ => ?_
        subst ey
        exact addK_ok (X := X.blk s3 H3 scope ce fp) r10 I10 hD10 hz10 fun s11 I11 => fin I11 nx
  exact codeAny_compStart_set loop (T.self X.A 0 _ _ _ st4 loop)
/-- as a value -/
theorem pe_scK {elt tg iter : Expr} {ifs : List Expr} {scope : Scope} {own : List (Str × Nat)} {pos : Pos} {wi : TI} {g : TG} {tt : TT} {te : TE} (hc : X.calm = true) (hN : X.N.Nodup) (hi : PI X tg iter wi) (ok : BlkOk X.N X.env.scope scope own)
    (hg : ∀ (s : Shared) (H : Hp) (C : Addr) (cl : List (Str × Addr)) (fp : List Addr), PG (X.blk s H scope (compEnvC scope cl C X.env) fp) tg g) (ht : ∀ (s : Shared) (H : Hp) (C : Addr) (cl : List (Str × Addr)) (fp : List Addr), PTs (X.blk s H scope (compEnvC scope cl C X.env) fp) ifs tt)
    (he : ∀ (s : Shared) (H : Hp) (C : Addr) (cl : List (Str × Addr)) (fp : List Addr), PE (X.blk s H scope (compEnvC scope cl C X.env) fp) elt te) (hs : ∀ x, foldedSetIterable iter X.env x = pure x := by intro _; rfl) :
    PE X (.SetComp elt [⟨tg, iter, ifs, 0⟩] scope pos) (tScK X.prog X.w wi g tt te (own.map (·.2))) := by
  refine ⟨fun pins s σ H Q I h => ?_⟩
  rw [eval_SetComp]
  refine scK_core hc hN I hi ok hg ht he hs h fun D C s' m H' I' q hn f => ⟨m, hn, fun h'' sb => ?_⟩
  obtain ⟨f0, f1, f2, f3, f4, f5⟩ := f
  exact ⟨.ref D, H', I'.turned (t' := s'.toks) (fun b o hb e => (sb.2 b hb).trans e) f0 f1 f3 f4 f5, rfl, q⟩
end

/-- len of such a set -/
def rLenSK (P : Program) (w : World) : List V → Hp → VK → Prop := fun xs H Q => ∃ (a : Addr) (S : Key → Bool) (n : Nat), xs = [V.ref a] ∧ H a = some (SetK P w a S n) ∧ n < 4611686018427387904 ∧ Q (.int (n : Nat)) H
theorem call_lenSK {X : Cx} : CallR X (.builtin "len") (rLenSK X.prog X.w) := by
  intro pins s σ H xs us Q I r h
  obtain ⟨a, S, n, rfl, ha, hn, q⟩ := h
  obtain ⟨u, rfl, ru⟩ := vals1 r
  obtain rfl : u = Value.ref a := ru
  obtain ⟨o, es, ep, t, ho, hex, hd, _, _, _, hf, hs⟩ := setK_get I ha
  exact call_len_set ho hex hd hf (by rw [hs]; omega) ⟨.int (n : Nat), H, I.tok _, ⟨_, by rw [hs]⟩, q⟩
end DX
end
section
set_option Elab.async false
set_option linter.all false
set_option maxRecDepth 100000
set_option maxHeartbeats 2000000
set_option autoImplicit false
/-! DX3: sorted of tuples that begin with different texts -/
namespace DX
open PySem PySem.Spec L2 DL
open PyProof.Rows hiding St
/-- what the tuple at p begins with -/
def rSortTS (K : PySem.W.Frag) : List V → Hp → VK → Prop := fun xs H Q => ∃ (a : Addr) (ps : List Addr) (ky : Addr → Str), xs = [V.ref a] ∧ SqL K H a (ps.map V.ref) ∧ (∀ p ∈ ps, ∃ ys, SqT K H p (V.str (ky p) :: ys)) ∧ (∀ p ∈ ps, ∀ q ∈ ps, p ≠ q → ky p ≠ ky q) ∧
  ∀ (qs : List Addr) (l : Addr), qs.Perm ps → qs.Pairwise (fun p q => ltS (ky q) (ky p) = false) → H l = none → Q (.ref l) (upd H l (.lst (qs.map V.ref)))
def kv (ky : Addr → Str) : Value → Str
  | .ref p => ky p
  | _ => Str.empty
theorem ltS_asym {a b : Str} (h : ltS a b = true) : ltS b a = false := by
  unfold ltS at *
  exact decide_eq_false (List.lt_asymm (of_decide_eq_true h))
theorem swo_strs (ky : Addr → Str) : SrtO.Swo fun v u => ltS (kv ky v) (kv ky u) := by
  refine ⟨fun x y h => ltS_asym h, fun x y z h1 h2 => ?_⟩
  unfold ltS at *
  have e1 := List.not_lt.mp (of_decide_eq_false h1)
  have e2 := List.not_lt.mp (of_decide_eq_false h2)
  exact decide_eq_false (List.not_lt.mpr (List.le_trans e1 e2))
def TupK (h : Heap) (ky : Addr → Str) (p : Addr) : Prop := ∃ (o : Obj) (t : Tok) (us : List Value) (n : Nat), h.get? p = some o ∧ o.cls = .type "tuple" ∧ o.data = .seq (.str (ky p) t :: us).toArray n
theorem same_lex {prog : Program} {w : World} {A : Around} {s : Shared} {Q : Bool → Shared → Prop} (h : Q false s) : ∀ (l : List Value) (i : Nat), PySem.W.KatLex prog w A true false Q (l.zip l) i s
  | [], i => PySem.W.kat_nil h
  | v :: l, i => PySem.W.kat_cons (SeqAt.EqAt.same v prog w _ _ (PySem.W.kat_yes (same_lex h l (i + 1))))
section
variable {prog : Program} {w : World} {A : Around} {s : Shared}
theorem tup_cmp {ps : List Addr} {ky : Addr → Str} (hp : ∀ p ∈ ps, TupK s.heap ky p) (hd : ∀ p ∈ ps, ∀ q ∈ ps, p ≠ q → ky p ≠ ky q) : SrtO.Cmp prog w A s (tuples' true) (fun p => p.1 ∈ ps.map Value.ref) (SrtO.lt2 fun v u => ltS (kv ky v) (kv ky u)) := by
  intro x y hx hy
  obtain ⟨p, mp, ep⟩ := List.mem_map.mp hx
  obtain ⟨q, mq, eq'⟩ := List.mem_map.mp hy
  show wpAny (model prog w) A (keyLt' (tuples' true) x.1 y.1) (fun r s' => s' = s ∧ r = ltS (kv ky x.1) (kv ky y.1)) (fun _ _ => False) s
  rw [← ep, ← eq']
  show wpAny (model prog w) A (keyLt' (tuples' true) (.ref p) (.ref q)) (fun r s' => s' = s ∧ r = ltS (ky p) (ky q)) (fun _ _ => False) s
  obtain ⟨o, t, us, n, ho, hc, hd1⟩ := hp p mp
  by_cases e : p = q
  · subst e
    refine PySem.W.kat_lt ho hd1 ho hd1 ?_
    have e0 : decide ((Value.str (ky p) t :: us).toArray.size < (Value.str (ky p) t :: us).toArray.size) = false := by simp
    rw [e0]
    have e1 : ltS (ky p) (ky p) = false := by unfold ltS; exact decide_eq_false (List.lt_irrefl _)
    exact same_lex ⟨rfl, e1.symm⟩ _ 0
  · obtain ⟨o', t', us', n', ho', hc', hd'⟩ := hp q mq
    refine PySem.W.kat_lt ho hd1 ho' hd' ?_
    show PySem.W.KatLex prog w A true _ _ ((Value.str (ky p) t, Value.str (ky q) t') :: us.zip us') 0 s
    refine PySem.W.kat_cons (SeqAt.EqAt.str_str (ky p) t (ky q) t' prog w _ _ ?_)
    refine PySem.W.kat_go (fun e1 => ?_) (fun e1 => ?_)
    · exact absurd (by simpa using e1) (hd p mp q mq e)
    · exact PySem.W.kat_no (PyProof.Rows.oneLt_any_str ⟨rfl, rfl⟩)
theorem kat_tups {h : Heap} {ky : Addr → Str} : ∀ {ps : List Addr}, (∀ p ∈ ps, TupK h ky p) → ∃ fs : List Value, PySem.W.KatTups h (ps.map Value.ref) fs ∧ fs.length = ps.length ∧ ∀ f ∈ fs, ∃ x t, f = Value.str x t
  | [], _ => ⟨[], PySem.W.KatTups.nil, rfl, fun _ hm => by simp at hm⟩
  | p :: ps, hp => by
    obtain ⟨fs, h1, h2, h3⟩ := kat_tups (ps := ps) fun q hq => hp q (List.mem_cons_of_mem _ hq)
    obtain ⟨o, t, us, n, ho, hc, hd⟩ := hp p List.mem_cons_self
    refine ⟨.str (ky p) t :: fs, PySem.W.KatTups.cons ho hc hd (by simp) h1, by simp [h2], fun f hf => ?_⟩
    rcases List.mem_cons.mp hf with e | hf
    · exact ⟨_, _, e⟩
    · exact h3 f hf
theorem tup_sortable {a : Addr} {ps : List Addr} {ky : Addr → Str} (h0 : 0 < ps.length) (hp : ∀ p ∈ ps, TupK s.heap ky p) (hd : ∀ p ∈ ps, ∀ q ∈ ps, p ≠ q → ky p ≠ ky q) (ha : ∀ o, s.heap.get? a = some o → o.cls ≠ .type "tuple") : SrtO.SortableO prog w A s a (ps.map Value.ref) fun v u => ltS (kv ky v) (kv ky u) := by
  intro h' keep
  have hp' : ∀ p ∈ ps, TupK h' ky p := fun p hm => by
    obtain ⟨o, t, us, n, ho, hc, hd⟩ := hp p hm
    exact ⟨o, t, us, n, keep p o (fun z => by subst z; exact ha o ho hc) ho, hc, hd⟩
  obtain ⟨fs, h1, h2, h3⟩ := kat_tups hp'
  refine ⟨tuples' true, fun Q E hq => ?_, tup_cmp hp' hd⟩
  refine PySem.W.kat_kind (T := .type "str") h1 (by omega) (fun f hm => ?_) (by rfl) ?_
  · obtain ⟨x, t, rfl⟩ := h3 f hm
    exact PySem.W.Looks.now
  · have e : (Value.type "str" != Value.type "tuple") = true := by first | decide +kernel | rfl | decide
    rw [e]
    exact hq
end
theorem refs_of : ∀ {ps : List Addr} {its : List Value}, Vals (ps.map V.ref) its → its = ps.map Value.ref
  | [], _, .nil => rfl
  | p :: ps, _, .cons r t => by
    have e := refs_of t
    have e1 : _ = Value.ref p := r
    rw [e, e1]; rfl
theorem vals_refs : ∀ ps : List Addr, Vals (ps.map V.ref) (ps.map Value.ref)
  | [] => .nil
  | p :: ps => .cons rfl (vals_refs ps)
theorem call_sortTS {X : Cx} : CallR X (.builtin "sorted") (rSortTS X.K) := by
  intro pins s σ H xs us Q I r h
  obtain ⟨a, ps, ky, rfl, hs, hT, hd, q⟩ := h
  obtain ⟨its, rv, hl, hz⟩ := I.list hs
  rw [Vals.ref1 r]
  have e := refs_of rv
  subst e
  have hp : ∀ p ∈ ps, TupK s.heap ky p := fun p hm => by
    obtain ⟨ys, hy⟩ := hT p hm
    obtain ⟨its, r, ⟨o, ho, hc, n, hd⟩, _⟩ := I.tuple hy
    cases r with
    | cons r1 rt =>
      obtain ⟨t, rfl⟩ := r1
      exact ⟨o, t, _, n, ho, hc, hd⟩
  have hz' : (ps.map Value.ref).length ≤ sizeLine := by simpa using hz
  refine SrtO.sorted_ord (swo_strs ky) hl.isList hz' (fun h2 h₁ a' ha kk => tup_sortable (s := { s with heap := h₁ }) (by simp at h2; omega) (fun p hm => ?_) hd fun o ho => ?_) fun out h1 h2 => ?_
  · obtain ⟨o, t, us, n, ho, hc, hd⟩ := hp p hm
    exact ⟨o, t, us, n, (kk p o ho).2, hc, hd⟩
  · have e' : some o = some (seqObj "list" (ps.map Value.ref).toArray 0) := ho.symm.trans ha
    cases e'
    intro c
    exact absurd (Value.type.inj c) (by decide)
  · obtain ⟨qs, hq, hqp⟩ : ∃ qs : List Addr, out = qs.map Value.ref ∧ qs.Perm ps := by
      let bk : Value → Addr := fun v => match v with | .ref p => p | _ => 0
      have e1 : out.map bk |>.Perm ps := by
        have := h2.perm.map bk
        rw [List.map_map] at this
        have e : (bk ∘ Value.ref) = id := by funext x; rfl
        rw [e, List.map_id] at this
        exact this
      refine ⟨out.map bk, ?_, e1⟩
      rw [List.map_map]
      have : ∀ v ∈ out, (Value.ref ∘ bk) v = v := fun v hv => by
        obtain ⟨p, _, e⟩ := List.mem_map.mp (h2.perm.mem_iff.mp hv)
        rw [← e]; rfl
      exact (List.map_congr_left this).trans (List.map_id _) |>.symm
    subst hq
    obtain ⟨ep, he'⟩ := PyProof.Rows.sortedAll_at s.heap (ps.map Value.ref) (qs.map Value.ref).toArray
    have hlen : (qs.map V.ref).length ≤ sizeLine := by
      rw [List.length_map, hqp.length_eq]
      simpa using hz
    refine ⟨.ref _, upd H (s.heap.objs.size + 1) (.lst (qs.map V.ref)), I.laid (t' := s.toks) (fun _ _ => PyProof.Rows.sortedAll_old) (Nat.le_succ _) ⟨hlen, _, ep, vals_refs qs, he'⟩, rfl, q qs _ hqp ?_ (I.hok.fresh (Nat.le_succ _))⟩
    exact (List.pairwise_map.mp h1).imp fun {x y} h => h
end DX
end
section
set_option Elab.async false
set_option linter.all false
set_option maxRecDepth 100000
set_option autoImplicit false
/-! DL: statements -/
namespace DL
open PySem PySem.Spec L2
open PyProof.Rows hiding St

inductive SO where
  | nx (env : DEnv) (s : Store) | rt (d : D) (s : Store) | bk (env : DEnv) (s : Store) | ct (env : DEnv) (s : Store) | exc (x : Str) (fs : List (Str × D)) (env : DEnv) (s : Store) | bad
abbrev SR := DEnv → Store → SO
def liftE {α : Type} (env : DEnv) (o : Out α) (k : α → Store → SO) : SO := match o with
  | .ok a s => k a s
  | .exc x fs s => .exc x fs env s
  | .bad => .bad
@[simp] theorem liftE_ok {α : Type} (env : DEnv) (a : α) (s : Store) (k : α → Store → SO) : liftE env (.ok a s) k = k a s := rfl
@[simp] theorem liftE_exc {α : Type} (env : DEnv) (x : Str) (fs : List (Str × D)) (s : Store) (k : α → Store → SO) : liftE env (.exc x fs s : Out α) k = .exc x fs env s := rfl
@[simp] theorem liftE_bad {α : Type} (env : DEnv) (k : α → Store → SO) : liftE env (.bad : Out α) k = .bad := rfl

def isIns : Cell → Bool
  | .ins _ _ => true
  | _ => false
/-- the state within a def: g0 is the state at its entry -/
structure Sta (c : Cst) (g0 g : G) (env : DEnv) (σ : St) (st : Store) : Prop where
  ext : Ext g0 g
  wf : Wf c g st
  ev : EnvR c g env σ
  new : ∀ (i : Nat) (cl : Cell) (a : Addr), env[i]? = some (Slot.own cl) → σ[i]? = some (some (V.ref a)) → g0.H a = none ∧ (isIns cl = true → ∀ b, g0.me = some b → a = b)
section
variable {c : Cst} {g0 g g1 g2 : G} {env : DEnv} {σ : St} {st s : Store} {W : WX}
theorem LeS.refl (g : G) : LeS g g := ⟨le_refl' g, fun _ _ _ _ h => h⟩
theorem Le.trans (a : Le g g1) (b : Le g1 g2) : Le g g2 := by
  refine ⟨fun x h => b.F x (a.F x h), fun x f u nf h => b.H x (a.F x f) u nf (a.H x f u nf h), fun x f o hd nf h => b.X x (a.F x f) o hd nf (a.X x f o hd nf h), ?_⟩
  obtain ⟨m, e⟩ := a.as
  obtain ⟨n, e2⟩ := b.as
  exact ⟨m ++ n, by rw [e2, e, List.append_assoc]⟩
theorem LeS.trans (a : LeS g g1) (b : LeS g1 g2) : LeS g g2 := ⟨a.le.trans b.le, fun x od u f h => b.fz x od u (a.le.F x f) (a.fz x od u f h)⟩
theorem Sta.later (h : Sta c g0 g env σ st) (x : Ext g g1) (w : Wf c g1 s) : Sta c g0 g1 env σ s := ⟨h.ext.trans x, w, h.ev.ext x h.wf, h.new⟩
/-- behind a statement -/
def PostS (c : Cst) (W : WX) (g0 g : G) (o : SO) (D : Ends) : Prop := match o with
  | .nx env st => ∀ g' σ', LeS g g' → Sta c g0 g' env σ' st → D.nx σ' g'.H
  | .rt d st => ∀ g' v, LeS g g' → Ext g0 g' → Wf c g' st → Rep c g' d v → D.rt v g'.H
  | .bk env st => ∀ g' σ', LeS g g' → Sta c g0 g' env σ' st → D.bk σ' g'.H
  | .ct env st => ∀ g' σ', LeS g g' → Sta c g0 g' env σ' st → D.ct σ' g'.H
  | .exc x fs env st => ∀ g' dd vs σ', LeS g g' → Sta c g0 g' env σ' st → g'.F dd → g'.H dd = some (.xd vs) → RepF c g' fs vs → W (.ref (c.ad x)) (some dd) σ' g'.H
  | .bad => False
theorem PostS.later {o : SO} {D : Ends} (h : PostS c W g0 g o D) (x : LeS g g1) : PostS c W g0 g1 o D := by
  cases o with
  | nx env st => exact fun g' σ' l => h g' σ' (x.trans l)
  | rt d st => exact fun g' v l => h g' v (x.trans l)
  | bk env st => exact fun g' σ' l => h g' σ' (x.trans l)
  | ct env st => exact fun g' σ' l => h g' σ' (x.trans l)
  | exc y fs env st => exact fun g' dd vs σ' l => h g' dd vs σ' (x.trans l)
  | bad => exact h
theorem PostS.bind {α β : Type} {R : G → α → β → Prop} {o : Out α} {k : α → Store → SO} {D : Ends} {S : β → Hp → Prop} (t : Sta c g0 g env σ st) (h : PostS c W g0 g (liftE env o k) D)
    (hk : ∀ d s g1 v, o = .ok d s → Ext g g1 → Sta c g0 g1 env σ s → R g1 d v → PostS c W g0 g1 (k d s) D → S v g1.H) : PostR c W g σ R o S := by
  cases o with
  | ok d s => exact fun g1 v x1 w1 r => hk d s g1 v rfl x1 (t.later x1 w1) r (h.later (x1.leS t.wf))
  | exc y fs s => exact fun g1 dd vs x1 w1 f q r => h g1 dd vs σ (x1.leS t.wf) (t.later x1 w1) f q r
  | bad => exact h
theorem PostS.nx {env' : DEnv} {σ' : St} {D : Ends} (h : PostS c W g0 g (.nx env' s) D) (t : Sta c g0 g env' σ' s) : D.nx σ' g.H := h g σ' (LeS.refl g) t
/-- a datum is stored in a slot -/
theorem Sta.set (t : Sta c g0 g env σ st) {i : Nat} {d : D} {v : V} (r : Rep c g d v) : Sta c g0 g (env.set i (.val d)) (σ.set i (some v)) st := by
  refine ⟨t.ext, t.wf, t.ev.set r, fun j cl a e1 e2 => ?_⟩
  by_cases hj : i = j
  · subst hj
    have hi : i < env.length := by simpa using (List.getElem?_eq_some_iff.mp e1).1
    rw [List.getElem?_set_self hi] at e1
    cases e1
  · rw [List.getElem?_set_ne hj] at e1 e2
    exact t.new j cl a e1 e2
/-- a thing of one's own is stored in a slot -/
theorem Sta.setOwn (t : Sta c g0 g env σ st) {i : Nat} {cl : Cell} {a : Addr} (h0 : g0.H a = none) (hni : isIns cl = false) (nF : ¬ g.F a) (na : a ∉ g.as) (r : CRep c g cl a) (no : ∀ (j : Nat) (cj : Cell), j ≠ i → env[j]? = some (Slot.own cj) → σ[j]? ≠ some (some (V.ref a))) :
    Sta c g0 g (env.set i (.own cl)) (σ.set i (some (.ref a))) st := by
  have ev := t.ev
  refine ⟨t.ext, t.wf, ⟨by simp [ev.len], fun j s o e1 e2 => ?_, fun j k cj ck b e1 e2 e3 e4 => ?_⟩, fun j cj b e1 e2 => ?_⟩
  · by_cases hj : i = j
    · subst hj
      have hi : i < env.length := by simpa using (List.getElem?_eq_some_iff.mp e1).1
      rw [List.getElem?_set_self hi] at e1
      rw [List.getElem?_set_self (by rw [ev.len]; exact hi)] at e2
      cases e1; cases e2
      exact ⟨a, rfl, nF, na, r⟩
    · rw [List.getElem?_set_ne hj] at e1 e2
      exact ev.at_ j s o e1 e2
  · by_cases hj : i = j
    · by_cases hk : i = k
      · rw [← hj, ← hk]
      · subst hj
        have hi : i < env.length := by simpa using (List.getElem?_eq_some_iff.mp e1).1
        rw [List.getElem?_set_self (by rw [ev.len]; exact hi)] at e3
        cases e3
        rw [List.getElem?_set_ne hk] at e2 e4
        exact absurd e4 (no k ck (fun z => hk z.symm) e2)
    · by_cases hk : i = k
      · subst hk
        have hi : i < env.length := by simpa using (List.getElem?_eq_some_iff.mp e2).1
        rw [List.getElem?_set_self (by rw [ev.len]; exact hi)] at e4
        cases e4
        rw [List.getElem?_set_ne hj] at e1 e3
        exact absurd e3 (no j cj (fun z => hj z.symm) e1)
      · rw [List.getElem?_set_ne hj] at e1 e3
        rw [List.getElem?_set_ne hk] at e2 e4
        exact ev.own j k cj ck b e1 e2 e3 e4
  · by_cases hj : i = j
    · subst hj
      have hi : i < env.length := by simpa using (List.getElem?_eq_some_iff.mp e1).1
      rw [List.getElem?_set_self (by rw [ev.len]; exact hi)] at e2
      rw [List.getElem?_set_self hi] at e1
      cases e2; cases e1
      exact ⟨h0, fun z => by rw [hni] at z; cases z⟩
    · rw [List.getElem?_set_ne hj] at e1 e2
      exact t.new j cj b e1 e2
/-- a thing of one's own is frozen -/
theorem Sta.freeze (t : Sta c g0 g env σ st) {i : Nat} {cl : Cell} (h : env[i]? = some (.own cl)) : ∃ a, Sta c g0 (g.frz a) (env.set i (.val (cellD cl))) σ st ∧ LeS g (g.frz a) := by
  obtain ⟨o, ho, a, rfl, nF, na, r⟩ := t.ev.get h
  obtain ⟨u, hu⟩ := r.th
  have ev := t.ev
  have hi : i < σ.length := (List.getElem?_eq_some_iff.mp ho).1
  refine ⟨a, ⟨t.ext.frz (t.new i cl a h ho).1, t.wf.frz (by rw [hu]; exact fun z => by cases z) na, ⟨by simp [ev.len], fun j s o e1 e2 => ?_, fun j k cj ck b e1 e2 e3 e4 => ?_⟩, fun j cj b e1 e2 => ?_⟩, ⟨le_frz g a, fun _ _ _ _ h => h⟩⟩
  · by_cases hj : i = j
    · subst hj
      have hi' : i < env.length := by simpa using (List.getElem?_eq_some_iff.mp e1).1
      rw [List.getElem?_set_self hi'] at e1
      cases e1
      rw [ho] at e2; cases e2
      exact ⟨_, rfl, r.frz⟩
    · rw [List.getElem?_set_ne hj] at e1
      have rj := ev.at_ j s o e1 e2
      cases s with
      | no => trivial
      | val d => obtain ⟨v, e, r⟩ := rj; exact ⟨v, e, r.le (le_frz g a)⟩
      | own cj =>
        obtain ⟨b, e, f, n, rb⟩ := rj
        refine ⟨b, e, fun z => ?_, n, rb.le (le_frz g a) rfl⟩
        rcases z with z | z
        · exact f z
        · subst z; subst e
          exact hj (ev.own i j cl cj _ h e1 ho e2)
      | exn b cj fs =>
        obtain ⟨e, dd, vs, f, q, rb⟩ := rj
        exact ⟨e, dd, vs, .inl f, q, rb.le (le_frz g a)⟩
  · have nj : ∀ {j : Nat} {cj : Cell}, (env.set i (Slot.val (cellD cl)))[j]? = some (Slot.own cj) → env[j]? = some (Slot.own cj) := fun {j cj} e => by
      by_cases hj : i = j
      · subst hj
        have hi' : i < env.length := by simpa using (List.getElem?_eq_some_iff.mp e).1
        rw [List.getElem?_set_self hi'] at e
        cases e
      · rwa [List.getElem?_set_ne hj] at e
    exact ev.own j k cj ck b (nj e1) (nj e2) e3 e4
  · by_cases hj : i = j
    · subst hj
      have hi' : i < env.length := by simpa using (List.getElem?_eq_some_iff.mp e1).1
      rw [List.getElem?_set_self hi'] at e1
      cases e1
    · rw [List.getElem?_set_ne hj] at e1
      exact t.new j cj b e1 e2
/-- a thing of one's own has changed -/
theorem Sta.own (t : Sta c g0 g env σ st) {i : Nat} {cl cl' : Cell} {a : Addr} {o : HO} (h : env[i]? = some (.own cl)) (ho : σ[i]? = some (some (.ref a))) (hni : isIns cl' = true → isIns cl = true) (r : CRep c (g.upd a o) cl' a) : Sta c g0 (g.upd a o) (env.set i (.own cl')) σ st ∧ LeS g (g.upd a o) := by
  obtain ⟨o', ho', b, rfl, nF, na, rc⟩ := t.ev.get h
  rw [ho] at ho'; cases ho'
  have ev := t.ev
  have l := le_mut (c := c) (st := st) (g := g) (a := a) (o := o) nF
  have h0 := (t.new i cl a h ho).1
  refine ⟨⟨t.ext.mut h0, t.wf.mut nF na, ⟨by simp [ev.len], fun j s o e1 e2 => ?_, fun j k cj ck b e1 e2 e3 e4 => ?_⟩, fun j cj b e1 e2 => ?_⟩, ⟨l, fun b od u f e => (upd_ne (show b ≠ a from fun z => nF (by rw [← z]; exact f))).trans e⟩⟩
  · by_cases hj : i = j
    · subst hj
      have hi' : i < env.length := by simpa using (List.getElem?_eq_some_iff.mp e1).1
      rw [List.getElem?_set_self hi'] at e1
      cases e1
      rw [ho] at e2; cases e2
      exact ⟨a, rfl, nF, na, r⟩
    · rw [List.getElem?_set_ne hj] at e1
      have rj := ev.at_ j s o e1 e2
      cases s with
      | no => trivial
      | val d => obtain ⟨v, e, r⟩ := rj; exact ⟨v, e, r.le l⟩
      | own cj =>
        obtain ⟨b, e, f, n, rb⟩ := rj
        refine ⟨b, e, f, n, rb.le l (upd_ne fun z => ?_)⟩
        subst z; subst e
        exact hj (ev.own i j cl cj _ h e1 ho e2)
      | exn b cj fs =>
        obtain ⟨e, dd, vs, f, q, rb⟩ := rj
        exact ⟨e, dd, vs, f, (upd_ne (show dd ≠ a from fun z => nF (by rw [← z]; exact f))).trans q, rb.le l⟩
  · have nj : ∀ {j : Nat} {cj : Cell}, (env.set i (Slot.own cl'))[j]? = some (Slot.own cj) → ∃ cj', env[j]? = some (Slot.own cj') := fun {j cj} e => by
      by_cases hj : i = j
      · subst hj; exact ⟨cl, h⟩
      · exact ⟨cj, by rwa [List.getElem?_set_ne hj] at e⟩
    obtain ⟨cj', e1⟩ := nj e1
    obtain ⟨ck', e2⟩ := nj e2
    exact ev.own j k cj' ck' b e1 e2 e3 e4
  · by_cases hj : i = j
    · subst hj
      rw [ho] at e2; cases e2
      have hi' : i < env.length := by simpa using (List.getElem?_eq_some_iff.mp e1).1
      rw [List.getElem?_set_self hi'] at e1
      cases e1
      exact ⟨h0, fun z => (t.new i cl _ h ho).2 (hni z)⟩
    · rw [List.getElem?_set_ne hj] at e1
      exact t.new j cj b e1 e2
end

/-! ### the judgements -/
structure SOk (L : Law) (X : Cx) (W : WX) (k : Nat) : Prop where
  x : XOk L X k
  tk : Takes X W
  po : PassesOwn (model X.prog X.w) X.A X.env X.xe
  hs : X.stack = X.env :: X.outer
  hf : X.env.frame = some X.env.locals
  ex : X.ex = []
def DS (c : Cst) (X : Cx) (W : WX) (s : Stmt) (f : SR) : Prop := ∀ g0 g env σ st (D : Ends), Sta c g0 g env σ st → PostS c W g0 g (f env st) D → bS X s D σ g.H
def DSs (c : Cst) (X : Cx) (W : WX) (ss : List Stmt) (f : SR) : Prop := ∀ g0 g env σ st (D : Ends), Sta c g0 g env σ st → PostS c W g0 g (f env st) D → bSs X ss D σ g.H
section
variable {L : Law} {X : Cx} {W : WX} {k : Nat} {e : Expr} {f : ER} {s : Stmt} {ss : List Stmt} {fs fr : SR} {pos pos' p : Pos} {x : Str} {i : Nat}
def sNil : SR := fun env st => .nx env st
def sSeq (f fr : SR) : SR := fun env st => match f env st with
  | .nx env' st' => fr env' st'
  | o => o
theorem ss_nil : DSs L.c X W [] sNil := fun g0 g env σ st D t q => bSs_of pss_nil (PostS.nx q t)
theorem ss_cons (h : DS L.c X W s fs) (hr : DSs L.c X W ss fr) : DSs L.c X W (s :: ss) (sSeq fs fr) := fun g0 g env σ st D t q => by
  refine bSs_of (pss_cons ps_b pss_b) ?_
  refine h g0 g env σ st _ t ?_
  unfold sSeq at q
  cases hf : fs env st with
  | nx env' st' =>
    rw [hf] at q
    exact fun g' σ' l t' => hr g0 g' env' σ' st' D t' (PostS.later (o := fr env' st') q l)
  | rt d s => rw [hf] at q; exact q
  | bk a b => rw [hf] at q; exact q
  | ct a b => rw [hf] at q; exact q
  | exc a b c d => rw [hf] at q; exact q
  | bad => rw [hf] at q; exact q
def sPass : SR := fun env st => .nx env st
theorem s_pass : DS L.c X W (.Pass pos) sPass := fun g0 g env σ st D t q => bS_of ps_pass (PostS.nx q t)
theorem s_break : DS L.c X W (.Break pos) (fun env st => .bk env st) := fun g0 g env σ st D t q => bS_of ps_break (q g σ (LeS.refl g) t)
theorem s_cont : DS L.c X W (.Continue pos) (fun env st => .ct env st) := fun g0 g env σ st D t q => bS_of ps_continue (q g σ (LeS.refl g) t)
def sRet (f : ER) : SR := fun env st => liftE env (f env st) fun d s => .rt d s
theorem s_ret (h : DE L.c X W e f) : DS L.c X W (.Return (some e) pos) (sRet f) := fun g0 g env σ st D t q => by
  refine bS_of (ps_ret pe_b) ?_
  exact h g env σ st _ t.wf t.ev (PostS.bind t q fun d s g1 v _ x1 t1 r q1 => q1 g1 v (LeS.refl g1) t1.ext t1.wf r)
theorem s_ret0 : DS L.c X W (.Return none pos) (fun _ st => .rt .non st) := fun g0 g env σ st D t q => bS_of ps_retN (q g .non (LeS.refl g) t.ext t.wf rfl)
def sIf (t : TR) (a b : SR) : SR := fun env st => liftE env (t env st) fun c s => if c = true then a env s else b env s
theorem s_ifs {c : Expr} {a b : List Stmt} {tc : TR} {fa fb : SR} (hc : DT L.c X W c tc) (ha : DSs L.c X W a fa) (hb : DSs L.c X W b fb) : DS L.c X W (.If c a b pos) (sIf tc fa fb) := fun g0 g env σ st D t q => by
  refine bS_of (ps_if pt_b pss_b pss_b) ?_
  refine hc g env σ st _ t.wf t.ev (PostS.bind t q fun d s g1 v _ x1 t1 r q1 => ?_)
  have r : d = v := r
  subst r
  cases d with
  | true => exact ha g0 g1 env σ s D t1 q1
  | false => exact hb g0 g1 env σ s D t1 q1
def sDrop (f : ER) : SR := fun env st => liftE env (f env st) fun _ s => .nx env s
def NoCompE : Expr → Bool
  | .ListComp _ _ _ _ => false
  | .SetComp _ _ _ _ => false
  | .DictComp _ _ _ _ _ => false
  | _ => true
theorem no_swap {value : Expr} {tg : Option Expr} {line : Nat} {env : Env} (h : NoCompE value = true) : swapsWith value tg line env = pure false := by
  cases value with
  | ListComp _ _ _ _ => cases h
  | SetComp _ _ _ _ => cases h
  | DictComp _ _ _ _ _ => cases h
  | _ => rfl
theorem s_expr (hn : NoCompE e = true) (h : DP L.c X W e f) : DS L.c X W (.Expr e pos) (sDrop f) := fun g0 g env σ st D t q => by
  refine bS_of (ps_expr pe_b (no_swap hn)) ?_
  exact h g env σ st _ t.wf t.ev (PostS.bind t q fun d s g1 v _ x1 t1 r q1 => PostS.nx q1 t1)
/-! a name -/
def VarL (X : Cx) (x : Str) : Prop := X.env.scope.names.lookup x = some .local ∨ (X.env.scope.names.lookup x = some .cell ∧ X.fn x = true)
theorem VarL.loc (h : VarL X x) : Loc X.env.scope x := h.elim .inl fun z => .inr z.1
theorem VarL.fn (h : VarL X x) : X.fn x = true ∨ X.env.scope.names.lookup x = some .local := h.elim .inr fun z => .inl z.2
def sSet (i : Nat) (f : ER) : SR := fun env st => liftE env (f env st) fun d s => .nx (env.set i (.val d)) s
theorem s_set (hX : XOk L X k) (hN : X.N[i]? = some x) (hv : VarL X x) (hsw : swapsWith e (some (.Name x pos')) pos.line X.env = pure false) (h : DE L.c X W e f) : DS L.c X W (.Assign [.Name x pos'] e pos) (sSet i f) := fun g0 g env σ st D t q => by
  refine bS_of (ps_set hX.nd hN hv.loc pe_b hsw hv.fn) ?_
  exact h g env σ st _ t.wf t.ev (PostS.bind t q fun d s g1 v _ x1 t1 r q1 => PostS.nx q1 (t1.set r))
def sNew (i : Nat) (f : FR) : SR := fun env st => liftE env (f env st) fun cl s => if isIns cl = true then .bad else .nx (env.set i (.own cl)) s
theorem notIns {c : Cst} {g0 g : G} {cl : Cell} {env : DEnv} {s : Store} {D : Ends} (q : PostS c W g0 g (if isIns cl = true then .bad else .nx env s) D) : isIns cl = false ∧ PostS c W g0 g (.nx env s) D := by
  cases h : isIns cl with
  | true => rw [h] at q; exact q.elim
  | false => rw [h] at q; exact ⟨rfl, q⟩
theorem newR_own {c : Cst} {g0 g g1 : G} {env : DEnv} {σ : St} {st s : Store} {cl : Cell} {v : V} (t : Sta c g0 g env σ st) (t1 : Sta c g0 g1 env σ s) (hni : isIns cl = false) (r : NewR c g g1 cl v) : ∃ a, v = .ref a ∧ Sta c g0 g1 (env.set i (.own cl)) (σ.set i (some v)) s := by
  obtain ⟨a, rfl, hn, nF, na, r⟩ := r
  exact ⟨a, rfl, t1.setOwn (t.ext.nn a hn) hni nF na r fun j cj _ e1 e2 => t.ev.notown hn j cj e1 e2⟩
theorem s_new {f : FR} (hX : XOk L X k) (hN : X.N[i]? = some x) (hv : VarL X x) (hsw : swapsWith e (some (.Name x pos')) pos.line X.env = pure false) (h : DF L.c X W e f) : DS L.c X W (.Assign [.Name x pos'] e pos) (sNew i f) := fun g0 g env σ st D t q => by
  refine bS_of (ps_set hX.nd hN hv.loc pe_b hsw hv.fn) ?_
  refine h g env σ st _ t.wf t.ev (PostS.bind t q fun d s g1 v _ x1 t1 r q1 => ?_)
  obtain ⟨hni, q1⟩ := notIns q1
  obtain ⟨a, rfl, t2⟩ := newR_own (i := i) t t1 hni r
  exact PostS.nx q1 t2
end
end DL
end
section
set_option Elab.async false
set_option linter.all false
set_option maxRecDepth 100000
set_option autoImplicit false
/-! DL: loops, targets of several names -/
namespace DL
open PySem PySem.Spec L2
open PyProof.Rows hiding St

mutual
theorem bindP_own {i : Nat} {cl : Cell} : ∀ (p : Pat) (d : D) (st : Store) (env env' : DEnv), bindP p d st env = some env' → env'[i]? = some (Slot.own cl) → env[i]? = some (Slot.own cl) ∧ i ∉ p.ix
  | .v j, d, st, env, env', h, e => by
    cases h
    by_cases hj : j = i
    · subst hj
      have hi : j < env.length := by simpa using (List.getElem?_eq_some_iff.mp e).1
      rw [List.getElem?_set_self hi] at e
      cases e
    · rw [List.getElem?_set_ne hj] at e
      exact ⟨e, by simp [Pat.ix, show ¬ i = j from fun z => hj z.symm]⟩
  | .t ps, d, st, env, env', h, e => by
    cases hs : seqOf st d with
    | none => simp [bindP, hs] at h
    | some ds => exact bindPs_own ps ds st env env' (by simpa [bindP, hs] using h) e
theorem bindPs_own {i : Nat} {cl : Cell} : ∀ (p : Pats) (ds : List D) (st : Store) (env env' : DEnv), bindPs p ds st env = some env' → env'[i]? = some (Slot.own cl) → env[i]? = some (Slot.own cl) ∧ i ∉ p.ix
  | .nil, [], st, env, env', h, e => by
    cases h; exact ⟨e, by simp [Pats.ix]⟩
  | .nil, _ :: _, _, _, _, h, _ => by cases h
  | .cons _ _, [], _, _, _, h, _ => by cases h
  | .cons p ps, d :: ds, st, env, env', h, e => by
    cases hb : bindP p d st env with
    | none => simp [bindPs, hb] at h
    | some e1 =>
      obtain ⟨h1, h2⟩ := bindPs_own ps ds st e1 env' (by simpa [bindPs, hb] using h) e
      obtain ⟨h3, h4⟩ := bindP_own p d st env e1 hb h1
      exact ⟨h3, by simp [Pats.ix, h2, h4]⟩
end
section
variable {L : Law} {X : Cx} {W : WX} {k : Nat} {e tg iter : Expr} {f : ER} {s : Stmt} {ss body : List Stmt} {fs fr fb : SR} {pos pos' p : Pos} {x : Str} {i : Nat} {c : Cst} {g0 g g1 g2 : G} {env : DEnv} {σ : St} {st : Store}
theorem Sta.bound {p : Pat} {d : D} {env' : DEnv} {σ' : St} (t : Sta c g0 g env σ st) (h : bindP p d st env = some env') (ev : EnvR c g env' σ') (o : Off p.ix σ σ') : Sta c g0 g env' σ' st :=
  ⟨t.ext, t.wf, ev, fun i cl a e1 e2 => by
    obtain ⟨h1, h2⟩ := bindP_own p d st env env' h e1
    rw [o.2 i h2] at e2
    exact t.new i cl a h1 e2⟩
/-- targets of any form -/
def sAsg (p : Pat) (f : ER) : SR := fun env st => liftE env (f env st) fun d s => match bindP p d s env with
  | some env' => .nx env' s
  | none => .bad
theorem s_asg {pt : Pat} (hg : DG L.c X tg pt) (hsw : swapsWithSole [tg] e pos.line X.env = pure false) (hw : swappedStores [tg] e X.env = pure none) (h1 : (assignEach [tg] X.env).map (·.2) = [assign tg X.env]) (h : DE L.c X W e f) :
    DS L.c X W (.Assign [tg] e pos) (sAsg pt f) := fun g0 g env σ st D t q => by
  refine bS_of (ps_asg pe_b pg_b hsw hw h1) ?_
  refine h g env σ st _ t.wf t.ev (PostS.bind t q fun d s g1 v _ x1 t1 r q1 => ?_)
  cases hb : bindP pt d s env with
  | none => rw [hb] at q1; exact q1.elim
  | some env' =>
    rw [hb] at q1
    exact hg g1 env σ s d v env' _ t1.wf t1.ev r hb fun σ' ev' o => PostS.nx q1 (t1.bound hb ev' o)
/-- a, b = x, y with plain local names -/
def sPar (is : List Nat) (as : AR) : SR := fun env st => liftE env (as env st) fun ds s => if ds.length = is.length then .nx ((is.zip ds).foldl (fun e p => e.set p.1 (.val p.2)) env) s else .bad
theorem reps2 {ds : List D} {vs : List V} (r : Reps c g ds vs) (h : ds.length = 2) : ∃ d1 d2 v1 v2, ds = [d1, d2] ∧ vs = [v1, v2] ∧ Rep c g d1 v1 ∧ Rep c g d2 v2 := by
  match ds, h with
  | [d1, d2], _ =>
    obtain ⟨v1, ws, rfl, r1, rs⟩ := r
    obtain ⟨v2, ws, rfl, r2, rs⟩ := rs
    have e : ws = [] := rs
    subst e
    exact ⟨d1, d2, v1, v2, rfl, rfl, r1, r2⟩
theorem reps3 {ds : List D} {vs : List V} (r : Reps c g ds vs) (h : ds.length = 3) : ∃ d1 d2 d3 v1 v2 v3, ds = [d1, d2, d3] ∧ vs = [v1, v2, v3] ∧ Rep c g d1 v1 ∧ Rep c g d2 v2 ∧ Rep c g d3 v3 := by
  match ds, h with
  | [d1, d2, d3], _ =>
    obtain ⟨v1, ws, rfl, r1, rs⟩ := r
    obtain ⟨v2, ws, rfl, r2, rs⟩ := rs
    obtain ⟨v3, ws, rfl, r3, rs⟩ := rs
    have e : ws = [] := rs
    subst e
    exact ⟨d1, d2, d3, v1, v2, v3, rfl, rfl, r1, r2, r3⟩
theorem s_par {i j : Nat} {x y : Str} {a b : Expr} {as : AR} {px py pt : Pos} {kt k2 : Nat} {pt2 : Pos} (hX : XOk L X k) (hi : X.N[i]? = some x) (hj : X.N[j]? = some y) (hij : i ≠ j) (hx : X.env.scope.names.lookup x = some .local) (hy : X.env.scope.names.lookup y = some .local)
    (hw : swappedStores [.Tuple [.Name x px, .Name y py] kt pt] (.Tuple [a, b] k2 pt2) X.env = pure (some [x, y])) (ha : DA L.c X W [a, b] as) : DS L.c X W (.Assign [.Tuple [.Name x px, .Name y py] kt pt] (.Tuple [a, b] k2 pt2) pos) (sPar [i, j] as) := fun g0 g env σ st D t q => by
  refine bS_of (ps_par hX.calm hX.nd hi hj hij hx hy pa_b hw) ?_
  refine ha g env σ st _ t.wf t.ev (PostS.bind t q fun ds s g1 vs _ x1 t1 rs q1 => ?_)
  by_cases hl : ds.length = [i, j].length
  · obtain ⟨d1, d2, v1, v2, rfl, rfl, r1, r2⟩ := reps2 rs hl
    rw [if_pos hl] at q1
    exact ⟨v1, v2, rfl, PostS.nx q1 ((t1.set r1).set r2)⟩
  · rw [if_neg hl] at q1; exact q1.elim
theorem s_par3 {i j l : Nat} {x y z : Str} {a b e3 : Expr} {as : AR} {px py pz pt : Pos} {kt k2 : Nat} {pt2 : Pos} (hX : XOk L X k) (hi : X.N[i]? = some x) (hj : X.N[j]? = some y) (hl : X.N[l]? = some z) (hij : i ≠ j) (hil : i ≠ l) (hjl : j ≠ l) (hx : X.env.scope.names.lookup x = some .local)
    (hy : X.env.scope.names.lookup y = some .local) (hz : X.env.scope.names.lookup z = some .local) (hw : swappedStores [.Tuple [.Name x px, .Name y py, .Name z pz] kt pt] (.Tuple [a, b, e3] k2 pt2) X.env = pure (some [x, y, z])) (ha : DA L.c X W [a, b, e3] as) :
    DS L.c X W (.Assign [.Tuple [.Name x px, .Name y py, .Name z pz] kt pt] (.Tuple [a, b, e3] k2 pt2) pos) (sPar [i, j, l] as) := fun g0 g env σ st D t q => by
  refine bS_of (ps_par3 hX.calm hX.nd hi hj hl hij hil hjl hx hy hz pa_b hw) ?_
  refine ha g env σ st _ t.wf t.ev (PostS.bind t q fun ds s g1 vs _ x1 t1 rs q1 => ?_)
  by_cases hl : ds.length = [i, j, l].length
  · obtain ⟨d1, d2, d3, v1, v2, v3, rfl, rfl, r1, r2, r3⟩ := reps3 rs hl
    rw [if_pos hl] at q1
    exact ⟨v1, v2, v3, rfl, PostS.nx q1 (((t1.set r1).set r2).set r3)⟩
  · rw [if_neg hl] at q1; exact q1.elim
/-! a comprehension stored by name on its own line -/
theorem s_setLc {f : FR} {elt : Expr} {ifs : List Expr} {scope : Scope} {own : List (Str × Nat)} {tc : TR} {fe : ER} {pat : Pat} {it : IR} {cpos : Pos} (hX : XOk L X k) (hN : X.N[i]? = some x) (hl : X.env.scope.names.lookup x = some .local)
    (hsw : swapsWith (.ListComp elt [⟨tg, iter, ifs, 0⟩] scope cpos) (some (.Name x pos')) pos.line X.env = pure true) (ix : DIX L.c X W tg iter it) (ok : BlkOk X.N X.env.scope scope own)
    (hg : ∀ s H0 C cl fp, DG L.c (blkOf X scope s H0 C cl fp) tg pat) (ht : ∀ s H0 C cl fp, DTs L.c (blkOf X scope s H0 C cl fp) noW ifs tc) (he : ∀ s H0 C cl fp, DE L.c (blkOf X scope s H0 C cl fp) noW elt fe) (hix : ∀ i ∈ pat.ix, i ∈ own.map (·.2))
    (hs : ∀ x, foldedSetIterable iter X.env x = pure x) : DS L.c X W (.Assign [.Name x pos'] (.ListComp elt [⟨tg, iter, ifs, 0⟩] scope cpos) pos) (sNew i (fLc (own.map (·.2)) it pat tc fe)) := fun g0 g env σ st D t q => by
  have base : PS X (.Assign [.Name x pos'] (.ListComp elt [⟨tg, iter, ifs, 0⟩] scope cpos) pos) (tAsg (tLc (bI X tg iter) (tGb X scope tg) (tTb X scope ifs) (tEb X scope elt) (own.map (·.2))) (gName i)) :=
    ps_setLc hX.calm hX.nd hN hl hsw pi_b ok (fun s H C cl fp => pg_eb s H C cl fp) (fun s H C cl fp => pts_eb s H C cl fp) (fun s H C cl fp => pe_eb s H C cl fp) hs
  have q' : PostR L.c W g σ (NewR L.c g) (fLc (own.map (·.2)) it pat tc fe env st) (fun v H' => D.nx (σ.set i (some v)) H') := PostS.bind t q fun cl s g1 v _ x1 t1 r q1 => by
    obtain ⟨hni, q1⟩ := notIns q1
    obtain ⟨a, rfl, t2⟩ := newR_own (i := i) t t1 hni r
    exact PostS.nx q1 t2
  rcases ix g env σ st t.wf t.ev with ia | ⟨a, vs, hF, hq, ia⟩
  · exact bS_of base (lc_run (Q := fun v H' => D.nx (σ.set i (some v)) H') hX t.wf t.ev ia hg ht he hix q')
  · refine bS_of (ps_lock base) ⟨a, .dK vs, hq, trivial, fun od => ?_⟩
    exact lc_run (Q := fun v H' => H' a = some (.frz od (.dK vs)) ∧ D.nx (σ.set i (some v)) (L2.upd H' a (.dK vs))) hX (t.wf.lock hF hq) (t.ev.lock hF hq) (ia od) hg ht he hix (PostR.unlock t.wf hF hq (fun g2 s d v x w2 r => newR_unlock (s := st) hF hq t.wf x r) q')
/-- a thing of one's own becomes a datum -/
def sFrz (i : Nat) (fr : SR) : SR := fun env st => match env[i]? with
  | some (.own cl) => fr (env.set i (.val (cellD cl))) st
  | _ => .bad
theorem ss_frz (h : DSs L.c X W ss fr) : DSs L.c X W ss (sFrz i fr) := fun g0 g env σ st D t q => by
  unfold sFrz at q
  split at q
  · rename_i cl hc
    obtain ⟨a, t', l⟩ := t.freeze hc
    exact h g0 (g.frz a) _ σ st D t' (PostS.later q l)
  · exact q.elim

/-! ### for -/
def forGo (ok : Store → Bool) (body : D → DEnv → Store → SO) : List D → DEnv → Store → SO
  | [], env, s => if ok s = true then .nx env s else .bad
  | d :: ds, env, s => if ok s = true then match body d env s with
    | .nx env' s' => forGo ok body ds env' s'
    | .ct env' s' => forGo ok body ds env' s'
    | .bk env' s' => .nx env' s'
    | o => o else .bad
def turnS (p : Pat) (fb : SR) : D → DEnv → Store → SO := fun d env s => match bindP p d s env with
  | some env' => fb env' s
  | none => .bad
def sFor (it : IR) (p : Pat) (fb : SR) : SR := fun env st => liftE env (it env st) fun wd s => forGo wd.ok (turnS p fb) wd.items env s
theorem for_run {pat : Pat} {it : IR} {D : Ends} (t : Sta L.c g0 g env σ st) (ia : IA L.c X W LeS tg iter it g env σ st) (hg : DG L.c X tg pat) (hb : DSs L.c X W body fb) (q : PostS L.c W g0 g (sFor it pat fb env st) D) :
    tFor (bI X tg iter) (bG X tg) (bSs X body) D σ g.H := by
  refine ia _ (PostS.bind t q fun wd s g1 J _ x1 t1 wk q1 => ?_)
  obtain ⟨Gd, Y, hw, hGd, hY⟩ := wk
  have okOf : ∀ {i : Nat} {env2 : DEnv} {st2 : Store} {g2 : G}, PostS L.c W g0 g2 (forGo wd.ok (turnS pat fb) (wd.items.drop i) env2 st2) D → wd.ok st2 = true := fun {i env2 st2 g2} q2 => by
    cases hk : wd.ok st2 with
    | true => rfl
    | false =>
      exfalso
      cases hdr : wd.items.drop i with
      | nil => rw [hdr] at q2; simp [forGo, hk] at q2; exact q2
      | cons d ds => rw [hdr] at q2; simp [forGo, hk] at q2; exact q2
  refine for_it hw (fun i σ H => ∃ g2 env2 st2, H = g2.H ∧ LeS g1 g2 ∧ Sta L.c g0 g2 env2 σ st2 ∧ PostS L.c W g0 g2 (forGo wd.ok (turnS pat fb) (wd.items.drop i) env2 st2) D) ?_ (fun i σ H hi hp => ?_) (fun i x σ H H' hi hp hy => ?_) (fun σ H hp => ?_)
  · exact ⟨g1, env, s, rfl, LeS.refl g1, t1, by simpa using q1⟩
  · obtain ⟨g2, env2, st2, rfl, l2, t2, q2⟩ := hp
    exact hGd g2 st2 l2 t2.wf (okOf q2)
  · obtain ⟨g2, env2, st2, rfl, l2, t2, q2⟩ := hp
    have hk := okOf q2
    obtain ⟨g3, d, rfl, x3, w3, hd, rd⟩ := hY i g2 st2 x H' l2 t2.wf hk hy hi
    have hdr : wd.items.drop i = d :: wd.items.drop (i + 1) := by
      obtain ⟨h1, h2⟩ := List.getElem?_eq_some_iff.mp hd
      rw [List.drop_eq_getElem_cons h1, h2]
    rw [hdr] at q2
    have e2 : forGo wd.ok (turnS pat fb) (d :: wd.items.drop (i + 1)) env2 st2 = match turnS pat fb d env2 st2 with
      | .nx env' s' => forGo wd.ok (turnS pat fb) (wd.items.drop (i + 1)) env' s'
      | .ct env' s' => forGo wd.ok (turnS pat fb) (wd.items.drop (i + 1)) env' s'
      | .bk env' s' => .nx env' s'
      | o => o := by
      show (if wd.ok st2 = true then _ else _) = _
      rw [if_pos hk]
    rw [e2] at q2
    have t3 := t2.later x3 w3
    have l3 := l2.trans (x3.leS t2.wf)
    have q2 := PostS.later q2 (x3.leS t2.wf)
    cases hbd : bindP pat d st2 env2 with
    | none =>
      exfalso
      simp only [turnS, hbd] at q2
      exact q2
    | some env' =>
      have e3 : turnS pat fb d env2 st2 = fb env' st2 := by simp only [turnS, hbd]
      rw [e3] at q2
      refine hg g3 env2 σ st2 d x env' _ w3 t3.ev rd hbd fun σ' ev' o => ?_
      have t4 := t3.bound hbd ev' o
      refine hb g0 g3 env' σ' st2 _ t4 ?_
      cases hf : fb env' st2 with
      | nx env5 s5 =>
        rw [hf] at q2
        exact fun g' σ5 l t5 => ⟨g', env5, s5, rfl, l3.trans l, t5, PostS.later (o := forGo wd.ok (turnS pat fb) (wd.items.drop (i + 1)) env5 s5) q2 l⟩
      | ct env5 s5 =>
        rw [hf] at q2
        exact fun g' σ5 l t5 => ⟨g', env5, s5, rfl, l3.trans l, t5, PostS.later (o := forGo wd.ok (turnS pat fb) (wd.items.drop (i + 1)) env5 s5) q2 l⟩
      | bk env5 s5 => rw [hf] at q2; exact q2
      | rt a b => rw [hf] at q2; exact q2
      | exc a b c d => rw [hf] at q2; exact q2
      | bad => rw [hf] at q2; exact q2
  · obtain ⟨g2, env2, st2, rfl, l2, t2, q2⟩ := hp
    have e : wd.items.drop wd.items.length = [] := by simp
    have hk := okOf q2
    rw [e] at q2
    have q2 : PostS L.c W g0 g2 (.nx env2 st2) D := by simpa [forGo, hk] using q2
    exact PostS.nx q2 t2
/-- under a lock -/
theorem Sta.lock {a : Addr} {od : Obj} {vs : List (Key × V)} (t : Sta c g0 g env σ st) (hF : g.F a) (h : g.H a = some (.dK vs)) : Sta c g0 (g.lock a od vs) env σ st ∧ LeS g (g.lock a od vs) := by
  refine ⟨⟨?_, t.wf.lock hF h, t.ev.lock hF h, t.new⟩, le_lock h, fun b od' u f e => (upd_ne fun z => by subst z; rw [h] at e; cases e).trans e⟩
  refine ⟨t.ext.F, t.ext.as, fun b o hb e => ?_, t.ext.back, fun b hb => ?_⟩
  · by_cases z : b = a
    · subst z
      have f0 : g0.F b := by
        rcases t.ext.back b hF with z | z
        · exact z
        · rw [e] at z; cases z
      rcases t.ext.keep b o hb e with q | ⟨_, kvs, od', _, q⟩
      · rw [h] at q; cases q
        exact .inr ⟨f0, vs, od, rfl, upd_same⟩
      · rw [h] at q; cases q
    · rcases t.ext.keep b o hb e with q | ⟨f, kvs, od', e1, q⟩
      · exact .inl ((upd_ne z).trans q)
      · exact .inr ⟨f, kvs, od', e1, (upd_ne z).trans q⟩
  · have z : b ≠ a := fun z => by
      subst z
      rw [show (g.lock b od vs).H b = some _ from upd_same] at hb; cases hb
    exact t.ext.nn b ((upd_ne (H := g.H) (o := .frz od (.dK vs)) z).symm.trans hb)
theorem Sta.unlock {a : Addr} {od : Obj} {vs : List (Key × V)} {env' : DEnv} {σ' : St} {st' : Store} (t : Sta c g0 g env σ st) (hF : g.F a) (h : g.H a = some (.dK vs)) (l : LeS (g.lock a od vs) g2) (t2 : Sta c g0 g2 env' σ' st') : g2.H a = some (.frz od (.dK vs)) ∧ Sta c g0 (g2.unlock a vs) env' σ' st' ∧ LeS g (g2.unlock a vs) := by
  have e2 : g2.H a = some (.frz od (.dK vs)) := l.fz a od _ hF upd_same
  have hF2 : g2.F a := l.le.F a hF
  have lu := le_unlock e2
  refine ⟨e2, ⟨?_, t2.wf.unlock hF2 e2, ?_, t2.new⟩, ((le_lock (od := od) h).trans l.le).trans lu, fun b od' u f e => ?_⟩
  · refine ⟨t2.ext.F, t2.ext.as, fun b o hb e => ?_, t2.ext.back, fun b hb => ?_⟩
    · by_cases z : b = a
      · subst z
        rcases t.ext.keep b o hb e with q | ⟨_, kvs, od', _, q⟩
        · rw [h] at q; cases q
          exact .inl upd_same
        · rw [h] at q; cases q
      · rcases t2.ext.keep b o hb e with q | ⟨f, kvs, od', e1, q⟩
        · exact .inl ((upd_ne z).trans q)
        · exact .inr ⟨f, kvs, od', e1, (upd_ne z).trans q⟩
    · have z : b ≠ a := fun z => by
        subst z
        rw [show (g2.unlock b vs).H b = some _ from upd_same] at hb; cases hb
      exact t2.ext.nn b ((upd_ne (H := g2.H) (o := .dK vs) z).symm.trans hb)
  · have ev := t2.ev
    refine ⟨ev.len, fun i s o e1 e3 => ?_, ev.own⟩
    have r := ev.at_ i s o e1 e3
    cases s with
    | no => trivial
    | val d => obtain ⟨v, e, r⟩ := r; exact ⟨v, e, r.le lu⟩
    | own cl =>
      obtain ⟨b, e, f, n, r⟩ := r
      exact ⟨b, e, f, n, r.le lu (upd_ne fun z => f (z ▸ hF2))⟩
    | exn b cl fs =>
      obtain ⟨e, dd, ws, f, q, r⟩ := r
      exact ⟨e, dd, ws, f, (upd_ne fun z => by subst z; rw [e2] at q; cases q).trans q, r.le lu⟩
  · have z : b ≠ a := fun z => by subst z; rw [h] at e; cases e
    exact (upd_ne z).trans (l.fz b od' u f ((upd_ne z).trans e))
theorem PostS.unlock {a : Addr} {od : Obj} {vs : List (Key × V)} {o : SO} {D : Ends} (t : Sta c g0 g env σ st) (hF : g.F a) (h : g.H a = some (.dK vs)) (q : PostS c W g0 g o D) :
    PostS c W g0 (g.lock a od vs) o ⟨fun σ' H' => H' a = some (.frz od (.dK vs)) ∧ D.nx σ' (L2.upd H' a (.dK vs)), fun v H' => H' a = some (.frz od (.dK vs)) ∧ D.rt v (L2.upd H' a (.dK vs)), fun σ' H' => H' a = some (.frz od (.dK vs)) ∧ D.bk σ' (L2.upd H' a (.dK vs)), fun σ' H' => H' a = some (.frz od (.dK vs)) ∧ D.ct σ' (L2.upd H' a (.dK vs))⟩ := by
  cases o with
  | nx env' s =>
    intro g2 σ' l t2
    obtain ⟨e, t3, l3⟩ := t.unlock hF h l t2
    exact ⟨e, q _ σ' l3 t3⟩
  | bk env' s =>
    intro g2 σ' l t2
    obtain ⟨e, t3, l3⟩ := t.unlock hF h l t2
    exact ⟨e, q _ σ' l3 t3⟩
  | ct env' s =>
    intro g2 σ' l t2
    obtain ⟨e, t3, l3⟩ := t.unlock hF h l t2
    exact ⟨e, q _ σ' l3 t3⟩
  | rt d s =>
    intro g2 v l x w r
    have t2 : Sta c g0 g2 [] [] s := ⟨x, w, ⟨rfl, fun i _ _ h => by simp at h, fun i _ _ _ _ h => by simp at h⟩, fun i _ _ h => by simp at h⟩
    obtain ⟨e, t3, l3⟩ := t.unlock hF h l t2
    exact ⟨e, q _ v l3 t3.ext t3.wf (r.le (le_unlock e))⟩
  | exc y fs env' s => exact PostS.later q (t.lock hF h).2
  | bad => exact q
theorem s_for {pat : Pat} {it : IR} (hX : SOk L X W k) (ix : DIX L.c X W tg iter it) (hg : DG L.c X tg pat) (hb : DSs L.c X W body fb) (hs : ∀ x, foldedSetIterable iter X.env x = pure x) : DS L.c X W (.For tg iter body [] pos) (sFor it pat fb) := fun g0 g env σ st D t q => by
  have base : PS X (.For tg iter body [] pos) (tFor (bI X tg iter) (bG X tg) (bSs X body)) := ps_for hX.po hX.x.calm pi_b pg_b pss_b hs
  rcases ix g env σ st t.wf t.ev with ia | ⟨a, vs, hF, hq, ia⟩
  · exact bS_of base (for_run t ia hg hb q)
  · refine bS_of (ps_lock base) ⟨a, .dK vs, hq, trivial, fun od => ?_⟩
    exact for_run (t.lock hF hq).1 (ia od) hg hb (PostS.unlock t hF hq q)
end
end DL
end
section
set_option Elab.async false
set_option linter.all false
set_option maxRecDepth 100000
set_option maxHeartbeats 4000000
set_option autoImplicit false
/-! an own exception class: def __init__(self, p): super().__init__(a text); self.p = p -/
namespace DX
open PySem PySem.W PySem.Calls PyProof.Rows
section
open Builtin Builtin.ObjectAttr
variable {prog : Program} {w : World} {A : Around} {E : Value → Shared → Prop} {R : Result → Shared → Prop} {hp : Heap} {g : Array GenState} {d : Drawn} {t : Nat} {os : OsState} {B : String} {bmB : List Value}
/-- the first field of an exception, over any built-in base -/
theorem osa_any {K : Frag} {name : Str} {tk : Tok} {v : Value} {x C : Addr} {fv : Array Value} (SF : StoreFacts B bmB "object.__setattr__" "object")
    (X : K.In hp) (hx : hp.get? x = some { cls := .ref C, data := .fields fv }) (hov : excOver K C bmB = true) (hh : hasDictIn K C = true) (ha : takerIn K C name = some none)
    (hq : ∀ h' tk' dx, (∀ b o, b ≠ x → hp.get? b = some o → h'.get? b = some o) → hp.objs.size ≤ dx → dx ≠ x → h'.get? x = some { cls := .ref C, dict := some dx, data := .fields fv } →
      h'.Ns1 dx (fun y => if y = name then some v else none) → R (.ok (.ret .none)) ⟨h', g, d, tk', os⟩) :
    codeAny (model prog w) A (.call (.builtin "object.__setattr__") ⟨[.ref x, .str name tk, v], []⟩) R ⟨hp, g, d, t, os⟩ := by
  have I : InstAt hp x { cls := .ref C, data := .fields fv } C none := ⟨hx, rfl, rfl, trivial⟩
  have hxs : x ≠ hp.objs.size := Nat.ne_of_lt (Heap.lt_size hx)
  obtain ⟨cd, hcd, hhd⟩ := any_some hh
  have hcls : Looks (model prog w) hp (classData C) cd := looks_clsIn X hcd
  refine osa_openX SF X I hov ha fun b => ?_
  obtain ⟨nm, bs, mro, ns, qn, hd, sn, sb, ab, col, del⟩ := cd
  dsimp only at hhd
  subst hhd
  unfold storeInOwnDict ownDictForStores
  repeat (first | with_reducible refine HandSPX.store_in_new ?_ ?_ | with_reducible refine wpAny_loadPart_at hx ?_ | with_reducible refine hcls.at ?_ | wp_step)
  · exact ⟨_, #[], _, (Heap.get?_update_ne _ _ _ _ hxs.symm).trans (Heap.get?_push_at rfl rfl), rfl, fun e he => absurd he (by simp), fun _ => rfl⟩
  · intro h' tk' hn' hs
    have hx₁ : (hp.push { cls := .type "dict", data := .dict #[] }).get? x = some { cls := .ref C, data := .fields fv } := Heap.get?_push_of_some _ hx
    refine hq h' tk' hp.objs.size (fun b o hb ho => ?_) (Nat.le_refl _) hxs.symm ?_ hn'
    · exact (hs.2 b (Nat.ne_of_lt (Heap.lt_size ho))).trans ((Heap.get?_update_ne _ _ _ _ hb).trans (Heap.get?_push_of_some _ ho))
    · exact (hs.2 x hxs).trans (Heap.get?_update_self _ hx₁ rfl)
end
section
variable {prog : Program} {w : World} {A : Around} {E : Value → Shared → Prop} {h : Heap} {g : Array GenState} {d : Drawn} {t : Nat} {os : OsState}
variable {nm q : Str} {C N : Addr} {bs bm : List Value} {hdct : Bool} {sn : List Str} {sub : List Value} {ab : Bool} {col : Option Bool} {dd : Option Addr} {k0 k1 k2 k3 k5 : Option Value} {B newId initId : String} {bmB : List Value}
/-- the built-in __init__, bound, called -/
theorem call_mw (FB : ExcBaseFacts B newId initId bmB) {u e t0 : Addr} {rest : List Value} {Q : Value → Shared → Prop}
    (hC : h.get? C = some (excClassObj nm q C N bs bm hdct sn sub ab col dd k0 k1 k2 k3 k5 newId)) (he : h.get? e = some (HandSPX.excO C t0)) (hu : h.get? u = some (kxs_mw initId e)) (hrest : rest.length ≤ sizeLine)
    (hq : ∀ h' t1, (∀ b o, b ≠ e → h.get? b = some o → h'.get? b = some o) → h'.get? e = some (HandSPX.excO C t1) → Q .none ⟨h', g, d, t, os⟩) :
    wpAny (model prog w) A (call (.ref u) rest) Q E ⟨h, g, d, t, os⟩ := by
  refine wpAny_call (codeAny_of_tree ?_)
  show wpAny _ A.in1 (callAny (.ref u) ⟨rest, []⟩) _ _ _
  simp only [callAny]
  refine wpAny_bind (wpAny_load hu ?_)
  simp only [kxs_mw, show (Value.type "method-wrapper" == Value.type "method" || Value.type "method-wrapper" == Value.type "builtin_function_or_method" || Value.type "method-wrapper" == Value.type "method-wrapper") = true by decide, if_true]
  refine KFB.if_so (by decide) ?_
  refine wpAny_bind (check_bound_init FB.toExcCallFacts hC he rfl ?_)
  refine wpAny_bind (wpAny_pure (wpAny_pure ?_))
  refine ⟨plainId_quiet FB.init.plain _, codeAny_builtin FB.initEntry ?_⟩
  rw [Around.under_plainId FB.init.plain _]
  wp_walk
  refine hq _ h.objs.size (fun b o hb ho => ?_) ?_
  · rw [Heap.get?_update_other _ _ (Ne.symm hb)]
    exact Heap.get?_push_of_some _ ho
  · rw [Heap.get?_update_self _ (Heap.get?_push_of_some _ he) rfl]
    rfl
end
/-! ### the text of __init__ -/
def xA (p : Str) (p1 p2 : Pos) : Arguments := { posonlyargs := [], args := [{ arg := "self", annotation := none, pos := p1 }, { arg := p, annotation := none, pos := p2 }], vararg := none, kwonlyargs := [], kw_defaults := [], kwarg := none, defaults := [] }
def xB (p : Str) (txt : Str) (j : Nat) (a1 a2 a3 a4 a5 a6 b1 b2 b3 b4 : Pos) : List Stmt :=
  [.Expr (.Call (.Attribute (.Call (.Name "super" a1) [] [] a2) "__init__" a3) [.Constant (.str txt) j a4] [] a5) a6, .Assign [.Attribute (.Name "self" b1) p b2] (.Name p b3) b4]
/-- how its two arguments bind: by rfl for a written p -/
def BindX (p : Str) : Prop := ∀ (qual : Str) (p1 p2 : Pos) (body : List Stmt) (sc : Scope) (cl : List (Str × Addr)) (kV doc pm : Value) (an : Option Addr) (cdv ct : Value) (u v : Value), bindArgs (fnX "__init__" qual (xA p p1 p2) body sc cl .none kV doc pm an cdv ct) ⟨[u, v], []⟩ = pure [(("self" : Str), u), (p, v)]
example : BindX "line" := fun _ _ _ _ _ _ _ _ _ _ _ _ _ _ => rfl
/-- what is known of the class at C and of its __init__ at fI -/
structure ExcTxt (prog : Program) (K : Frag) (mg : Str → Option Value) (C fI : Addr) (p : Str) (B newId initId : String) (bmB : List Value) : Prop where
  bx : BindX p
  FB : ExcBaseFacts B newId initId bmB
  SF : StoreFacts B bmB "object.__setattr__" "object"
  KF : KxsFacts B initId
  q : excInitIn K C bmB newId = true
  ov : excOver K C bmB = true
  hd : hasDictIn K C = true
  sa : findIn K (.ref C) "__setattr__" = some (some (.builtin "object.__setattr__"))
  tk : takerIn K C p = some none
  iC : findIn K (.ref C) "__init__" = some (some (.ref fI))
  fnI : isFn K (.ref fI) = true
  kC : keepIn K (.ref C) = true
  exC : subIn K (.ref C) (.type "BaseException") = some true
  tyC : typeIn K (.ref C) = some (.type "type")
  subB : subIn K (.ref C) (.type B) = some true
  sup : ks_superIn K C C "__init__" = some (some (.builtin initId))
  own : mroIn K C (.ref C) = some true
  op : nsIn K cStatics "thirdparty.any" = some none
  ms : mg "super" = none
  htop : (prog.main.scope.names.lookup ("super" : Str)).isSome = false
  np : (p == ("__debug__" : Str)) = false
  ps : p ≠ "self"
  fn : ∃ (oc : Value) (od : Option Addr) (kV doc pm : Value) (an : Option Addr) (cda : Addr) (ct : Value) (osl : Array (Option Value)) (qual : Str) (sc : Scope) (cc : Addr) (p1 p2 a1 a2 a3 a4 a5 a6 b1 b2 b3 b4 : Pos) (txt : Str) (j : Nat),
    K.lookup fI = some ⟨oc, od, .func (fnX "__init__" qual (xA p p1 p2) (xB p txt j a1 a2 a3 a4 a5 a6 b1 b2 b3 b4) sc [("__class__", cc)] .none kV doc pm an (.ref cda) ct), osl⟩ ∧ codeIn K (.ref cda) qual = true ∧
    (∃ ccl cdd vs ccs file tf, K.lookup cda = some ⟨ccl, cdd, .fields vs, ccs⟩ ∧ vs[2]? = some (.str file tf) ∧ ((prog.main.file : Str) == file) = true) ∧
    (∃ cl cld csl, K.lookup cc = some ⟨cl, cld, .cell (some (.ref C)), csl⟩) ∧
    sc.kind = .function ∧ sc.isCoroutine = false ∧ sc.isGenerator = false ∧ sc.names.lookup ("self" : Str) = some .local ∧ sc.names.lookup p = some .local ∧ sc.names.lookup ("super" : Str) = some .globalImplicit ∧ sc.names.lookup ("__class__" : Str) = some .free ∧
    (∀ x ∈ sc.names, x.2 ≠ .cell) ∧ (a3.endLine == a5.line) = true
/-- what __init__ leaves of a fresh exception at x -/
structure InitEnd (p : Str) (h h' : Heap) (x C dx t1 : Addr) (v : Value) : Prop where
  keep : ∀ b o, b ≠ x → h.get? b = some o → h'.get? b = some o
  obj : h'.get? x = some { cls := .ref C, dict := some dx, data := .fields #[.ref t1, .none, .none, .none, .bool false, .none] }
  dbig : h.objs.size ≤ dx
  dne : dx ≠ x
  ns : h'.Ns1 dx (fun y => if y = p then some v else none)
theorem eval_m1 {o : Expr} {name : Str} {env : Env} {args : List Expr} {apos pos : Pos} (hform : methodCallForm (args.length + ([] : List Keyword).length) (backTo pos (starEach args env)) (backToKw pos (keywordEach [] env)) = true) (hline : (apos.endLine == pos.line) = true) :
    eval (.Call (.Attribute o name apos) args [] pos) env = (do
      let ov ← attributeBase o name env (eval o env)
      standAt apos.atName
      let (f, first) ← holding [ov] (getMethod ov name (do return (← importBound o env).getD true))
      callWith pos f first (backTo pos (starEach args env)) []) := by
  have hpos : methodCallPos true o env apos pos = pure pos := by unfold methodCallPos; simp [hline]
  rw [arm_eval_Call]
  unfold methodCall calleeOf
  rw [hform, hpos]
  rfl
section
variable {prog : Program} {w : World} {A : Around} {E : Value → Shared → Prop} {R : Result → Shared → Prop} {K : Frag} {mg : Str → Option Value} {C fI : Addr} {p : Str} {B newId initId : String} {bmB : List Value} {base hh : Heap} {g : Array GenState} {d : Drawn} {tk : Nat} {os : OsState}
theorem exc_body {env : Env} {body : List Stmt} {txt : Str} {j : Nat} {a1 a2 a3 a4 a5 a6 b1 b2 b3 b4 : Pos} {cda cc : Addr} {of oc : Obj} {fd : FuncData} {p1 : Pos} {vs : Array Value} {file : Str} {tf : Tok} {m : Str → Option Value} (T : ExcTxt prog K mg C fI p B newId initId bmB) (M : L2.Mod K mg base) (kb : ∀ b o, base.get? b = some o → hh.get? b = some o)
    (hk : env.scope.kind = .function) (hks : env.kindOf "super" = some .globalImplicit) (hkc : env.kindOf "__class__" = some .free) (hself : env.kindOf "self" = some .local) (hp : env.kindOf p = some .local) (hfu : env.func = some fI) (hg : env.globals = mainGlobals) (hbl : env.builtins = builtinsNs)
    (hf : hh.get? fI = some of) (hfd : of.data = .func fd) (hpar : (fd.params.posonlyargs ++ fd.params.args).head? = some { arg := "self", annotation := none, pos := p1 }) (hco : env.code = .ref cda) (hcc : hh.get? cda = some oc) (hoc : oc.data = .fields vs) (hvs : vs[2]? = some (.str file tf)) (hfile : ((prog.main.file : Str) == file) = true)
    (hcl : env.cells.lookup ("__class__" : Str) = some cc) (hcell : hh.IsCell cc (some (.ref C))) (hline : (a3.endLine == a5.line) = true) (hns : hh.Ns env.locals m) {x t0 : Addr} {v : Value} (mself : m "self" = some (.ref x)) (mp : m p = some v) (hx : hh.get? x = some (HandSPX.excO C t0)) (hxL : env.locals ≠ x) (hnx : K.lookup x = none)
    {Q : Flow → Shared → Prop} (hq : ∀ h' tk' dx t1, InitEnd p hh h' x C dx t1 v → Q .next ⟨h', g, d, tk', os⟩) :
    PySem.wpAt (model prog w) A (.func body env) (execs (xB p txt j a1 a2 a3 a4 a5 a6 b1 b2 b3 b4) env) Q E ⟨hh, g, d, tk, os⟩ := by
  have X1 : K.In hh := M.kin.keeps kb
  obtain ⟨nm, N', qn, bs, bm, hdct, sn, sub, ab, col, dd, k0, k1, k2, k3, k5, hC, hT⟩ := excInit_of X1 T.q
  cases hcl2 : clsIn K C with
  | none =>
    have := T.own
    unfold mroIn at this
    rw [hcl2] at this; cases this
  | some cdC =>
  obtain ⟨oD, hD1, hD2⟩ : ∃ oD, hh.get? C = some oD ∧ oD.data = .cls cdC := by
    unfold clsIn at hcl2
    split at hcl2
    · rename_i c d cd' sl hl
      cases hcl2
      exact ⟨_, X1 _ _ hl, rfl⟩
    · cases hcl2
  have I1 : InstAt hh x (HandSPX.excO C t0) C none := ⟨hx, rfl, rfl, trivial⟩
  have hxC : x ≠ C := ks_ne X1 I1 hcl2
  obtain ⟨mb, hb1, hb2⟩ := M.blt
  unfold xB
  refine ks_wpAt_execs_cons (ks_wpAt_Expr_any ?_ (by unfold interactive; rw [hk]; rfl))
  rw [eval_m1 (by rfl) hline]
  refine PySem.wpAt_bind (PySem.wpAt_mono (ks_wpAt_super_base (p0 := a1) (p1 := a2) (Q := fun ov s' => ∃ h₂, ov = .ref hh.objs.size ∧ s' = ⟨h₂, g, d, tk, os⟩ ∧ h₂.get? hh.objs.size = some (ks_superObj C x C) ∧ (∀ y o, hh.get? y = some o → h₂.get? y = some o)) hks hkc rfl hfu hf hfd hpar hco hcc hoc hvs hfile T.htop ?_) (fun ov s' hov => ?_) fun _ _ z => z)
  · refine ks_loadName_global hk hks (loadGlobal_builtin (by rw [hg]; exact M.glob.keeps kb) T.ms (by rw [hbl]; exact hb1.keeps kb) ((hb2 _ (by decide)).trans (show bootBuiltins "super" = some (.type "super") from by kernel_rfl)) ⟨rfl, ?_⟩)
    refine wpAny_loadName_free hk hkc hcl hcell ?_
    refine wpAny_loadName_local hk hself hns mself ?_
    refine ks_wpAny_isType_cls hD1 hD2 ⟨rfl, ?_⟩
    refine ks_wpAny_call_super hD1 hD2 hx rfl (fun c e => by cases e) (looks_mroIn X1 T.own) (fun h' e k => ?_)
    exact ⟨h', rfl, rfl, e, k⟩
  · obtain ⟨h₂, rfl, rfl, hso, k2⟩ := hov
    have X2 : K.In h₂ := X1.keeps k2
    have hx2 := k2 _ _ hx
    have I2 : InstAt h₂ x (HandSPX.excO C t0) C none := ⟨hx2, rfl, rfl, trivial⟩
    refine PySem.wpAt_of_wpAny (wpAny_bind (wpAny_standAt (wpAny_bind (wpAny_holding ?_))))
    have hsup := T.sup
    unfold ks_superIn at hsup
    rw [hcl2] at hsup
    refine kxs_getMethod T.KF hso (looks_opaque X2 T.op) (l₀ := cdC.mro) (fun A Q E s k q => wpAny_bind ((looks_clsIn X2 hcl2) A _ E s k (wpAny_pure q))) rfl X2 hsup (I2.type.andThen (looks_subIn X2 T.subB)) hxC rfl ?_
    have k3 : ∀ y o, h₂.get? y = some o → (h₂.push (kxs_mw initId x)).get? y = some o := fun y o e => Heap.get?_push_of_some _ e
    have hmw : (h₂.push (kxs_mw initId x)).get? h₂.objs.size = some (kxs_mw initId x) := Heap.get?_push_size _ rfl
    refine kxs_callWith (i := initId) (x := x) rfl (evalArgs_plain ?_)
    show wpAny _ _ (spliced ((false, eval (.Constant (.str txt) j a4) env) :: backTo a5 (starEach [] env))) _ _ _
    refine spliced_cons (Constant_str (spliced_nil ⟨hmw, ?_⟩))
    refine call_mw T.FB (k3 _ _ (k2 _ _ hC)) (k3 _ _ hx2) hmw (by show 1 ≤ sizeLine; decide) fun h₄ t1 k4 hx4 => ?_
    have kk : ∀ b o, b ≠ x → hh.get? b = some o → h₄.get? b = some o := fun b o hb e => k4 b o hb (k3 _ _ (k2 _ _ e))
    have hns4 : h₄.Ns env.locals m := hns.at fun o e => kk _ _ hxL e
    have X4 : K.In h₄ := fun a o e => kk a o (fun z => by rw [z, hnx] at e; cases e) (X1 a o e)
    have hnd : (p == ("__debug__" : Str)) = false := T.np
    refine ks_wpAt_execs_cons (ks_wpAt_Assign_Attr (PySem.wpAt_of_wpAny ?_))
    refine wpAny_Name (wpAny_loadName_local hk hp hns4 mp ?_) hnd
    refine wpAny_Name (wpAny_loadName_local hk hself hns4 mself ?_) rfl
    refine set_plain X4 (ox := HandSPX.excO C t1) (od := none) ⟨hx4, rfl, rfl, trivial⟩ T.sa ?_
    refine osa_any T.SF X4 hx4 T.ov T.hd T.tk fun h₅ tk5 dx k5 dn dne hx5 hn5 => ?_
    have lt : hh.objs.size ≤ h₄.objs.size := Nat.le_of_lt (Heap.lt_size (k4 _ _ (Nat.ne_of_gt (Heap.lt_size hx)) (k3 _ _ hso)))
    refine PySem.wpAt_of_wpAny (wpAny_execs_nil (hq h₅ _ dx t1 ⟨fun b o hb e => k5 b o hb (kk b o hb e), hx5, Nat.le_trans lt dn, dne, hn5⟩))
theorem exc_init {s : Shared} (T : ExcTxt prog K mg C fI p B newId initId bmB) (M : L2.Mod K mg base) (kb : ∀ b o, base.get? b = some o → s.heap.get? b = some o) {x t0 : Addr} {v : Value} (hx : s.heap.get? x = some (HandSPX.excO C t0)) (hnx : K.lookup x = none) (hroom : A.depth < recursionLimit)
    (hq : ∀ h' tk dx t1, InitEnd p s.heap h' x C dx t1 v → R (.ok (.ret .none)) { s with heap := h', toks := tk }) : codeAny (model prog w) A (.call (.ref fI) ⟨[.ref x, v], []⟩) R s := by
  obtain ⟨oc, od, kV, doc, pm, an, cda, ct, osl, qual, sc, cc, p1, p2, a1, a2, a3, a4, a5, a6, b1, b2, b3, b4, txt, j, ho, hcd, ⟨ccl, cdd, vs, ccs, file, tf, hcode, hvs, hfile⟩, ⟨cl, cld, csl, hcell⟩, hk, hco, hgen, hself, hp, hks, hkc, hnc, hline⟩ := T.fn
  have X : K.In s.heap := M.kin.keeps kb
  obtain ⟨hh, g, d, tk, os⟩ := s
  have hpne : p ≠ "self" := T.ps
  have hsp : ("self" : Str) ≠ p := fun z => hpne z.symm
  refine ks_codeAny_call_defAt (fd := fnX "__init__" qual (xA p p1 p2) (xB p txt j a1 a2 a3 a4 a5 a6 b1 b2 b3 b4) sc [("__class__", cc)] .none kV doc pm an (.ref cda) ct) (binds := [("self", .ref x), (p, v)]) hroom (X _ _ ho) rfl (M.nolimit.keeps kb) (codeRec_of X hcd) rfl (BindsTo.of_eq (T.bx _ _ _ _ _ _ _ _ _ _ _ _ _ _)) hnc ?_ (fun h₁ hns k₁ => ?_) hco hgen hk
  · intro y hy
    rcases List.mem_cons.mp hy with rfl | hy
    · exact hself
    · rcases List.mem_cons.mp hy with rfl | hy
      · exact hp
      · cases hy
  have k₁ : ∀ b o, hh.get? b = some o → h₁.get? b = some o := k₁
  have mself : List.lookup ("self" : Str) ([(("self" : Str), Value.ref x), (p, v)] : List (Str × Value)).reverse = some (Value.ref x) := by
    show List.lookup ("self" : Str) [(p, v), ("self", Value.ref x)] = _
    rw [List.lookup_cons, show (("self" : Str) == p) = false from beq_eq_false_iff_ne.mpr hsp]
    rfl
  have mp : List.lookup p ([(("self" : Str), Value.ref x), (p, v)] : List (Str × Value)).reverse = some v := by
    show List.lookup p [(p, v), ("self", Value.ref x)] = _
    rw [List.lookup_cons, show (p == p) = true from beq_self_eq_true p]
  have hL : hh.objs.size ≠ x := Nat.ne_of_gt (Heap.lt_size hx)
  refine PySem.wpAt_mono (exc_body (env := callEnv (fnX "__init__" qual (xA p p1 p2) (xB p txt j a1 a2 a3 a4 a5 a6 b1 b2 b3 b4) sc [("__class__", cc)] .none kV doc pm an (.ref cda) ct) hh.objs.size fI) (Q := fun fl s' => R (.ok (.ret (match fl with | .ret v => v | _ => .none))) s') T M (fun b o e => k₁ b o (kb b o e)) hk hks hkc hself hp rfl rfl rfl (k₁ _ _ (X _ _ ho)) rfl (p1 := p1) rfl rfl (k₁ _ _ (X _ _ hcode)) rfl hvs hfile rfl ⟨_, k₁ _ _ (X _ _ hcell), rfl⟩ hline hns mself mp (k₁ _ _ hx) hL hnx fun h' tk' dx t1 e => ?_) (fun _ _ z => z) fun _ _ z => z
  refine hq h' tk' dx t1 ⟨fun b o hb eo => e.keep b o hb (k₁ b o eo), e.obj, ?_, e.dne, e.ns⟩
  have : hh.objs.size < h₁.objs.size := hns.lt
  exact Nat.le_of_lt (Nat.lt_of_lt_of_le this e.dbig)
/-- such an exception, made -/
structure OwnMade (p : Str) (h h' : Heap) (e C d : Addr) (v : Value) : Prop where
  keep : ∀ b o, h.get? b = some o → h'.get? b = some o
  new : h.objs.size ≤ e
  obj : ∃ oe vs, h'.get? e = some oe ∧ oe.cls = .ref C ∧ oe.dict = some d ∧ oe.data = .fields vs ∧ vs[1]? = some .none
  dbig : h.objs.size ≤ d
  dne : d ≠ e
  ns : h'.Ns1 d (fun y => if y = p then some v else none)
theorem one_size (v : Value) : [v].length ≤ sizeLine := by
  rw [sizeLine_eq]
  exact (by decide : 1 ≤ 16777216)
theorem exc_made {s : Shared} (T : ExcTxt prog K mg C fI p B newId initId bmB) (M : L2.Mod K mg base) (kb : ∀ b o, base.get? b = some o → s.heap.get? b = some o) {v : Value} (hroom : A.depth + 1 < recursionLimit)
    (hq : ∀ h' tk e d, OwnMade p s.heap h' e C d v → R (.ok (.ret (.ref e))) { s with heap := h', toks := tk }) : codeAny (model prog w) A (.call (.ref C) ⟨[v], []⟩) R s := by
  have X : K.In s.heap := M.kin.keeps kb
  obtain ⟨nm, N', qn, bs, bm, hdct, sn, sub, ab, col, dd, k0, k1, k2, k3, k5, hC, hT⟩ := excInit_of X T.q
  obtain ⟨hp, g, dr, tk, os⟩ := s
  have k : ∀ b o, hp.get? b = some o → ((hp.push (kdv_tup [v])).push (HandSPX.excO C hp.objs.size)).get? b = some o := fun b o e => Heap.get?_push_of_some _ (Heap.get?_push_of_some _ e)
  have hget : ((hp.push (kdv_tup [v])).push (HandSPX.excO C hp.objs.size)).get? (hp.objs.size + 1) = some (HandSPX.excO C hp.objs.size) := by heap_get
  have hnx : K.lookup (hp.objs.size + 1) = none := by
    cases e : K.lookup (hp.objs.size + 1) with
    | none => rfl
    | some o =>
      have z : hp.get? (hp.objs.size + 1) = some o := X _ _ e
      exact absurd (Nat.lt_of_succ_lt (Heap.lt_size z)) (Nat.lt_irrefl _)
  refine HandSPX.call_own T.FB hT hC (looks_findIn X T.iC) (fun self => bind_fn X self (beq_iff_eq.mp T.fnI)) (one_size v) ?_
  refine exc_init (s := ⟨(hp.push (kdv_tup [v])).push (HandSPX.excO C hp.objs.size), g, dr, tk, os⟩) T M (fun b o e => k b o (kb b o e)) hget hnx ?_ fun h' tk' dx t1 ⟨k', hx, dn, dne, hns⟩ => ?_
  · show A.depth + 1 < recursionLimit
    exact hroom
  · have old : ∀ b o, hp.get? b = some o → h'.get? b = some o := fun b o e => k' b o (Nat.ne_of_lt (Nat.lt_succ_of_lt (Heap.lt_size e))) (k b o e)
    have z : hp.objs.size + 1 + 1 ≤ dx := by
      first
        | (simpa only [Heap.size_push] using dn)
        | exact dn
        | (have q := dn; rw [Heap.size_push, Heap.size_push] at q; exact q)
    exact ⟨rfl, hq h' tk' (hp.objs.size + 1) dx ⟨old, Nat.le_succ _, ⟨_, _, hx, rfl, rfl, rfl, rfl⟩, Nat.le_trans (Nat.le_trans (Nat.le_succ _) (Nat.le_succ _)) z, dne, hns⟩⟩
end
end DX
namespace L2
open PySem PySem.Spec PyProof.Rows
theorem relO_one {p : Str} {v : V} {v' : Value} (r : RelV v v') (f : Str) : RelO (List.lookup f [(p, v)]) (if f = p then some v' else none) := by
  by_cases hw : f = p
  · subst hw
    rw [if_pos rfl]
    have q : List.lookup f [(f, v)] = some v := by simp [List.lookup]
    rw [q]
    exact r
  · rw [if_neg hw]
    have qw : (f == p) = false := by simpa using hw
    have q2 : List.lookup f [(p, v)] = none := by simp [List.lookup, qw]
    rw [q2]
    trivial
section
variable {X : Cx} {C fI : Addr} {p : Str} {B newId initId : String} {bmB : List Value}
/-- C(e) -/
def tMkX (p : Str) (C : Addr) (ta : TA) : St → Hp → XK → Prop := fun σ H Q => ta σ H fun vs H1 => ∃ v, vs = [v] ∧ ∀ d, H1 d = none → Q (.ref C) (some d) (upd H1 d (.xd [(p, v)]))
theorem pmk_x {x : Str} {a : Expr} {ta : TA} {p' pos : Pos} {k : Nat} (T : DX.ExcTxt X.prog X.K X.mg C fI p B newId initId bmB) (hr : Room k X.A) (ha : PA X [a] ta) (hg : Gl X x) (hm : X.mg x = some (.ref C)) (hdb : (x == ("__debug__" : Str)) = false)
    (he : starEach (a :: []) X.env = (false, eval a X.env) :: starEach [] X.env) : PMk X (.Call (.Name x p') [a] [] pos) (tMkX p C ta) := by
  intro pins s σ H Q I h
  refine wpAny_Call_Name_kw (ld_glob I hg hm ?_ hdb)
  refine PySem.W.callWith_K (h₀ := X.base) I.ok.mod.kin T.kC (thn (ha.run pos pins s σ H _ I h) fun us s1 hh => ?_) he rfl
  obtain ⟨vs, H1, I1, r1, v, ev, q1⟩ := hh
  subst ev
  refine ⟨I1.kIn, ?_⟩
  cases r1 with
  | cons rv rn =>
    rename_i v' us'
    cases rn
    show wpAny _ _ (call (.ref C) [v']) _ _ _
    have e0 := I1.env0
    obtain ⟨hp, g, dr, tk, os⟩ := s1
    refine wpAny_call (DX.exc_made T e0.mod (fun b o e => (e0.bs b o e).1) (by have := hr.dp; omega) fun h' tk' e d M => ?_)
    show MkP X pins σ Q (.ref e) ⟨h', g, dr, tk', os⟩
    obtain ⟨oe, fv, hoe, hc, hd, hdat, h1⟩ := M.obj
    have hns := M.ns
    obtain ⟨G', g1, g2⟩ := restrict h' fun b => decide (b ≠ e)
    have gk : ∀ b, b ≠ e → G'.get? b = h'.get? b := fun b hb => g1 b (decide_eq_true hb)
    have ge : G'.get? e = none := g2 e (by simp)
    have old : ∀ b o, hp.get? b = some o → G'.get? b = some o := fun b o q => (gk b (Nat.ne_of_lt (Nat.lt_of_lt_of_le (Heap.lt_size q) M.new))).trans (M.keep b o q)
    have ob : ObjOk X.prog X.w (upd H1 d (.xd [(p, v)])) G' d (.xd [(p, v)]) :=
      ⟨_, hns.at (fun o q => (gk d M.dne).trans q), fun f => relO_one rv f⟩
    have J : Inv X pins σ (upd H1 d (.xd [(p, v)])) ⟨G', g, dr, tk', os⟩ := I1.laid (t' := tk') old M.dbig ob
    refine ⟨e, oe, fv, ⟨G', g, dr, tk', os⟩, _, .ref C, some d, rfl, J, fun b o q => ?_, ge, hoe, ⟨hc, hd⟩, hdat, h1, ?_, rfl, I1.bare, raises_own T.exC T.tyC, q1 d (I1.hok.fresh M.dbig)⟩
    · by_cases hb : b = e
      · have q' : G'.get? b = some o := q
        rw [hb, ge] at q'; cases q'
      · exact (gk b hb).symm.trans q
    · rw [upd_ne (Ne.symm M.dne)]
      exact I1.hok.fresh M.new
end
end L2
end
section
set_option Elab.async false
set_option linter.all false
set_option maxRecDepth 100000
set_option autoImplicit false
/-! DL: what changes: one's own things and the store's; raise -/
namespace DL
open PySem PySem.Spec L2
open PyProof.Rows hiding St

section
variable {L : Law} {X : Cx} {W : WX} {k : Nat} {e o eo ei tg : Expr} {f fo fi fk fv : ER} {pos pos' p apos tpos : Pos} {x y C : Str} {i : Nat} {c : Cst} {g0 g g1 g2 : G} {env : DEnv} {σ : St} {st : Store}
/-! ### one's own list, dict, instance -/
def sApp (i : Nat) (f : ER) : SR := fun env st => match env[i]? with
  | some (.own (.lst xs)) => liftE env (f env st) fun d s => if xs.length < sizeLine then .nx (env.set i (.own (.lst (xs ++ [d])))) s else .bad
  | _ => .bad
/-- a thing of one's own as it stands later -/
theorem own_at {cl : Cell} (t : Sta c g0 g env σ st) (h : env[i]? = some (.own cl)) : ∃ a, σ[i]? = some (some (.ref a)) ∧ CRep c g cl a := by
  obtain ⟨o, ho, a, rfl, _, _, r⟩ := t.ev.get h
  exact ⟨a, ho, r⟩
theorem s_append (hX : XOw L X) (hN : X.N[i]? = some x) (hv : Vis X.env.scope x) (hn : NmOk x = true) (hs : NoStar e = true) (hline : (apos.endLine == p.line) = true) (h : DE L.c X W e f) :
    DS L.c X W (.Expr (.Call (.Attribute (.Name x tpos) "append" apos) [e] [] p) pos) (sApp i f) := fun g0 g env σ st D t q => by
  unfold sApp at q
  split at q
  · rename_i xs hc
    have hst : starEach [e] X.env = [(false, eval e X.env)] := no_star hs
    refine bS_of (ps_expr (pe_bm (T := "list") F.plainAttrs_list F.slot_list_append F.type_list_append (show MtR X "list.append" rAppend from mt_append) (pe_var hN hv (nm1 hn) (nm2 hn)) (pa_cons pe_b pa_nil hst) rfl (by rw [hst]; rfl) hline hst rfl) rfl) ?_
    obtain ⟨a, ho, vs, ha, rs⟩ := own_at t hc
    refine ⟨.ref a, ho, .inl ⟨rfl, vs, SqL.of ha⟩, ?_⟩
    refine h g env σ st _ t.wf t.ev (PostS.bind t q fun d s g1 v _ x1 t1 r q1 => ?_)
    obtain ⟨a', ho', vs', ha', rs'⟩ := own_at t1 hc
    rw [ho] at ho'; cases ho'
    by_cases hl : xs.length < sizeLine
    · rw [if_pos hl] at q1
      refine ⟨a, vs', v, rfl, rfl, ha', by rw [rs'.length]; exact hl, ?_⟩
      obtain ⟨o', ho2, b, e2, nF, na, _⟩ := t1.ev.get hc
      rw [ho] at ho2; cases ho2
      cases e2
      obtain ⟨t2, l2⟩ := t1.own (o := .lst (vs' ++ [v])) (cl' := .lst (xs ++ [d])) hc ho (fun z => z) ⟨vs' ++ [v], upd_same, (rs'.append (Reps.one r)).le (le_mut (c := L.c) (st := s) nF)⟩
      exact q1 _ σ l2 t2
    · rw [if_neg hl] at q1; exact q1.elim
  · exact q.elim
/-- d[k] = v, d one's own -/
def sPutO (i : Nat) (fk fv : ER) : SR := fun env st => match env[i]? with
  | some (.own (.dct ks)) => liftE env (fv env st) fun d s => liftE env (fk env s) fun k s2 => match keyOf k with
    | some ky => if ks.length < sizeLine then .nx (env.set i (.own (.dct (putD ks ky d)))) s2 else .bad
    | none => .bad
  | _ => .bad
theorem sub_swap {value : Expr} {o i : Expr} {p : Pos} {line : Nat} {env : Env} : swapsWith value (some (.Subscript o i p)) line env = pure false := by
  cases value <;> rfl
theorem att_swap {value : Expr} {o : Expr} {x : Str} {p : Pos} {line : Nat} {env : Env} : swapsWith value (some (.Attribute o x p)) line env = pure false := by
  cases value <;> rfl
theorem s_putO (hX : XOw L X) (hN : X.N[i]? = some x) (hv : Vis X.env.scope x) (hn : NmOk x = true) (hk : DE L.c X W ei fk) (hval : DE L.c X W e fv) : DS L.c X W (.Assign [.Subscript (.Name x tpos) ei pos'] e pos) (sPutO i fk fv) := fun g0 g env σ st D t q => by
  unfold sPutO at q
  split at q
  · rename_i ks hc
    refine bS_of (ps_dput hX.hu1 (pe_var hN hv (nm1 hn) (nm2 hn)) pe_b pe_b sub_swap) ?_
    refine hval g env σ st _ t.wf t.ev (PostS.bind t q fun d s g1 v _ x1 t1 r q1 => ?_)
    obtain ⟨a, ho, _⟩ := own_at t1 hc
    refine ⟨.ref a, ho, ?_⟩
    refine hk g1 env σ s _ t1.wf t1.ev (PostS.bind t1 q1 fun kd s2 g2 vk _ x2 t2 rk q2 => ?_)
    cases hK : keyOf kd with
    | none => rw [hK] at q2; exact q2.elim
    | some ky =>
      rw [hK] at q2
      have e := keyOf_v rk hK
      subst e
      have q2 : PostS L.c W g0 g2 (if ks.length < sizeLine then .nx (env.set i (.own (.dct (putD ks ky d)))) s2 else .bad) D := q2
      by_cases hl : ks.length < sizeLine
      · rw [if_pos hl] at q2
        obtain ⟨o', ho2, b, e2, nF, na, vs, ha, rs⟩ := t2.ev.get hc
        rw [ho] at ho2; cases ho2
        cases e2
        refine ⟨a, _, rfl, DPut.k ha (by rw [rk_len rs]; exact hl), ?_⟩
        obtain ⟨t3, l3⟩ := t2.own (o := .dK (putK vs ky v)) (cl' := .dct (putD ks ky d)) hc ho (fun z => z) ⟨putK vs ky v, upd_same, (rs.put (x2.rep t1.wf r)).le' (le_mut (c := L.c) (st := s2) nF)⟩
        exact q2 _ σ l3 t3
      · rw [if_neg hl] at q2; exact q2.elim
  · exact q.elim
/-- self.f = v, self one's own -/
def putFD (f : Str) (d : D) : List (Str × D) → List (Str × D)
  | [] => [(f, d)]
  | (y, z) :: r => if y = f then (y, d) :: r else (y, z) :: putFD f d r
theorem RepF.put {f : Str} {d : D} {v : V} (r : Rep c g d v) : ∀ {ds : List (Str × D)} {vs : List (Str × V)}, RepF c g ds vs → RepF c g (putFD f d ds) (putF f v vs)
  | [], vs, h => by
    have e : vs = [] := h
    rw [e]; exact ⟨v, [], rfl, r, rfl⟩
  | (y, z) :: ds, _, h => by
    obtain ⟨u, ws, rfl, ru, rs⟩ := h
    unfold putFD putF
    by_cases hy : y = f
    · rw [if_pos hy, if_pos hy]
      exact ⟨v, ws, rfl, r, rs⟩
    · rw [if_neg hy, if_neg hy]
      exact ⟨u, _, rfl, ru, RepF.put r rs⟩
theorem RepF.len : ∀ {ds : List (Str × D)} {vs : List (Str × V)}, RepF c g ds vs → vs.length = ds.length
  | [], vs, h => by
    have e : vs = [] := h
    rw [e]; rfl
  | (y, z) :: ds, _, h => by
    obtain ⟨u, ws, rfl, ru, rs⟩ := h
    rw [List.length_cons, List.length_cons, RepF.len rs]
def sAttO (i : Nat) (C x : Str) (f : ER) : SR := fun env st => match env[i]? with
  | some (.own (.ins y fs)) => liftE env (f env st) fun d s => if y = C ∧ fs.length < 1000 then .nx (env.set i (.own (.ins y (putFD x d fs)))) s else .bad
  | _ => .bad
theorem s_attO (hX : XOw L X) (hF : FldOk L C x) (hN : X.N[i]? = some y) (hv : Vis X.env.scope y) (hn : NmOk y = true) (h : DE L.c X W e f) : DS L.c X W (.Assign [.Attribute (.Name y tpos) x pos'] e pos) (sAttO i C x f) := fun g0 g env σ st D t q => by
  unfold sAttO at q
  split at q
  · rename_i y0 fs hc
    refine bS_of (ps_fld (pe_var hN hv (nm1 hn) (nm2 hn)) pe_b att_swap) ?_
    refine h g env σ st _ t.wf t.ev (PostS.bind t q fun d s g1 v _ x1 t1 r q1 => ?_)
    have q2 : PostS L.c W g0 g1 (if y0 = C ∧ fs.length < 1000 then .nx (env.set i (.own (.ins y0 (putFD x d fs)))) s else .bad) D := q1
    by_cases hl : y0 = C ∧ fs.length < 1000
    · rw [if_pos hl] at q2
      obtain ⟨rfl, hl⟩ := hl
      obtain ⟨o', ho, a, rfl, nF, na, dx, vs, ha, rs⟩ := t1.ev.get hc
      refine ⟨.ref a, ho, a, _, dx, vs, rfl, ha, by rw [hX.K]; exact hF.1, by rw [hX.K]; exact hF.2, by rw [rs.len]; exact hl, ?_⟩
      obtain ⟨t3, l3⟩ := t1.own (o := .ins (L.c.ad y0) dx (putF x v vs)) (cl' := .ins y0 (putFD x d fs)) hc ho (fun z => z) ⟨dx, putF x v vs, upd_same, RepF.le (le_mut (c := L.c) (st := s) nF) _ _ (RepF.put r rs)⟩
      exact q2 _ σ l3 t3
    · rw [if_neg hl] at q2; exact q2.elim
  · exact q.elim

/-! ### the store's things -/
theorem Sta.cell {cl cl' : Cell} {a : Addr} {o : HO} (t : Sta c g0 g env σ st) (hs : st[i]? = some cl) (ha : g.as[i]? = some a) (r : CRep c (g.upd a o) cl' a) : Sta c g0 (g.upd a o) env σ (st.set i cl') ∧ LeS g (g.upd a o) := by
  have w := t.wf
  have am : a ∈ g.as := List.mem_of_getElem? ha
  have nF : ¬ g.F a := w.ca a am
  have l := le_mut (c := c) (st := st) (g := g) (a := a) (o := o) nF
  have hi : i < st.length := (List.getElem?_eq_some_iff.mp hs).1
  refine ⟨⟨⟨t.ext.F, t.ext.as, fun b u hb e => ?_, t.ext.back, fun b hb => t.ext.nn b ?_⟩, ⟨fun b hb => ?_, w.ca, w.nd, by simp [w.len, G.upd], fun j cl2 b h1 h2 => ?_⟩, ?_, t.new⟩, ⟨l, fun b od u f e => (upd_ne (show b ≠ a from fun z => nF (by rw [← z]; exact f))).trans e⟩⟩
  · have n : b ≠ a := fun z => by
      subst z
      obtain ⟨m, e2, hm⟩ := t.ext.as
      rw [e2] at am
      rcases List.mem_append.mp am with h | h
      · exact hb h
      · rw [hm b h] at e; cases e
    rcases t.ext.keep b u hb e with z | ⟨f, kvs, od, e1, z⟩
    · exact .inl ((upd_ne n).trans z)
    · exact .inr ⟨f, kvs, od, e1, (upd_ne n).trans z⟩
  · by_cases z : b = a
    · subst z
      have hb : L2.upd g.H b o b = none := hb
      rw [upd_same] at hb; cases hb
    · exact (upd_ne (H := g.H) (o := o) z).symm.trans hb
  · show L2.upd g.H a o b ≠ none
    by_cases z : b = a
    · subst z; rw [upd_same]; exact fun z => by cases z
    · rw [upd_ne z]; exact w.fa b hb
  · by_cases hj : i = j
    · subst hj
      rw [List.getElem?_set_self hi] at h1
      cases h1
      have h2 : g.as[i]? = some b := h2
      rw [ha] at h2; cases h2
      exact r
    · rw [List.getElem?_set_ne hj] at h1
      have n : b ≠ a := fun z => by
        subst z
        have h2 : g.as[j]? = some b := h2
        have hl : i < g.as.length := (List.getElem?_eq_some_iff.mp ha).1
        exact hj (List.getElem?_inj hl w.nd |>.mp (ha.trans h2.symm))
      exact (w.cr j cl2 b h1 h2).le l (upd_ne n)
  · have ev := t.ev
    refine ⟨ev.len, fun j s u e1 e2 => ?_, ev.own⟩
    have r2 := ev.at_ j s u e1 e2
    cases s with
    | no => trivial
    | val d => obtain ⟨v, e, r2⟩ := r2; exact ⟨v, e, r2.le l⟩
    | own c2 =>
      obtain ⟨b, e, f, n, r2⟩ := r2
      exact ⟨b, e, f, n, r2.le l (upd_ne fun z => n (z ▸ am))⟩
    | exn b c2 fs =>
      obtain ⟨e, dd, vs, f, q, r2⟩ := r2
      exact ⟨e, dd, vs, f, (upd_ne (show dd ≠ a from fun z => nF (by rw [← z]; exact f))).trans q, r2.le l⟩
def cellIx : D → Option Nat
  | .cell i => some i
  | _ => none
/-- xs[k] = v, xs a list of the store -/
def sPutC (fo fi fv : ER) : SR := fun env st => liftE env (fv env st) fun d s => liftE env (fo env s) fun l s1 => liftE env (fi env s1) fun k s2 => match l, k with
  | .cell j, .int n => match s2[j]? with
    | some (.lst xs) => match ixN xs.length n with
      | some m => .nx env (s2.set j (.lst (xs.set m d)))
      | none => .bad
    | _ => .bad
  | _, _ => .bad
theorem reps_set {d : D} {v : V} (r : Rep c g d v) : ∀ {ds : List D} {vs : List V} (m : Nat), Reps c g ds vs → Reps c g (ds.set m d) (vs.set m v)
  | [], vs, m, h => by
    have e : vs = [] := h
    rw [e]; exact rfl
  | z :: ds, _, 0, h => by
    obtain ⟨u, ws, rfl, ru, rs⟩ := h
    exact ⟨v, ws, rfl, r, rs⟩
  | z :: ds, _, m + 1, h => by
    obtain ⟨u, ws, rfl, ru, rs⟩ := h
    exact ⟨u, _, rfl, ru, reps_set r m rs⟩
theorem asg_sub {o i : Expr} {env : Env} {pos : Pos} (h : NoSlice i = true) : ∀ v, assign (.Subscript o i pos) env v = (do
      let ov ← holding [v] (eval o env)
      let iv ← holding [v, ov] (eval i env)
      standAt pos
      holding [v, ov, iv] (setItem ov iv v)
      release [v, ov, iv] []) := by
  intro v
  rw [assign_Subscript]
  cases i <;> first | rfl | cases h
theorem s_putC (hX : XOw L X) (hs : NoSlice ei = true) (ho : DE L.c X W o fo) (hi : DE L.c X W ei fi) (hval : DE L.c X W e fv) : DS L.c X W (.Assign [.Subscript o ei pos'] e pos) (sPutC fo fi fv) := fun g0 g env σ st D t q => by
  refine bS_of (ps_asg pe_b (pg_sub pe_b pe_b set_list (asg_sub hs)) (by show swapsWith e (some (.Subscript o ei pos')) pos.line X.env = pure false; exact sub_swap) rfl rfl) ?_
  refine hval g env σ st _ t.wf t.ev (PostS.bind t q fun d s g1 v h1 x1 t1 r q1 => ?_)
  refine ho g1 env σ s _ t1.wf t1.ev (PostS.bind t1 q1 fun l s1 g2 vl h2 x2 t2 rl q2 => ?_)
  refine hi g2 env σ s1 _ t2.wf t2.ev (PostS.bind t2 q2 fun kd s2 g3 vk h3 x3 t3 rk q3 => ?_)
  have r3 := x3.rep t2.wf (x2.rep t1.wf r)
  have rl3 := x3.rep t2.wf rl
  split at q3
  · rename_i j n
    obtain ⟨a, rfl, ha⟩ := rl3
    have ek : vk = .int n := rk
    subst ek
    split at q3
    · rename_i xs hx
      split at q3
      · rename_i m hm
        obtain ⟨vs, hH, rs⟩ := t3.wf.cr j _ a hx ha
        refine ⟨a, vs, n, m, rfl, rfl, hH, by rw [rs.length]; exact hm, ?_⟩
        have nF : ¬ g3.F a := t3.wf.ca a (List.mem_of_getElem? ha)
        obtain ⟨t4, l4⟩ := t3.cell (o := .lst (vs.set m v)) (cl' := .lst (xs.set m d)) hx ha ⟨_, upd_same, (reps_set r3 m rs).le (le_mut (c := L.c) (st := s2) nF)⟩
        exact q3 _ σ l4 t4
      · exact q3.elim
    · exact q3.elim
  · exact q3.elim

/-! ### raise -/
/-- an own exception class of one argument -/
def ExcOk (L : Law) (C x : Str) : Prop := ∃ (fI : Addr) (B newId initId : String) (bmB : List Value), DX.ExcTxt L.P L.c.K L.mg (L.c.ad C) fI x B newId initId bmB
def sRaise (C x : Str) (f : ER) : SR := fun env st => liftE env (f env st) fun d s => .exc C [(x, d)] env s
theorem s_raise (hX : SOk L X W k) (hE : ExcOk L C x) (hg : Gl X C) (hm : NmTo L C) (hn : NmOk C = true) (hs : NoStar e = true) (h : DE L.c X W e f) : DS L.c X W (.Raise (some (.Call (.Name C p) [e] [] pos')) none pos) (sRaise C x f) := fun g0 g env σ st D t q => by
  obtain ⟨fI, B, newId, initId, bmB, T⟩ := hE
  have hst : starEach [e] X.env = (false, eval e X.env) :: starEach [] X.env := no_star hs
  have T' : DX.ExcTxt X.prog X.K X.mg (L.c.ad C) fI x B newId initId bmB := by rw [hX.x.P, hX.x.K, hX.x.mg]; exact T
  refine bS_of (ps_raise hX.x.calm hX.tk (pmk_x T' hX.x.room (pa_cons pe_b pa_nil hst) hg (hm.at hX.x) (nm1 hn) hst)) ?_
  refine h g env σ st _ t.wf t.ev (PostS.bind t q fun d s g1 v _ x1 t1 r q1 => ⟨v, rfl, fun dd hd => ?_⟩)
  obtain ⟨x2, w2⟩ := new_frz (o := .xd [(x, v)]) t1.wf hd
  exact q1 _ dd _ σ (x2.leS t1.wf) (t1.later x2 w2) (.inr rfl) upd_same ⟨v, [], rfl, r.le (le_new t1.wf hd), rfl⟩
end
end DL
end
section
set_option Elab.async false
set_option linter.all false
set_option maxRecDepth 100000
set_option maxHeartbeats 2000000
set_option autoImplicit false
/-! DL: except suites -/
namespace DX
open PySem PySem.W PySem.Spec PySem.Calls PyProof.Rows
section
variable {prog : Program} {w : World} {A : Around} {E : Value → Shared → Prop} {s : Shared} {K : Frag} {x D : Addr} {ox : Obj} {od : Obj}
theorem kin_classX {Q : Option Value → Shared → Prop} (C : L2.ExcC K D) (X : K.In s.heap) (I : InstAt s.heap x ox D (some od)) (h : Q (some (.ref D)) { s with toks := s.toks + 1 }) : wpAny (model prog w) A (getAttr? (.ref x) "__class__") Q E s := by
  obtain ⟨hga, hgt, hsub, hdct, ha, hn, htk, hm⟩ := C
  have hf : findObj K D (some od) "__class__" = some (.bind (.builtin "getset_descriptor.__get__") (.builtin "object.__class__")) := findObj_data (by obtain ⟨cd, hc, _⟩ := any_some hdct; rw [hc]; rfl) ha hn htk
  obtain ⟨hp, g, d, t, os⟩ := s
  have L0 := I.type (M := model prog w)
  have L1 := looks_findIn (M := model prog w) X hga
  have L2 := looks_findIn (M := model prog w) X hgt
  have L3 := looks_find (M := model prog w) X I hf
  have sub : Looks (model prog w) hp (isInstance (.ref x) (.type "BaseException")) true := L0.andThen (looks_subIn X hsub)
  have hx0 : (false && onTheHeap (Value.builtin "BaseException.__getattribute__")) = false := rfl
  have hx2 : (Value.builtin "BaseException.__getattribute__" == Value.builtin "object.__getattribute__") = false := by decide +kernel
  have hx1 : (onTheHeap (Value.ref D) && Value.builtin "BaseException.__getattribute__" == Value.builtin "object.__getattribute__") = false := by rw [hx2]; rfl
  unfold getAttr? getAttrBy? getAttrBy
  refine wpAny_bind (wpAny_mkText (wpAny_bind (wpAny_attempt (wpAny_holding (wpAny_bind (L0.at (wpAny_bind (L1.at ?_))))))))
  show wpAny _ _ (if (onTheHeap (Value.ref D) && Value.builtin "BaseException.__getattribute__" == Value.builtin "object.__getattribute__") = true then _ else _) _ _ _
  rw [hx1, if_neg Bool.false_ne_true]
  unfold getAttrByItsOwn hookBefore
  refine wpAny_bind ?_
  rw [if_pos (show onTheHeap (Value.ref D) = true from rfl)]
  refine L2.at ?_
  refine wpAny_bind (wpAny_attempt (wpAny_holding ?_))
  unfold callGetattribute
  rw [hx0, if_neg Bool.false_ne_true]
  unfold boundAndCalled
  rw [PySem.F.excAttr_ValueError.ga.bind (.ref x)]
  refine wpAny_bind (wpAny_pure ?_)
  show wpAny _ _ (call (.builtin "BaseException.__getattribute__") [.ref x, .str "__class__" t]) _ _ _
  refine wpAny_call (codeAny_call_builtin PySem.F.excAttr_ValueError.ga.plain PySem.F.entry_bexc_ga ?_)
  refine @check_slot (model prog w) _ _ ⟨hp, g, d, t + 1, os⟩ "BaseException.__getattribute__" "BaseException" "__getattribute__" (.ref x) [.str "__class__" t] [] _ (by decide +kernel) (by decide +kernel) sub (PySem.F.args_bexc_ga (.ref x) (.str "__class__" t)) ?_
  unfold Builtin.«object.__getattribute__»
  refine wpAny_bind (wpAny_of_eq (a := ((Value.ref x : Value), [Value.str "__class__" t])) (by first | rfl | (simp only [slotArgs]; rfl)) ?_)
  refine wpAny_bind (wpAny_pure (wpAny_bind (L0.at (wpAny_bind (L3.at ?_)))))
  show wpAny _ _ (holding [Value.builtin "object.__class__"] (call (.builtin "getset_descriptor.__get__") [.builtin "object.__class__", .ref x, .ref D]) >>= ret) _ _ _
  refine wpAny_bind (wpAny_holding (wpAny_call (class_get (s := ⟨hp, g, d, t + 1, os⟩) (ox := ox) (od := some od) X I hm ?_)))
  refine wpAny_pure ?_
  show wpAny _ _ (handedOut (.ref D)) _ _ _
  rw [handedOut_of (v := .ref D) rfl]
  first
    | exact wpAny_pure (wpAny_pure h)
    | exact wpAny_pure h
    | exact wpAny_pure (wpAny_bind (wpAny_pure (wpAny_pure h)))
theorem kitx_exc (C : L2.ExcC K D) : KitX K (.ref x) (.ref D) (fun h => InstAt h x ox D (some od)) where
  ty := fun _ _ _ I => I.type
  it := fun _ _ X _ => by
    obtain ⟨cdD, hcD, _⟩ := any_some C.hd
    unfold clsIn at hcD
    split at hcD
    · rename_i c' d' cd' sl' ho
      intro A' Q' E' s' k q
      unfold isType loadHead
      exact wpAny_bind (wpAny_loadPart (k _ _ (X _ _ ho)) (wpAny_pure q))
    · cases hcD
  ne := fun h tp dd its n sl X htp => by
    obtain ⟨cdD, hcD, _⟩ := any_some C.hd
    refine Bool.eq_false_iff.mpr fun q => ?_
    have e : D = tp := Value.ref.inj (beq_iff_eq.mp q)
    subst e
    unfold clsIn at hcD
    split at hcD
    · rename_i c' d' cd' sl' ho
      have z := (X _ _ ho).symm.trans htp
      cases z
    · cases hcD
  ca := fun X I k => kin_classX C X I k
end
end DX
namespace DL
open PySem PySem.Spec L2
open PyProof.Rows hiding St
section
variable {L : Law} {X : Cx} {W : WX} {k : Nat} {S : Sig}
/-- isinstance(e, c), e the caught exception with a dict -/
def rIsX (K : PySem.W.Frag) (D a dd : Addr) : List V → Hp → VK → Prop := fun xs H Q => ∃ (c : V) (cv : Value) (b : Bool) (fs : List (Str × V)), xs = [.ref a, c] ∧ ClsV c cv ∧ PySem.W.kitOne K (.ref D) cv = some b ∧ H dd = some (.xd fs) ∧ Q (.bl b) H
theorem call_isX {a D dd : Addr} {oe : Obj} {pn : List (Addr × Obj)} (C : ExcC X.K D) (hz : Zc (.ref D) (some dd) oe) (hf : ∃ vs, oe.data = .fields vs) : CallR (X.suite a ((a, oe) :: pn)) (.builtin "isinstance") (rIsX X.K D a dd) := by
  intro pins s σ H xs us Q I r h
  obtain ⟨c, cv, b, fs, rfl, hcv, e, hdd, q⟩ := h
  obtain ⟨u1, u2, rfl, r1, r2⟩ := vals2 r
  cases r1
  have ec := hcv.eq r2
  subst ec
  obtain ⟨hget, _⟩ := I.pin (a, oe) (List.mem_append.mpr (.inl List.mem_cons_self))
  obtain ⟨vs, hv⟩ := hf
  have hx : ObjOk X.prog X.w H s.heap dd (.xd fs) := I.hok dd _ hdd
  obtain ⟨mA, hns, hr⟩ := hx
  obtain ⟨od, ho, hl⟩ := lookIn_ns hns
  have J : PySem.W.InstAt s.heap a oe D (some od) := ⟨hget, hz.1, by unfold PySem.W.notCls; rw [hv] <;> rfl, by rw [hz.2]; exact ho⟩
  exact PySem.W.kia_one (DX.kitx_exc C) I.kIn J e (fun z => nomatch z) fun tk => ⟨.bl b, H, I.kept (t' := tk) fun _ _ z => z, rfl, q⟩
end
end DL
end
section
set_option Elab.async false
set_option linter.all false
set_option maxRecDepth 100000
set_option maxHeartbeats 1000000
set_option autoImplicit false
/-! DL: try, a thing of one's own that comes to be known, defs -/
namespace DL
open PySem PySem.Spec L2
open PyProof.Rows hiding St
section
variable {L : Law} {X : Cx} {W : WX} {k : Nat} {x : Str} {cv : Value} {body suite ss : List Stmt} {b₀ : Stmt} {np pos pos' : Pos} {fb fh fs : SR} {i : Nat}
def noexcS : SO → SO
  | .exc _ _ _ _ => .bad
  | o => o
/-- except x: a class's exceptions are caught, or not, or nothing is said -/
abbrev Exm := Str → Option Bool
def ExmOk (L : Law) (cv : Value) (m : Exm) : Prop := ∀ y b, m y = some b → PySem.W.exmOne L.c.K (.ref (L.c.ad y)) cv = some b
def sTry (m : Exm) (fb fh : SR) : SR := fun env st => match fb env st with
  | .exc y fs env' s' => (match m y with
    | some true => noexcS (fh env' s')
    | some false => .exc y fs env' s'
    | none => .bad)
  | o => o
def noWX : WX := fun _ _ _ _ => False
theorem s_try {m : Exm} (hX : SOk L X W k) (hc : Names X x cv) (he : ExmOk L cv m)
    (hb : ∀ (W' : WX) pn xe, Takes (X.tr pn xe) W' → PassesOwn (model X.prog X.w) X.A X.env xe → DSs L.c (X.tr pn xe) W' body fb) (hh : ∀ a oe pn, DSs L.c (X.suite a ((a, oe) :: pn)) noWX (b₀ :: suite) fh) :
    DS L.c X W (.Try body [.ExceptHandler (some (.Name x np)) none (b₀ :: suite) pos'] [] [] pos) (sTry m fb fh) := fun g0 g env σ st D t q => by
  refine bS_of (ps_try_only (tb := fun W' D σ H => ∀ pn xe, Takes (X.tr pn xe) W' → PassesOwn (model X.prog X.w) X.A X.env xe → bSs (X.tr pn xe) body D σ H)
    (ts := fun a _ _ D σ H => ∀ oe pn, bSs (X.suite a ((a, oe) :: pn)) (b₀ :: suite) D σ H) (Wout := W) hX.hs hX.hf hc hX.tk (fun W' pn xe tk po => ⟨fun pins s σ H D I h => h pn xe tk po pins s I⟩) (fun a oe cls d pn _ _ => ⟨fun pins s σ H D I h => h oe pn pins s I⟩)) ?_
  intro pn xe tk po
  refine hb _ pn xe tk po g0 g env σ st D t ?_
  unfold sTry at q
  cases hf : fb env st with
  | exc y fs env' s' =>
    rw [hf] at q
    intro g' dd vs σ' l t' f h r
    cases hm : m y with
    | none => simp only [hm] at q; exact q.elim
    | some b =>
      refine ⟨b, by rw [hX.x.K]; exact he y b hm, fun hb => ?_, fun hb => ?_⟩
      · subst hb
        simp only [hm] at q
        refine fun a na oe pn => hh a oe pn g0 g' env' σ' s' D t' (PostS.later ?_ l)
        cases ho : fh env' s' with
        | exc _ _ _ _ => rw [ho] at q; exact q.elim
        | _ => rw [ho] at q; exact q
      · subst hb
        simp only [hm] at q
        exact q g' dd vs σ' l t' f h r
  | _ => rw [hf] at q; exact q

/-! except x as e: return [..] -/
/-- a class by its name: one of the text, or a built-in one -/
inductive Nm where
  | own (x : Str) | ty (x : Str) (n : String)
inductive HE where
  | txt (x : Str) | fld (f : Str) | isa (C : Nm) (m : List (Str × Bool)) | isaN (C C2 : Nm) (m m2 : List (Str × Bool))
def heD (y : Str) (fs : List (Str × D)) (st : Store) : HE → Option D
  | .txt x => some (.str x)
  | .fld f => (fs.lookup f).bind fun d => reprF st [d]
  | .isa _ m => (m.lookup y).map .bl
  | .isaN _ _ m m2 => (m.lookup y).bind fun b => (m2.lookup y).map fun b2 => .bl (b && !b2)
def hesD (y : Str) (fs : List (Str × D)) (st : Store) : List HE → Option (List D)
  | [] => some []
  | h :: hs => match heD y fs st h, hesD y fs st hs with
    | some d, some ds => some (d :: ds)
    | _, _ => none
def sTryAs (i : Nat) (m : Exm) (hes : List HE) (fb : SR) : SR := fun env st => match fb env st with
  | .exc y fs env' s' => (match m y with
    | some true => (match hesD y fs s' hes with
      | some ds => if i < env'.length ∧ ds.length ≤ sizeLine then .rt (.lst ds) s' else .bad
      | none => .bad)
    | some false => .exc y fs env' s'
    | none => .bad)
  | o => o
/-- e's value, and no other change -/
def Pure (X : Cx) (e : Expr) (σ : St) (H : Hp) (v : V) : Prop := ∀ Q : VK, Q v H → bE X e σ H Q
def PureA (X : Cx) (es : List Expr) (σ : St) (H : Hp) (vs : List V) : Prop := ∀ Q : List V → Hp → Prop, Q vs H → bA X es σ H Q
theorem pureA_nil {σ : St} {H : Hp} : PureA X [] σ H [] := fun Q q => bA_of pa_nil q
theorem pureA_cons {σ : St} {H : Hp} {e : Expr} {es : List Expr} {v : V} {vs : List V} (hs : NoStar e = true) (h : Pure X e σ H v) (hr : PureA X es σ H vs) : PureA X (e :: es) σ H (v :: vs) := fun Q q =>
  bA_of (pa_cons pe_b pa_b (no_star hs)) (h _ (hr _ q))
end

/-! ### a thing of one's own becomes a thing of the store -/
section
variable {c : Cst} {g0 g g1 g2 : G} {env : DEnv} {σ : St} {st s : Store} {W : WX}
def G.reg (g : G) (a : Addr) : G := { g with as := g.as ++ [a] }
theorem le_reg (g : G) (a : Addr) : Le g (g.reg a) := ⟨fun _ h => h, fun _ _ _ _ h => h, fun _ _ _ _ _ h => h, ⟨[a], rfl⟩⟩
theorem leS_reg (g : G) (a : Addr) : LeS g (g.reg a) := ⟨le_reg g a, fun _ _ _ _ h => h⟩
theorem Wf.reg (w : Wf c g st) {a : Addr} {cl : Cell} (nF : ¬ g.F a) (na : a ∉ g.as) (r : CRep c g cl a) : Wf c (g.reg a) (st ++ [cl]) := by
  refine ⟨w.fa, fun b hb => ?_, ?_, ?_, fun i o b h1 h2 => ?_⟩
  · rcases List.mem_append.mp hb with hb | hb
    · exact w.ca b hb
    · rw [List.mem_singleton.mp hb]; exact nF
  · show (g.as ++ [a]).Nodup
    rw [List.nodup_append]
    exact ⟨w.nd, by simp, fun x hx y hy e => by rw [List.mem_singleton.mp hy] at e; exact na (e ▸ hx)⟩
  · show (g.as ++ [a]).length = _
    rw [List.length_append, List.length_append, w.len]; rfl
  · have h2 : (g.as ++ [a])[i]? = some b := h2
    rcases Nat.lt_or_ge i st.length with hi | hi
    · rw [List.getElem?_append_left hi] at h1
      rw [List.getElem?_append_left (by rw [w.len]; exact hi)] at h2
      exact (w.cr i o b h1 h2).le (le_reg g a) rfl
    · rw [List.getElem?_append_right hi] at h1
      rw [List.getElem?_append_right (by rw [w.len]; exact hi), w.len] at h2
      have hz : i - st.length = 0 := by
        have := (List.getElem?_eq_some_iff.mp h1).1
        simpa using this
      rw [hz] at h1 h2
      cases h1; cases h2
      exact r.le (le_reg g a) rfl
theorem Sta.reg (t : Sta c g0 g env σ st) {i : Nat} {cl : Cell} (h : env[i]? = some (.own cl)) : ∃ a, Sta c g0 (g.reg a) (env.set i (.val (.cell st.length))) σ (st ++ [cl]) ∧ LeS g (g.reg a) := by
  obtain ⟨o, ho, a, rfl, nF, na, r⟩ := t.ev.get h
  have ev := t.ev
  have hi : i < σ.length := (List.getElem?_eq_some_iff.mp ho).1
  have h0 := (t.new i cl a h ho).1
  have nj : ∀ {j : Nat} {cj : Cell}, (env.set i (Slot.val (.cell st.length)))[j]? = some (Slot.own cj) → i ≠ j ∧ env[j]? = some (Slot.own cj) := fun {j cj} e => by
    by_cases hj : i = j
    · subst hj
      have hi' : i < env.length := by simpa using (List.getElem?_eq_some_iff.mp e).1
      rw [List.getElem?_set_self hi'] at e
      cases e
    · exact ⟨hj, by rwa [List.getElem?_set_ne hj] at e⟩
  refine ⟨a, ⟨?_, t.wf.reg nF na r, ⟨by simp [ev.len], fun j s o e1 e2 => ?_, fun j k cj ck b e1 e2 e3 e4 => ev.own j k cj ck b (nj e1).2 (nj e2).2 e3 e4⟩, fun j cj b e1 e2 => t.new j cj b (nj e1).2 e2⟩, leS_reg g a⟩
  · obtain ⟨m, e, hm⟩ := t.ext.as
    refine ⟨t.ext.F, ⟨m ++ [a], by show g.as ++ [a] = _; rw [e, List.append_assoc], fun b hb => ?_⟩, t.ext.keep, t.ext.back, t.ext.nn⟩
    rcases List.mem_append.mp hb with hb | hb
    · exact hm b hb
    · rw [List.mem_singleton.mp hb]; exact h0
  · by_cases hj : i = j
    · subst hj
      have hi' : i < env.length := by simpa using (List.getElem?_eq_some_iff.mp e1).1
      rw [List.getElem?_set_self hi'] at e1
      cases e1
      rw [ho] at e2; cases e2
      exact ⟨_, rfl, a, rfl, by show (g.as ++ [a])[st.length]? = some a; rw [← t.wf.len]; simp⟩
    · rw [List.getElem?_set_ne hj] at e1
      have rj := ev.at_ j s o e1 e2
      cases s with
      | no => trivial
      | val d => obtain ⟨v, e, r⟩ := rj; exact ⟨v, e, r.le (le_reg g a)⟩
      | own cj =>
        obtain ⟨b, e, f, n, rb⟩ := rj
        refine ⟨b, e, f, fun z => ?_, rb.le (le_reg g a) rfl⟩
        rcases List.mem_append.mp z with z | z
        · exact n z
        · have z := List.mem_singleton.mp z
          subst z; subst e
          exact hj (ev.own i j cl cj _ h e1 ho e2)
      | exn b cj fs =>
        obtain ⟨e, dd, vs, f, q, rb⟩ := rj
        exact ⟨e, dd, vs, f, q, rb.le (le_reg g a)⟩
def sReg (i : Nat) (fr : SR) : SR := fun env st => match env[i]? with
  | some (.own cl) => fr (env.set i (.val (.cell st.length))) (st ++ [cl])
  | _ => .bad
theorem ss_reg {X : Cx} {ss : List Stmt} {fs : SR} {i : Nat} (h : DSs c X W ss fs) : DSs c X W ss (sReg i fs) := fun g0 g env σ st D t q => by
  unfold sReg at q
  split at q
  · rename_i cl hc
    obtain ⟨a, t', l⟩ := t.reg hc
    exact h g0 (g.reg a) _ σ _ D t' (PostS.later q l)
  · exact q.elim
end
end DL
end
section
set_option Elab.async false
set_option linter.all false
set_option maxRecDepth 100000
set_option maxHeartbeats 1000000
set_option autoImplicit false
/-! DL: defs and classes -/
namespace DL
open PySem PySem.Spec L2
open PyProof.Rows hiding St
section
variable {L : Law} {X : Cx} {W : WX} {k : Nat} {e : Expr} {c : Cst}
/-- a new thing comes to be known at once -/
def fReg (f : FR) : ER := fun env st => (f env st).bind fun cl s => .ok (.cell s.length) (s ++ [cl])
theorem Ext.reg {g g1 : G} {a : Addr} (x : Ext g g1) (h : g.H a = none) : Ext g (g1.reg a) := by
  obtain ⟨m, e, hm⟩ := x.as
  refine ⟨x.F, ⟨m ++ [a], by show g1.as ++ [a] = _; rw [e, List.append_assoc], fun b hb => ?_⟩, x.keep, x.back, x.nn⟩
  rcases List.mem_append.mp hb with hb | hb
  · exact hm b hb
  · rw [List.mem_singleton.mp hb]; exact h
theorem rep_reg {g1 : G} {s : Store} {a : Addr} {cl : Cell} (w : Wf c g1 s) : Rep c (g1.reg a) (.cell s.length) (.ref a) := ⟨a, rfl, by show (g1.as ++ [a])[s.length]? = some a; rw [← w.len]; simp⟩
theorem DF.dc {f : FR} (h : DF c X W e f) : DE c X W e (fReg f) := fun g env σ st Q w ev p => by
  refine h g env σ st Q w ev (PostR.bind p fun cl s g1 v x1 w1 r q => ?_)
  obtain ⟨a, rfl, n0, nF, na, r⟩ := r
  exact q (g1.reg a) (.ref a) (x1.reg n0) (w1.reg nF na r) (rep_reg (cl := cl) w1)

/-! ### a def -/
def envOf (n : Nat) (ds : List D) : DEnv := ds.map .val ++ List.replicate (n - ds.length) .no
def fnM (n : Nat) (fb : SR) : FnM := fun ds st => match fb (envOf n ds) st with
  | .rt d s => .ok d s
  | .nx _ s => .ok .non s
  | .exc x fs _ s => .exc x fs s
  | _ => .bad
theorem start_env {g : G} {N : List Str} {ds : List D} {vs : List V} (r : Reps c g ds vs) (hl : vs.length ≤ N.length) : EnvR c g (envOf N.length ds) (L2.start N vs) := by
  have hv := r.length
  unfold envOf L2.start
  refine ⟨by simp [hv], fun i s o e1 e2 => ?_, fun i j ci cj a e1 => ?_⟩
  · rcases Nat.lt_or_ge i ds.length with hi | hi
    · rw [List.getElem?_append_left (by simpa using hi), List.getElem?_map] at e1
      rw [List.getElem?_append_left (by rw [List.length_map, hv]; exact hi), List.getElem?_map] at e2
      obtain ⟨d, hd⟩ : ∃ d, ds[i]? = some d := ⟨_, List.getElem?_eq_getElem hi⟩
      obtain ⟨v, hv', rv⟩ := r.get hd
      rw [hd] at e1; rw [hv'] at e2
      cases e1; cases e2
      exact ⟨v, rfl, rv⟩
    · rw [List.getElem?_append_right (by simpa using hi)] at e1
      rw [List.getElem?_replicate] at e1
      split at e1
      · cases e1; trivial
      · cases e1
  · rcases Nat.lt_or_ge i ds.length with hi | hi
    · rw [List.getElem?_append_left (by simpa using hi), List.getElem?_map] at e1
      cases hd : ds[i]? with
      | none => rw [hd] at e1; cases e1
      | some d => rw [hd] at e1; cases e1
    · rw [List.getElem?_append_right (by simpa using hi)] at e1
      rw [List.getElem?_replicate] at e1
      split at e1 <;> cases e1
/-- what is told of the context of a def's body -/
structure DefCx (X : Cx) (N : List Str) (scope : Scope) : Prop where
  N : X.N = N
  sc : X.env.scope = scope
  fn : X.fn = fun _ => true
theorem fnOk {x qual : Str} {params : Arguments} {body : List Stmt} {scope : Scope} {dvs : List V} {kws : List (Str × V)} {f : Addr} {fd : FuncData} {N ps : List Str} {fb : SR} (F : FunD L.c.K x qual params body scope dvs kws f fd) (S : FnScope N ps scope)
    (hb : ∀ X W, SOk L X W k → DefCx X N scope → DSs L.c X W body fb) : FnOk L.P L.w L.c.K L.mg L.base (CX L.P L.w) (k + 1) f fd ps (DSp L ps.length (fnM N.length fb)) := by
  have hpl : ps.length ≤ N.length := by have := congrArg List.length S.pre; rw [List.length_take] at this; omega
  refine F.ok S (fun vs H Q E h => ?_) (fun cdv A outer s H vs Q E hr h => ?_)
  · obtain ⟨_, _, _, _, hl, _⟩ := h
    exact hl
  · obtain ⟨g, ds, st, rfl, hl, w, rs, q⟩ := h
    refine ⟨_, pss_b, ?_⟩
    let X := cxOf (CX L.P L.w) L.P L.w L.c.K L.mg L.base N qual scope f cdv A outer s g.H E
    have so : SOk L X (fun cls d _ H => E cls d H) k := by
      refine ⟨⟨⟨rfl, rfl, rfl, rfl, rfl, ?_, S.nd⟩, rfl, hr⟩, takes_of rfl rfl rfl rfl, passes_of (K := fun e s'' => CX L.P L.w outer g.H s E e s'') (E₁ := fun e' s'' => CX L.P L.w outer g.H s E e' s'') rfl, rfl, rfl, rfl⟩
      have := hr.un
      show (A.deeper (envOfC qual scope s.heap.objs.size f cdv)).units + 64 < cLine
      omega
    have t : Sta L.c g g (envOf N.length ds) (L2.start N vs) st := ⟨Ext.refl g, w, start_env rs (by omega), fun i cl a e _ => by
      exfalso
      unfold envOf at e
      rcases Nat.lt_or_ge i ds.length with hi | hi
      · rw [List.getElem?_append_left (by simpa using hi), List.getElem?_map] at e
        cases hd : ds[i]? with
        | none => rw [hd] at e; cases e
        | some d => rw [hd] at e; cases e
      · rw [List.getElem?_append_right (by simpa using hi), List.getElem?_replicate] at e
        split at e <;> cases e⟩
    refine hb X _ so ⟨rfl, rfl, rfl⟩ g g _ _ st _ t ?_
    unfold PostX fnM at q
    cases hf : fb (envOf N.length ds) st with
    | nx env' s' => rw [hf] at q; exact fun g' σ' l t' => q g' .non t'.ext t'.wf rfl
    | rt d s' => rw [hf] at q; exact fun g' v l x w' r => q g' v x w' r
    | bk _ _ => rw [hf] at q; exact q.elim
    | ct _ _ => rw [hf] at q; exact q.elim
    | exc y fs env' s' => rw [hf] at q; exact fun g' dd vs σ' l t' h1 h2 r => q g' dd vs t'.ext t'.wf h1 h2 r
    | bad => rw [hf] at q; exact q.elim

/-! ### a class whose instances are made by __init__ -/
/-- self is a thing of one's own while __init__ runs; then it is frozen, or comes to be known -/
def selfEnv (C : Str) (n : Nat) (ds : List D) : DEnv := .own (.ins C []) :: envOf (n - 1) ds
def mkM (C : Str) (n : Nat) (froz : Bool) (fb : SR) : FnM := fun ds st =>
  let fin : DEnv → Store → Out D := fun env s => match env with
    | .own (.ins c fs) :: _ => if c = C then (if froz = true then .ok (.obj c fs) s else .ok (.cell s.length) (s ++ [.ins c fs])) else .bad
    | _ => .bad
  match fb (selfEnv C n ds) st with
  | .nx env s => fin env s
  | .exc x fs _ s => .exc x fs s
  | _ => .bad

/-- what __init__ promises -/
def ISp (L : Law) (C : Str) (n N : Nat) (froz : Bool) (fb : SR) : Sp := fun vs H Q E => ∃ g ds st a dx vs', vs = .ref a :: vs' ∧ vs.length = n ∧ g.H a = none ∧ g.H dx = none ∧ dx ≠ a ∧ H = L2.upd (L2.upd g.H dx (.own a)) a (.ins (L.c.ad C) dx []) ∧ Wf L.c g st ∧ Reps L.c g ds vs' ∧
  PostX L.c g E (mkM C N froz fb ds st) (fun v H' => v = .ref a → Q .non H')
theorem initOk {x qual C : Str} {params : Arguments} {body : List Stmt} {scope : Scope} {dvs : List V} {kws : List (Str × V)} {f : Addr} {fd : FuncData} {N ps : List Str} {froz : Bool} {fb : SR} (F : FunD L.c.K x qual params body scope dvs kws f fd) (S : FnScope N ps scope)
    (hb : ∀ X W, SOk L X W k → DefCx X N scope → DSs L.c X W body fb) : FnOk L.P L.w L.c.K L.mg L.base (CX L.P L.w) (k + 1) f fd ps (ISp L C ps.length N.length froz fb) := by
  have hpl : ps.length ≤ N.length := by have := congrArg List.length S.pre; rw [List.length_take] at this; omega
  refine F.ok S (fun vs H Q E h => ?_) (fun cdv A outer s H vs Q E hr h => ?_)
  · obtain ⟨_, _, _, _, _, _, _, hl, _⟩ := h
    exact hl
  · obtain ⟨g, ds, st, a, dx, vs', rfl, hl, ha, hdx, hne, rfl, w, rs, q⟩ := h
    refine ⟨_, pss_b, ?_⟩
    -- the states
    let g0 : G := { g with me := some a }
    let g1 : G := (g0.upd dx (.own a)).upd a (.ins (L.c.ad C) dx [])
    have ha1 : (g0.upd dx (.own a)).H a = none := by show L2.upd g.H dx (.own a) a = none; rw [upd_ne (Ne.symm hne)]; exact ha
    have l0 : Le g g0 := ⟨fun _ h => h, fun _ _ _ _ h => h, fun _ _ _ _ _ h => h, ⟨[], by simp [g0]⟩⟩
    have w0 : Wf L.c g0 st := ⟨w.fa, w.ca, w.nd, w.len, fun i o b h1 h2 => CRep.le (g := g) l0 (w.cr i o b h1 h2) rfl⟩
    have w1 : Wf L.c g1 st := (w0.upd hdx).upd ha1
    have x1 : Ext g0 g1 := (Ext.upd (g := g0) hdx).trans (Ext.upd (g := g0.upd dx (.own a)) ha1)
    let X := cxOf (CX L.P L.w) L.P L.w L.c.K L.mg L.base N qual scope f cdv A outer s g1.H E
    have so : SOk L X (fun cls d _ H => E cls d H) k := by
      refine ⟨⟨⟨rfl, rfl, rfl, rfl, rfl, ?_, S.nd⟩, rfl, hr⟩, takes_of rfl rfl rfl rfl, passes_of (K := fun e s'' => CX L.P L.w outer g1.H s E e s'') (E₁ := fun e' s'' => CX L.P L.w outer g1.H s E e' s'') rfl, rfl, rfl, rfl⟩
      have := hr.un
      show (A.deeper (envOfC qual scope s.heap.objs.size f cdv)).units + 64 < cLine
      omega
    have hlen : vs'.length + 1 = ps.length := hl
    have hN : N.length = (N.length - 1) + 1 := by omega
    have nF : ¬ g1.F a := fun z => w.fa a z ha
    have na : a ∉ g1.as := fun z => by obtain ⟨u, hu⟩ := w.th z; rw [ha] at hu; cases hu
    have hs : L2.start N (.ref a :: vs') = some (.ref a) :: L2.start (N.drop 1) vs' := by
      unfold L2.start
      simp
      omega
    have ev' : EnvR L.c g1 (envOf (N.length - 1) ds) (L2.start (N.drop 1) vs') := by
      have := start_env (N := N.drop 1) (rs.le (l0.trans (x1.le w0))) (by simp; omega)
      simpa using this
    have own0 : ∀ (i : Nat) (cl : Cell), (envOf (N.length - 1) ds)[i]? ≠ some (Slot.own cl) := fun i cl e => by
      unfold envOf at e
      rcases Nat.lt_or_ge i ds.length with hi | hi
      · rw [List.getElem?_append_left (by simpa using hi), List.getElem?_map] at e
        cases hd : ds[i]? with
        | none => rw [hd] at e; cases e
        | some d => rw [hd] at e; cases e
      · rw [List.getElem?_append_right (by simpa using hi), List.getElem?_replicate] at e
        split at e <;> cases e
    have t : Sta L.c g0 g1 (selfEnv C N.length ds) (L2.start N (.ref a :: vs')) st := by
      rw [hs]
      refine ⟨x1, w1, ⟨by show (L2.start (N.drop 1) vs').length + 1 = (envOf (N.length - 1) ds).length + 1; rw [ev'.len], fun i s o e1 e2 => ?_, fun i j ci cj b e1 e2 e3 e4 => ?_⟩, fun i cl b e1 e2 => ?_⟩
      · cases i with
        | zero =>
          cases e1; cases e2
          exact ⟨a, rfl, nF, na, dx, [], upd_same, rfl⟩
        | succ i => exact ev'.at_ i s o (by simpa [selfEnv] using e1) (by simpa using e2)
      · cases i with
        | zero =>
          cases j with
          | zero => rfl
          | succ j => exact absurd (by simpa [selfEnv] using e2) (own0 j cj)
        | succ i => exact absurd (by simpa [selfEnv] using e1) (own0 i ci)
      · cases i with
        | zero =>
          cases e2
          exact ⟨ha, fun _ b hb => by cases hb; rfl⟩
        | succ i => exact absurd (by simpa [selfEnv] using e1) (own0 i cl)
    refine hb X _ so ⟨rfl, rfl, rfl⟩ g0 g1 _ _ st _ t ?_
    unfold PostX mkM at q
    have q0 : ∀ {g' : G}, Ext g0 g' → Ext g g' := fun x => ⟨x.F, x.as, x.keep, x.back, x.nn⟩
    cases hf : fb (selfEnv C N.length ds) st with
    | nx env' s' =>
      rw [hf] at q
      intro g' σ' l t'
      cases env' with
      | nil => exact q.elim
      | cons sl rest =>
        cases sl with
        | own cl =>
          cases cl with
          | ins c fs =>
            simp only at q
            by_cases hc : c = C
            · subst hc
              rw [if_pos rfl] at q
              obtain ⟨o, ho, b, rfl, nF', na', r'⟩ := t'.ev.get (i := 0) (s := .own (.ins c fs)) rfl
              have hb2 : b = a := (t'.new 0 (.ins c fs) b rfl ho).2 rfl a rfl
              subst hb2
              obtain ⟨u, hu⟩ := r'.th
              cases froz with
              | true =>
                exact q (g'.frz b) (.ref b) (q0 (t'.ext.frz ha)) (t'.wf.frz (by rw [hu]; exact fun z => by cases z) na') r'.frz rfl
              | false =>
                exact q (g'.reg b) (.ref b) (q0 (t'.ext.reg ha)) (t'.wf.reg nF' na' r') (rep_reg (cl := .ins c fs) t'.wf) rfl
            · rw [if_neg hc] at q; exact q.elim
          | _ => exact q.elim
        | _ => exact q.elim
    | rt d s' => rw [hf] at q; exact q.elim
    | bk _ _ => rw [hf] at q; exact q.elim
    | ct _ _ => rw [hf] at q; exact q.elim
    | exc y fs env' s' => rw [hf] at q; exact fun g' dd vs σ' l t' h1 h2 r => q g' dd vs (q0 t'.ext) t'.wf h1 h2 r
    | bad => rw [hf] at q; exact q.elim
theorem make_run {X : Cx} {k n : Nat} {f C : Addr} {fd : FuncData} {ps ks : List Str} {sp : Sp} {E : XK} {g : List Value → List Value → List Value} {gV : List V → List V → List V} {pins : List (Addr × Obj)} {σ : St} {H : Hp} {s : Shared} {Q : VK} {us ws : List Value} {vs zs : List V} (M : Mk X.K C f) (F : FnOk X.prog X.w X.K X.mg X.base (CX X.prog X.w) k f fd ps sp) (hr : Room (k + 1) X.A) (hb : KBn X.K fd ps (n + 1) ks g gV)
    (hx : ∀ H s e s', Inv X pins σ H s → CX X.prog X.w X.stack H s E e s' → X.xe e s') (I : Inv X pins σ H s) (r : Vals vs us) (rz : Vals zs ws) (l1 : vs.length = n) (l2 : zs.length = ks.length)
    (h : ∀ x dx, H x = none → H dx = none → dx ≠ x → sp (gV (.ref x :: vs) zs) (L2.upd (L2.upd H dx (.own x)) x (.ins C dx [])) (fun v H2 => v = .non ∧ Q (.ref x) H2) E) : wpAny (model X.prog X.w) X.A (call (.ref C) us (ks.zip ws)) (EP X pins σ Q) X.xe s := by
  have hq := h (s.heap.objs.size + 1) s.heap.objs.size (I.hok.fresh (Nat.le_succ _)) (I.hok.fresh (Nat.le_refl _)) (Nat.ne_of_lt (Nat.lt_succ_self _))
  have I2 := Inv.made (C := C) I
  have r1 : Vals (V.ref (s.heap.objs.size + 1) :: vs) (Value.ref (s.heap.objs.size + 1) :: us) := .cons rfl r
  have r2 := hb.rel r1 rz
  have n1 : (Value.ref (s.heap.objs.size + 1) :: us).length = n + 1 := by
    rw [List.length_cons, ← r.length, l1]
  refine wpAny_call (make_map (f := f) I.kIn M.makes M.init (beq_iff_eq.mp M.fn) (codeAny_mono (F.run _ X.stack _ _ ⟨Value.ref (s.heap.objs.size + 1) :: us, ks.zip ws⟩ (g (Value.ref (s.heap.objs.size + 1) :: us) ws) _ _ E (hr.make C us (ks.zip ws))
    (I2.env0.make C us (ks.zip ws)) (hb.to _ (Value.ref (s.heap.objs.size + 1) :: us) ws I2.kIn n1 (rz.length.symm.trans l2)) r2 hq) fun r s' hq' => ?_))
  cases r with
  | error e => exact hx _ _ e s' I2 hq'
  | ok fl =>
    cases fl with
    | ret u =>
      obtain ⟨v, H', I3, rv, ev, q3⟩ := I2.after hq'
      subst ev
      exact ⟨rv, ⟨V.ref (s.heap.objs.size + 1), H', I3, rfl, q3⟩⟩
    | next => exact False.elim hq'
    | brk => exact False.elim hq'
    | cont => exact False.elim hq'
theorem callOk_mk {C : Str} {f : Addr} {fd : FuncData} {ps ks : List Str} {n N : Nat} {froz : Bool} {fb : SR} {gg : List Value → List Value → List Value} {gV : List V → List V → List V} {gD : List D → List D} (M : Mk L.c.K (L.c.ad C) f) (F : FnOk L.P L.w L.c.K L.mg L.base (CX L.P L.w) k f fd ps (ISp L C ps.length N froz fb))
    (hb : KBn L.c.K fd ps (n + 1) ks gg gV) (hn : ∀ a vs zs, vs.length = n → zs.length = ks.length → ∃ ws, gV (.ref a :: vs) zs = .ref a :: ws ∧ ws.length + 1 = ps.length ∧ ∀ g ds, Reps L.c g ds (vs ++ zs) → Reps L.c g (gD ds) ws) : CallOk L (k + 1) (L.c.ad C) n ks (fun ds => mkM C N froz fb (gD ds)) := by
  refine ⟨M.kp, fun X W σ vs zs g st ds Q hX tk w l1 l2 rs q pins s us ws I rv rz => ?_⟩
  obtain ⟨P, W', c, mg, base⟩ := L
  obtain ⟨⟨e1, e2, e3, e4, e5, _, nd⟩, hc, hr⟩ := hX
  dsimp only at e1 e2 e3 e4 e5 F hb M
  subst e1 e2 e4 e5
  have e3' : c.K = X.K := e3.symm
  rw [e3'] at F hb M
  refine make_run M F hr hb (fun H' s1 e s2 I' c' => passAt tk σ pins H' s1 e s2 I' c') I rv rz l1 l2 (fun x dx hx hdx hne => ?_)
  · obtain ⟨ws', hg, hl, hr'⟩ := hn x vs zs l1 l2
    rw [hg]
    refine ⟨g, gD ds, st, x, dx, ws', rfl, hl, hx, hdx, hne, rfl, w, hr' g ds rs, ?_⟩
    have q2 := postX q
    unfold PostX at q2 ⊢
    refine PostR.imp q2 fun d s1 g' v e x' w' r kq hv => ?_
    subst hv
    exact ⟨rfl, kq r⟩
end
end DL
end
section
set_option Elab.async false
set_option linter.all false
set_option maxRecDepth 100000
set_option maxHeartbeats 1000000
set_option autoImplicit false
/-! DL: how many different values a set comprehension holds -/
namespace DL
open PySem PySem.Spec L2
open PyProof.Rows hiding St
section
variable {L : Law} {X : Cx} {W : WX} {k : Nat} {tg iter elt : Expr} {ifs : List Expr} {scope : Scope} {own : List (Str × Nat)} {pos p pos2 : Pos}
def memK (k : Key) (acc : List Key) : Bool := acc.any fun j => decide (j = k)
theorem memK_snoc {k j : Key} {acc : List Key} : memK k (acc ++ [j]) = (memK k acc || decide (k = j)) := by
  unfold memK
  rw [List.any_append]
  simp [eq_comm]
def insK (acc : List Key) (k : Key) : List Key := if memK k acc = true then acc else acc ++ [k]
def dedK (ks : List Key) : List Key := ks.foldl insK []
theorem dedK_snoc (ks : List Key) (k : Key) : dedK (ks ++ [k]) = insK (dedK ks) k := by unfold dedK; rw [List.foldl_append]; rfl
theorem insK_len (acc : List Key) (k : Key) : (insK acc k).length ≤ acc.length + 1 := by unfold insK; split <;> simp
theorem dedK_len : ∀ ks : List Key, (dedK ks).length ≤ ks.length := by
  have go : ∀ (ks acc : List Key), (ks.foldl insK acc).length ≤ acc.length + ks.length := by
    intro ks
    induction ks with
    | nil => intro acc; simp
    | cons k ks ih =>
      intro acc
      have h1 := ih (insK acc k)
      have h2 := insK_len acc k
      simp only [List.foldl_cons, List.length_cons]
      omega
  intro ks
  have := go ks []
  simpa [dedK] using this
def fKey (fe : ER) : DEnv → Store → Out Key := fun env s => (fe env s).bind fun x s1 => match keyOf x with
  | some k => .ok k s1
  | none => .bad
def fLenSc (vs : List Nat) (it : IR) (pat : Pat) (cond : TR) (fe : ER) : ER := fun env st => (it env st).bind fun wd s => if wd.items.length < 4000 then (turns wd.ok (stepOf vs pat cond (fKey fe) env) wd.items s).bind fun r s2 => .ok (.int ((dedK r).length : Nat)) s2 else .bad
theorem sc_it {P : Program} {w' : World} {J : It} {n : Nat} {G : Hp → Prop} {Y : Nat → Hp → V → Hp → Prop} (w : Walk J n G Y) {g : TG} {tt : TT} {te : TE} {vs : List Nat} {σ : St} {H1 : Hp} {D : Addr} {Qd : Hp → Prop} (Pv : Nat → Hp → Prop) (h0 : Pv 0 (L2.upd H1 D (SetK P w' D (fun _ => false) 0))) (hG : ∀ i H, i ≤ n → Pv i H → G H)
    (hs : ∀ i x H H', i < n → Pv i H → Y i H x H' → g x (wipe σ vs) H' fun σ2 H2 => wipe σ2 vs = wipe σ vs ∧ tt σ2 H2 fun b H3 =>
      if b = true then te σ2 H3 fun y H4 => ∃ (c : Key) (S : Key → Bool) (m : Nat), y = kV c ∧ H4 D = some (SetK P w' D S m) ∧ m + 1 < scanBound ∧ Pv (i + 1) (L2.upd H4 D (SetK P w' D (fun j => S j || decide (j = c)) (if S c = true then m else m + 1))) else Pv (i + 1) H3) (hd : ∀ H, Pv n H → Qd H) :
    ∃ W : Nat → Nat → Hp → Prop, (∃ m, W 0 m (L2.upd H1 D (SetK P w' D (fun _ => false) 0))) ∧ ∀ i m H, W i m H →
      (J.stop i H ∧ Qd H) ∨ (J.go i H ∧ ∃ Nx : Hp → Prop, (∀ H', Nx H' → ∃ m', m' < m ∧ W (i + 1) m' H') ∧ ∀ x H', J.yld i H x H' → g x (wipe σ vs) H' fun σ2 H2 => wipe σ2 vs = wipe σ vs ∧ tt σ2 H2 fun b H3 =>
        if b = true then te σ2 H3 fun y H4 => ∃ (c : Key) (S : Key → Bool) (m : Nat), y = kV c ∧ H4 D = some (SetK P w' D S m) ∧ m + 1 < scanBound ∧ Nx (L2.upd H4 D (SetK P w' D (fun j => S j || decide (j = c)) (if S c = true then m else m + 1))) else Nx H3) := by
  refine ⟨fun i m H => m = n - i ∧ i ≤ n ∧ Pv i H, ⟨n, by simp, Nat.zero_le _, h0⟩, ?_⟩
  rintro i m H ⟨rfl, hi, p⟩
  have q := hG i H hi p
  by_cases hlt : i < n
  · refine .inr ⟨w.goes i H hlt q, Pv (i + 1), fun H' p' => ⟨n - (i + 1), by omega, rfl, hlt, p'⟩, fun x H' y => hs i x H H' hlt p (w.yields i H x H' hlt q y)⟩
  · have e : i = n := by omega
    subst e
    exact .inl ⟨w.stops H q, hd H p⟩
theorem setK_step {P : Program} {w : World} {D : Addr} {done : List Key} {ky : Key} : SetK P w D (fun j => memK j (dedK done) || decide (j = ky)) (if memK ky (dedK done) = true then (dedK done).length else (dedK done).length + 1) = SetK P w D (fun j => memK j (dedK (done ++ [ky]))) (dedK (done ++ [ky])).length := by
  have e1 : (fun j => memK j (dedK done) || decide (j = ky)) = fun j => memK j (dedK (done ++ [ky])) := by
    funext j
    rw [dedK_snoc]
    unfold insK
    by_cases h : memK ky (dedK done) = true
    · rw [if_pos h]
      by_cases hj : j = ky
      · subst hj; simp [h]
      · simp [hj]
    · rw [if_neg h, memK_snoc]
  have e2 : (if memK ky (dedK done) = true then (dedK done).length else (dedK done).length + 1) = (dedK (done ++ [ky])).length := by
    rw [dedK_snoc]
    unfold insK
    by_cases h : memK ky (dedK done) = true
    · rw [if_pos h, if_pos h]
    · rw [if_neg h, if_neg h]; simp
  rw [e1, e2]
theorem sc_run {tc : TR} {fe : ER} {pat : Pat} {it : IR} {g : G} {env : DEnv} {σ : St} {st : Store} {Q : VK} (hX : XOk L X k) (w : Wf L.c g st) (ev : EnvR L.c g env σ) (ia : IA L.c X W LeS tg iter it g env σ st)
    (hg : ∀ s H0 C cl fp, DG L.c (blkOf X scope s H0 C cl fp) tg pat) (ht : ∀ s H0 C cl fp, DTs L.c (blkOf X scope s H0 C cl fp) noW ifs tc) (he : ∀ s H0 C cl fp, DE L.c (blkOf X scope s H0 C cl fp) noW elt fe) (hix : ∀ i ∈ pat.ix, i ∈ own.map (·.2))
    (q : PostR L.c W g σ (Rep L.c) (fLenSc (own.map (·.2)) it pat tc fe env st) Q) :
    DX.tScK X.prog X.w (bI X tg iter) (tGb X scope tg) (tTb X scope ifs) (tEb X scope elt) (own.map (·.2)) σ g.H (fun v H' => DX.rLenSK X.prog X.w [v] H' Q) := by
  refine ia _ (PostR.bind q fun wd s g1 J x1 w1 wk q1 => ?_)
  by_cases hsz0 : ¬ wd.items.length < 4000
  · rw [if_neg hsz0] at q1; exact q1.elim
  have hsz : wd.items.length < 4000 := Decidable.not_not.mp hsz0
  rw [if_pos hsz] at q1
  intro D hD
  obtain ⟨Gd, Y, hw, hGd, hY⟩ := wk.extS w1
  generalize hst : stepOf (own.map (·.2)) pat tc (fKey fe) env = step at q1
  have nF1 : ¬ g1.F D := w1.notF hD
  have na1 : D ∉ g1.as := w1.notas hD
  let SK : List Key → HO := fun done => SetK X.prog X.w D (fun j => memK j (dedK done)) (dedK done).length
  -- the invariant
  let Pv : Nat → Hp → Prop := fun i H => ∃ g2 st2 done, H = g2.H ∧ Ext g1 g2 ∧ Wf L.c g2 st2 ∧ ¬ g2.F D ∧ D ∉ g2.as ∧ g2.H D = some (SK done) ∧ done.length ≤ i ∧
    PostR L.c W g σ (Rep L.c) ((turns wd.ok step (wd.items.drop i) st2).bind fun r s2 => .ok (.int ((dedK (done ++ r)).length : Nat)) s2) Q
  refine sc_it hw Pv ?_ (fun i H hi hp => ?_) (fun i x H H' hi hp hy => ?_) (fun H hp => ?_)
  · refine ⟨g1.upd D (SK []), s, [], ?_, Ext.upd hD, w1.upd hD, nF1, na1, upd_same, Nat.le_refl _, ?_⟩
    · show L2.upd g1.H D _ = L2.upd g1.H D (SK [])
      have e : (fun j : Key => memK j (dedK [])) = fun _ => false := by funext j; rfl
      have e2 : (dedK []).length = 0 := rfl
      simp only [SK, e, e2]
    · simpa using q1
  · obtain ⟨g2, st2, done, rfl, x2, w2, nF, na, hA, hl, q2⟩ := hp
    refine hGd g2 st2 x2 w2 ?_
    cases hk : wd.ok st2 with
    | true => rfl
    | false =>
      exfalso
      cases hdr : wd.items.drop i with
      | nil => rw [hdr] at q2; simp [turns, hk] at q2; exact q2
      | cons d ds => rw [hdr] at q2; simp [turns, hk] at q2; exact q2
  · obtain ⟨g2, st2, done, rfl, x2, w2, nF, na, hA, hl, q2⟩ := hp
    have hk : wd.ok st2 = true := by
      cases hk : wd.ok st2 with
      | true => rfl
      | false =>
        exfalso
        cases hdr : wd.items.drop i with
        | nil => rw [hdr] at q2; simp [turns, hk] at q2; exact q2
        | cons d ds => rw [hdr] at q2; simp [turns, hk] at q2; exact q2
    obtain ⟨g3, d, rfl, x3, w3, hd, rd⟩ := hY i g2 st2 x H' x2 w2 hk hy hi
    have hdr : wd.items.drop i = d :: wd.items.drop (i + 1) := by
      have := List.getElem?_eq_some_iff.mp hd
      obtain ⟨h1, h2⟩ := this
      rw [List.drop_eq_getElem_cons h1, h2]
    rw [hdr] at q2
    have q2 : PostR L.c W g σ (Rep L.c) (((step d st2).bind fun o s1 => (turns wd.ok step (wd.items.drop (i + 1)) s1).bind fun r s2 => .ok (o.toList ++ r) s2).bind fun r s2 => .ok (.int ((dedK (done ++ r)).length : Nat)) s2) Q := by
      have e : turns wd.ok step (d :: wd.items.drop (i + 1)) st2 = ((step d st2).bind fun o s1 => (turns wd.ok step (wd.items.drop (i + 1)) s1).bind fun r s2 => .ok (o.toList ++ r) s2) := by
        show (if wd.ok st2 = true then _ else _) = _
        rw [if_pos hk]
      rw [e] at q2
      exact q2
    subst hst
    cases hb : bindP pat d st2 (wipeD env (own.map (·.2))) with
    | none =>
      exfalso
      simp only [stepOf, hb] at q2
      exact q2
    | some env' =>
      have es : stepOf (own.map (·.2)) pat tc (fKey fe) env d st2 = noexc ((tc env' st2).bind fun b s1 => if b = true then (fKey fe env' s1).bind fun y s2 => .ok (some y) s2 else .ok none s1) := by simp only [stepOf, hb]
      rw [es] at q2
      have xg3 : Ext g g3 := (x1.trans x2).trans x3
      have ev3 : EnvR L.c g3 (wipeD env (own.map (·.2))) (wipe σ (own.map (·.2))) := (ev.ext xg3 w).wipe _
      intro s0 H0 C cl fp
      refine hg s0 H0 C cl fp g3 _ _ st2 d x env' _ w3 ev3 rd hb fun σ2 ev2 off => ⟨wipe_off off hix, ?_⟩
      cases ht2 : tc env' st2 with
      | exc _ _ _ => rw [ht2] at q2; exact q2.elim
      | bad => rw [ht2] at q2; exact q2.elim
      | ok b s3 =>
        rw [ht2, Out.bind_ok] at q2
        intro s1 H1 C1 cl1 fp1
        refine ht s1 H1 C1 cl1 fp1 g3 env' σ2 st2 _ w3 ev2 (post_notexc ht2 fun g4 b' x4 w4 eb => ?_)
        have eb : b = b' := eb
        subst eb
        have xg4 : Ext g1 g4 := (x2.trans x3).trans x4
        have hA4 : g4.H D = some (SK done) := (x3.trans x4).kept na hA (.inl nF)
        have nF4 : ¬ g4.F D := fun z => by
          rcases (x3.trans x4).back D z with z | z
          · exact nF z
          · rw [hA] at z; cases z
        have na4 : D ∉ g4.as := (x3.trans x4).notas na (by rw [hA]; exact fun z => by cases z)
        cases b with
        | false =>
          simp only [Bool.false_eq_true, if_false] at q2 ⊢
          refine ⟨g4, s3, done, rfl, xg4, w4, nF4, na4, hA4, Nat.le_succ_of_le hl, ?_⟩
          have q2 : PostR L.c W g σ (Rep L.c) (((turns wd.ok (stepOf (own.map (·.2)) pat tc (fKey fe) env) (wd.items.drop (i + 1)) s3).bind fun r s2 => .ok ([] ++ r) s2).bind fun r s2 => .ok (.int ((dedK (done ++ r)).length : Nat)) s2) Q := q2
          cases hT : turns wd.ok (stepOf (own.map (·.2)) pat tc (fKey fe) env) (wd.items.drop (i + 1)) s3 with
          | ok r s5 => rw [hT] at q2; exact q2
          | exc _ _ _ => rw [hT] at q2; exact q2
          | bad => rw [hT] at q2; exact q2
        | true =>
          simp only [if_true] at q2 ⊢
          cases hfk : fe env' s3 with
          | exc _ _ _ => simp only [fKey, hfk] at q2; exact q2.elim
          | bad => simp only [fKey, hfk] at q2; exact q2.elim
          | ok xk s4 =>
            intro s5 H5 C5 cl5 fp5
            refine he s5 H5 C5 cl5 fp5 g4 env' σ2 s3 _ w4 (ev2.ext x4 w3) (post_notexc hfk fun g5 vk x5 w5 rk => ?_)
            cases hK : keyOf xk with
            | none => simp only [fKey, hfk, hK, Out.bind_ok] at q2; exact q2.elim
            | some ky =>
              have e := keyOf_v rk hK
              subst e
              have e : fKey fe env' s3 = .ok ky s4 := by simp only [fKey, hfk, hK, Out.bind_ok]
              rw [e] at q2
              have hA6 : g5.H D = some (SK done) := x5.kept na4 hA4 (.inl nF4)
              have nF6 : ¬ g5.F D := fun z => by
                rcases x5.back D z with z | z
                · exact nF4 z
                · rw [hA4] at z; cases z
              have na6 : D ∉ g5.as := x5.notas na4 (by rw [hA4]; exact fun z => by cases z)
              have hb4 : scanBound = 4096 := rfl
              have hdl := dedK_len done
              refine ⟨ky, _, _, rfl, hA6, by omega, g5.upd D (SK (done ++ [ky])), s4, done ++ [ky], ?_, (xg4.trans x5).mut hD, w5.mut nF6 na6, nF6, na6, upd_same, ?_, ?_⟩
              · show L2.upd g5.H D _ = L2.upd g5.H D (SK (done ++ [ky]))
                rw [setK_step]
              · rw [List.length_append]; simp; omega
              · have q2 : PostR L.c W g σ (Rep L.c) (((turns wd.ok (stepOf (own.map (·.2)) pat tc (fKey fe) env) (wd.items.drop (i + 1)) s4).bind fun r s2 => .ok ([ky] ++ r) s2).bind fun r s2 => .ok (.int ((dedK (done ++ r)).length : Nat)) s2) Q := q2
                cases hT : turns wd.ok (stepOf (own.map (·.2)) pat tc (fKey fe) env) (wd.items.drop (i + 1)) s4 with
                | ok r s8 =>
                  rw [hT] at q2
                  have q2 : PostR L.c W g σ (Rep L.c) (.ok (.int ((dedK (done ++ ([ky] ++ r))).length : Nat)) s8) Q := q2
                  rw [← List.append_assoc] at q2
                  exact q2
                | exc _ _ _ => rw [hT] at q2; exact q2
                | bad => rw [hT] at q2; exact q2
  · obtain ⟨g2, st2, done, rfl, x2, w2, nF, na, hA, hl, q2⟩ := hp
    have e : wd.items.drop wd.items.length = [] := by simp
    rw [e] at q2
    by_cases hk : wd.ok st2 = true
    · have q2 : PostR L.c W g σ (Rep L.c) (.ok (.int ((dedK done).length : Nat)) st2) Q := by
        simpa [turns, hk] using q2
      have hdl := dedK_len done
      exact ⟨D, _, _, rfl, hA, by omega, q2 g2 (.int ((dedK done).length : Nat)) (x1.trans x2) w2 rfl⟩
    · exfalso
      simp [turns, hk] at q2
      exact q2
theorem s_lenSc {tc : TR} {fe : ER} {pat : Pat} {it : IR} (hX : XOk L X k) (hgl : Gl X "len") (hm : FreeOk L "len") (ix : DI L.c X W Le tg iter it) (ok : BlkOk X.N X.env.scope scope own)
    (hg : ∀ s H0 C cl fp, DG L.c (blkOf X scope s H0 C cl fp) tg pat) (ht : ∀ s H0 C cl fp, DTs L.c (blkOf X scope s H0 C cl fp) noW ifs tc) (he : ∀ s H0 C cl fp, DE L.c (blkOf X scope s H0 C cl fp) noW elt fe) (hix : ∀ i ∈ pat.ix, i ∈ own.map (·.2))
    (hs : ∀ x, foldedSetIterable iter X.env x = pure x) : DE L.c X W (.Call (.Name "len" p) [.SetComp elt [⟨tg, iter, ifs, 0⟩] scope pos] [] pos2) (fLenSc (own.map (·.2)) it pat tc fe) := fun g env σ st Q w ev q => by
  have base := DX.pe_scK (X := X) (pos := pos) hX.calm hX.nd (pi_b (X := X) (tg := tg) (iter := iter)) ok (fun s H C cl fp => pg_eb (e := tg) s H C cl fp) (fun s H C cl fp => pts_eb (es := ifs) s H C cl fp) (fun s H C cl fp => pe_eb (e := elt) s H C cl fp) hs
  refine bE_of (pe_callB DX.call_lenSK hgl (by rw [hX.mg]; exact hm) boot_len (pa_cons base pa_nil rfl) (by decide) (by decide) rfl rfl) ?_
  exact sc_run hX w ev (ix.ext (fun _ _ _ _ _ r => r.leS) g env σ st w ev) hg ht he hix q
end
end DL
end
section
set_option Elab.async false
set_option linter.all false
set_option maxRecDepth 100000
set_option maxHeartbeats 1000000
set_option autoImplicit false
/-! DL: sorted of tuples that begin with different texts -/
namespace DL
open PySem PySem.Spec L2
open PyProof.Rows hiding St
def headS : D → Option Str
  | .tup (.str k :: _) => some k
  | _ => none
def hdS (d : D) : Str := (headS d).getD Str.empty
def headsOf : List D → Option (List Str)
  | [] => some []
  | d :: ds => match headS d, headsOf ds with
    | some k, some ks => some (k :: ks)
    | _, _ => none
def distS : List Str → Bool
  | [] => true
  | k :: ks => (ks.all fun j => !decide (j = k)) && distS ks
def sortT (xs : List D) : List D := xs.mergeSort fun a b => leS (hdS a) (hdS b)
def sortedTF : CF := fun st ds => match ds with
  | [d] => match lstOf st d with
    | some xs => match headsOf xs with
      | some ks => if distS ks = true then some (.lst (sortT xs)) else none
      | none => none
    | none => none
  | _ => none
theorem headsOf_map : ∀ {xs : List D} {ks : List Str}, headsOf xs = some ks → ks = xs.map hdS ∧ ∀ d ∈ xs, headS d = some (hdS d)
  | [], ks, h => by cases h; exact ⟨rfl, fun d hd => by simp at hd⟩
  | d :: ds, ks, h => by
    unfold headsOf at h
    split at h
    · rename_i k ks' h1 h2
      cases h
      obtain ⟨e, ih⟩ := headsOf_map h2
      have hk : hdS d = k := by unfold hdS; rw [h1]; rfl
      refine ⟨by rw [List.map_cons, hk, e], fun x hx => ?_⟩
      rcases List.mem_cons.mp hx with e | hx
      · rw [e, h1, hk]
      · exact ih x hx
    · cases h
theorem distS_inj : ∀ {xs : List D}, distS (xs.map hdS) = true → ∀ a ∈ xs, ∀ b ∈ xs, hdS a = hdS b → a = b
  | [], _, a, ha, _, _, _ => by simp at ha
  | d :: ds, h, a, ha, b, hb, e => by
    rw [List.map_cons] at h
    unfold distS at h
    rw [Bool.and_eq_true, List.all_eq_true] at h
    have no : ∀ x ∈ ds, hdS x ≠ hdS d := fun x hx => by
      have := h.1 (hdS x) (List.mem_map.mpr ⟨x, hx, rfl⟩)
      simpa using this
    rcases List.mem_cons.mp ha with e1 | ha
    · rcases List.mem_cons.mp hb with e2 | hb
      · rw [e1, e2]
      · rw [e1] at e; exact absurd e.symm (no b hb)
    · rcases List.mem_cons.mp hb with e2 | hb
      · rw [e2] at e; exact absurd e (no a ha)
      · exact distS_inj h.2 a ha b hb e
theorem distS_nodup : ∀ {xs : List D}, distS (xs.map hdS) = true → xs.Nodup
  | [], _ => by simp
  | d :: ds, h => by
    rw [List.map_cons] at h
    unfold distS at h
    rw [Bool.and_eq_true, List.all_eq_true] at h
    refine List.nodup_cons.mpr ⟨fun hx => ?_, distS_nodup h.2⟩
    have := h.1 (hdS d) (List.mem_map.mpr ⟨d, hx, rfl⟩)
    simp at this
theorem nodup_at {α : Type} {xs : List α} (h : xs.Nodup) {i j : Nat} {hi : i < xs.length} {hj : j < xs.length} (e : xs[i] = xs[j]) : i = j := by
  rcases Nat.lt_trichotomy i j with z | z | z
  · exact absurd e (List.pairwise_iff_getElem.mp h i j hi hj z)
  · exact z
  · exact absurd e.symm (List.pairwise_iff_getElem.mp h j i hj hi z)
section
variable {c : Cst} {g : G} {st : Store}
theorem Reps.perm {vs vs' : List V} (h : vs'.Perm vs) : ∀ {xs : List D}, Reps c g xs vs → ∃ xs', xs'.Perm xs ∧ Reps c g xs' vs' := by
  induction h with
  | nil => intro xs r; exact ⟨xs, List.Perm.refl _, r⟩
  | cons x _ ih =>
    intro xs r
    cases xs with
    | nil => have e : _ :: _ = [] := r; cases e
    | cons d ds =>
      obtain ⟨v, ws, e, r1, r2⟩ := r
      cases e
      obtain ⟨ds', p, r3⟩ := ih r2
      exact ⟨d :: ds', p.cons d, _, _, rfl, r1, r3⟩
  | swap x y l =>
    intro xs r
    cases xs with
    | nil => have e : _ :: _ = [] := r; cases e
    | cons d ds =>
      obtain ⟨v, ws, e, r1, r2⟩ := r
      cases e
      cases ds with
      | nil => have e : _ :: _ = [] := r2; cases e
      | cons d2 ds =>
        obtain ⟨v2, ws2, e, r3, r4⟩ := r2
        cases e
        exact ⟨d2 :: d :: ds, List.Perm.swap d d2 ds, _, _, rfl, r3, _, _, rfl, r1, r4⟩
  | trans _ _ ih1 ih2 =>
    intro xs r
    obtain ⟨xs1, p1, r1⟩ := ih2 r
    obtain ⟨xs2, p2, r2⟩ := ih1 r1
    exact ⟨xs2, p2.trans p1, r2⟩
def kyOf (g : G) (p : Addr) : Str := match g.H p with
  | some (.tup (.str x :: _)) => x
  | _ => Str.empty
theorem tups_refs : ∀ {xs : List D} {vs : List V}, Reps c g xs vs → (∀ d ∈ xs, headS d = some (hdS d)) → ∃ ps : List Addr, vs = ps.map V.ref ∧ (∀ p ∈ ps, ∃ ys, g.H p = some (.tup (V.str (kyOf g p) :: ys))) ∧ ∀ (i : Nat) d p, xs[i]? = some d → ps[i]? = some p → hdS d = kyOf g p
  | [], vs, r, _ => by
    have e : vs = [] := r
    exact ⟨[], e, fun p hp => by simp at hp, fun i d p h => by simp at h⟩
  | d :: ds, vs, r, h => by
    obtain ⟨v, ws, rfl, r1, r2⟩ := r
    obtain ⟨ps, e, h1, h2⟩ := tups_refs r2 fun x hx => h x (List.mem_cons_of_mem _ hx)
    have hd := h d List.mem_cons_self
    obtain ⟨k, rest, rfl⟩ : ∃ k rest, d = .tup (.str k :: rest) := by
      unfold headS at hd
      split at hd
      · exact ⟨_, _, rfl⟩
      · cases hd
    obtain ⟨a, us, rfl, _, q, rs⟩ := r1
    obtain ⟨u, us', rfl, ru, _⟩ := rs
    have ru : u = .str k := ru
    subst ru
    have hk : kyOf g a = k := by unfold kyOf; rw [q]
    refine ⟨a :: ps, by rw [e]; rfl, fun p hp => ?_, fun i d p e1 e2 => ?_⟩
    · rcases List.mem_cons.mp hp with e | hp
      · subst e; exact ⟨us', by rw [hk]; exact q⟩
      · exact h1 p hp
    · cases i with
      | zero => cases e1; cases e2; rw [hk]; rfl
      | succ i => exact h2 i d p (by simpa using e1) (by simpa using e2)
theorem cok_sortedT : COk c (DX.rSortTS c.K) sortedTF := by
  intro g st ds vs d Q w rs e k
  unfold sortedTF at e
  split at e
  · obtain ⟨v, rfl, r⟩ := preps1 rs
    split at e
    · rename_i xs hs
      obtain ⟨a, vs, rfl, q, rs⟩ := lst_read w r hs
      split at e
      · rename_i ks hk
        split at e
        · rename_i hdist
          cases e
          obtain ⟨ek, hh⟩ := headsOf_map hk
          subst ek
          obtain ⟨ps, rfl, hT, hix⟩ := tups_refs rs hh
          have hlen : xs.length = ps.length := by have := rs.length; simpa using this.symm
          refine ⟨a, ps, kyOf g, rfl, SqL.of q, fun p hp => ?_, fun p hp p' hp' hne he => ?_, fun qs l hq hs hl => ?_⟩
          · obtain ⟨ys, h⟩ := hT p hp
            exact ⟨ys, SqT.of h⟩
          · obtain ⟨i, hi, ei⟩ := List.mem_iff_getElem.mp hp
            obtain ⟨j, hj, ej⟩ := List.mem_iff_getElem.mp hp'
            have xi : xs[i]? = some (xs[i]'(by omega)) := List.getElem?_eq_getElem (by omega)
            have xj : xs[j]? = some (xs[j]'(by omega)) := List.getElem?_eq_getElem (by omega)
            have ki := hix i _ p xi (by rw [List.getElem?_eq_getElem hi, ei])
            have kj := hix j _ p' xj (by rw [List.getElem?_eq_getElem hj, ej])
            have ed : xs[i]'(by omega) = xs[j]'(by omega) := distS_inj hdist _ (List.getElem_mem _) _ (List.getElem_mem _) (by rw [ki, kj, he])
            have eij : i = j := nodup_at (distS_nodup hdist) ed
            subst eij
            exact hne (ei.symm.trans ej)
          · obtain ⟨ds', hp', rs'⟩ := Reps.perm (hq.map V.ref) rs
            have hh' : ∀ d ∈ ds', headS d = some (hdS d) := fun d hd => hh d (hp'.mem_iff.mp hd)
            obtain ⟨ps', e2, _, hix'⟩ := tups_refs rs' hh'
            have e3 : qs = ps' := by
              have := congrArg (List.map fun v : V => match v with | .ref p => p | _ => 0) e2
              simpa [List.map_map, Function.comp_def] using this
            subst e3
            have hl' : ds'.length = qs.length := by have := rs'.length; simpa using this.symm
            have sd : ds'.Pairwise fun a b => leS (hdS a) (hdS b) = true := by
              rw [List.pairwise_iff_getElem] at hs ⊢
              intro i j hi hj hij
              have := hs i j (by omega) (by omega) hij
              have e1 := hix' i _ _ (List.getElem?_eq_getElem hi) (List.getElem?_eq_getElem (show i < qs.length by omega))
              have e2 := hix' j _ _ (List.getElem?_eq_getElem hj) (List.getElem?_eq_getElem (show j < qs.length by omega))
              rw [e1, e2]
              unfold leS
              rw [this]; rfl
            have ss : (sortT xs).Pairwise fun a b => leS (hdS a) (hdS b) = true := List.pairwise_mergeSort (le := fun a b => leS (hdS a) (hdS b)) (fun a b c => leS_trans (hdS a) (hdS b) (hdS c)) (fun a b => leS_total (hdS a) (hdS b)) xs
            have sp : (sortT xs).Perm xs := List.mergeSort_perm xs _
            have e4 : ds' = sortT xs := (hp'.trans sp.symm).eq_of_pairwise (fun a b ha hb h h' => distS_inj hdist a (hp'.mem_iff.mp ha) b (sp.mem_iff.mp hb) (leS_antisymm h h')) sd ss
            rw [e4] at rs'
            exact new_lst w hl rs' k
        · cases e
      · cases e
    · cases e
  · cases e
/-- sorted, of all kinds -/
def sortedAF : CF := fun st ds => match sortedF st ds with
  | some d => some d
  | none => sortedTF st ds
theorem cok_sortedA : COk c (fun vs H Q => rSortA c.K vs H Q ∨ DX.rSortTS c.K vs H Q) sortedAF := by
  intro g st ds vs d Q w rs e k
  unfold sortedAF at e
  split at e
  · rename_i d' h
    cases e
    exact .inl (cok_sorted g st ds vs _ Q w rs h k)
  · exact .inr (cok_sortedT g st ds vs d Q w rs e k)
theorem cr_sortedA {X : Cx} (hc : X.calm = true) : CallR X (.builtin "sorted") (fun vs H Q => rSortA X.K vs H Q ∨ DX.rSortTS X.K vs H Q) := CallR.or (cr_sortA hc) DX.call_sortTS
end
/-! list + list, a new thing of one's own -/
def catC (s : Store) (x y : D) : Out Cell := match lstOf s x, lstOf s y with
  | some xs, some ys => if xs.length + ys.length ≤ sizeLine then .ok (.lst (xs ++ ys)) s else .bad
  | _, _ => .bad
def fCat (fa fb : ER) : FR := fun env st => (fa env st).bind fun x s1 => (fb env s1).bind fun y s2 => catC s2 x y
theorem d_cat {L : Law} {X : Cx} {W : WX} {ea eb : Expr} {fa fb : ER} {pos : Pos} (ha : DP L.c X W ea fa) (hb : DP L.c X W eb fb) : DF L.c X W (.BinOp ea .Add eb pos) (fCat fa fb) := fun g env σ st Q w ev p => by
  refine bE_of (pe_op op_cat pe_b pe_b) ?_
  refine ha g env σ st _ w ev (p.bind fun x s1 g1 vx x1 w1 rx p1 => ?_)
  refine hb g1 env σ s1 _ w1 (ev.ext x1 w) (PostR.bind2 x1 p1 fun y s2 g2 vy x2 w2 ry p2 => ?_)
  unfold catC at p2
  split at p2
  · rename_i xs ys e1 e2
    split at p2
    · rename_i hl
      obtain ⟨a, vs, rfl, qa, ra⟩ := lst_read w2 (rx.ext x2 w1) e1
      obtain ⟨b, ws, rfl, qb, rb⟩ := lst_read w2 ry e2
      refine ⟨a, b, vs, ws, rfl, rfl, qa, qb, by rw [ra.length, rb.length]; exact hl, fun q hq => ?_⟩
      exact p2 (g2.upd q (.lst (vs ++ ws))) (.ref q) ((x1.trans x2).trans (Ext.upd hq)) (w2.upd hq) (newR_upd (x1.trans x2) w2 hq ⟨vs ++ ws, upd_same, (ra.append rb).le (le_upd hq w2)⟩)
    · exact p2.elim
  · exact p2.elim
end DL
end
section
set_option Elab.async false
set_option linter.all false
set_option maxRecDepth 100000
set_option maxHeartbeats 2000000
set_option autoImplicit false
/-! DL: except X as e: return [..] (ahead of the trees) -/
namespace DL
open PySem PySem.Spec L2
open PyProof.Rows hiding St
/-- what must be known of an exception class y whose instances are asked for the field f -/
structure XfOk (L : Law) (y f : Str) : Prop where
  xf : XfC L.c.K (L.c.ad y)
  no : PySem.W.findIn L.c.K (.ref (L.c.ad y)) f = some none
/-- a class by its name: an own one, or a built-in exception -/
def ClsNm (L : Law) (X : Cx) (C : Str) (c : V) (cv : Value) : Prop := ClsV c cv ∧ ∀ (a : Addr) (pn : List (Addr × Obj)) (p : Pos), PE (X.suite a pn) (.Name C p) (tC c)
section
variable {L : Law} {X : Cx} {W : WX} {k i : Nat} {n : Str} {a dd : Addr} {oe : Obj} {pn : List (Addr × Obj)} {y : Str} {fs : List (Str × D)} {vs : List (Str × V)} {e : Expr} {es : List Expr} {g g' : G} {st : Store} {σ : St}
/-- the caught exception as it stands -/
structure HX (L : Law) (i : Nat) (a dd : Addr) (fs : List (Str × D)) (vs : List (Str × V)) (g : G) (σ : St) : Prop where
  at_ : σ[i]? = some (some (.ref a))
  F : g.F dd
  H : g.H dd = some (.xd vs)
  r : RepF L.c g fs vs
theorem HX.ext (h : HX L i a dd fs vs g σ) (x : Ext g g') (w : Wf L.c g st) : HX L i a dd fs vs g' σ := ⟨h.at_, x.F dd h.F, x.kept (fun z => w.ca dd z h.F) h.H (.inr fun _ z => by cases z), h.r.le (x.le w)⟩
def HEok (L : Law) (X : Cx) (i : Nat) (a dd : Addr) (fs : List (Str × D)) (vs : List (Str × V)) (e : Expr) (F : Store → Option D) : Prop :=
  ∀ g σ st d (Q : VK), Wf L.c g st → HX L i a dd fs vs g σ → F st = some d → (∀ g' v, Ext g g' → Wf L.c g' st → Rep L.c g' d v → Q v g'.H) → bE X e σ g.H Q
theorem he_txt {x : Str} {j : Nat} {p : Pos} {X' : Cx} : HEok L X' i a dd fs vs (.Constant (.str x) j p) (fun _ => some (.str x)) := fun g σ st d Q w h e q => by
  cases e
  exact bE_of pe_str (q g _ (Ext.refl g) w rfl)
theorem he_nm {p : Pos} {X' : Cx} (hN : X'.N[i]? = some n) (hv : Vis X'.env.scope n) (hn : NmOk n = true) {Q : VK} (h : HX L i a dd fs vs g σ) (q : Q (.ref a) g.H) : bE X' (.Name n p) σ g.H Q := bE_of (pe_var hN hv (nm1 hn) (nm2 hn)) ⟨_, h.at_, q⟩
theorem he_fld {f : Str} {p p2 p3 pos : Pos} (hK : X.K = L.c.K) (hm : X.mg = L.mg) (hN : X.N[i]? = some n) (hv : Vis X.env.scope n) (hn : NmOk n = true) (hg : Gl X "repr") (hr : FreeOk L "repr") (T : XfOk L y f) (hz : Zc (.ref (L.c.ad y)) (some dd) oe) (hf : ∃ vs, oe.data = .fields vs) :
    HEok L (X.suite a ((a, oe) :: pn)) i a dd fs vs (.Call (.Name "repr" p) [.Attribute (.Name n p2) f p3] [] pos) (fun st => (fs.lookup f).bind fun d => reprF st [d]) := fun g σ st d Q w h e q => by
  obtain ⟨z, hz1, e⟩ := Option.bind_eq_some_iff.mp e
  obtain ⟨v, hv1, rv⟩ := h.r.get hz1
  have base := pe_xf (X := X) (a := a) (pn := pn) (by rw [hK]; exact T.xf) (by rw [hK]; exact T.no) hz hf (pe_b (X := X.suite a ((a, oe) :: pn)) (e := .Name n p2)) (pos := p3) rfl
  refine bE_of (pe_callB (X := X.suite a ((a, oe) :: pn)) cr_repr hg (by show X.mg "repr" = none; rw [hm]; exact hr) (by decide +kernel) (pa_cons base pa_nil rfl) (by decide) (by decide) rfl rfl) ?_
  refine he_nm (X' := X.suite a ((a, oe) :: pn)) hN hv hn h ⟨rfl, rfl, dd, vs, v, rfl, h.H, hv1, ?_⟩
  exact cok_repr g st [z] [v] d Q w ⟨v, [], rfl, .inl rv, rfl⟩ e q
theorem he_isa {C : Str} {c : V} {cv : Value} {b : Bool} {p p2 p3 pos : Pos} (hK : X.K = L.c.K) (hm : X.mg = L.mg) (hN : X.N[i]? = some n) (hv : Vis X.env.scope n) (hn : NmOk n = true) (hg : Gl X "isinstance") (hr : FreeOk L "isinstance") (hE : ExcC L.c.K (L.c.ad y)) (hz : Zc (.ref (L.c.ad y)) (some dd) oe) (hf : ∃ vs, oe.data = .fields vs)
    (hC : ClsNm L X C c cv) (hk : PySem.W.kitOne L.c.K (.ref (L.c.ad y)) cv = some b) :
    HEok L (X.suite a ((a, oe) :: pn)) i a dd fs vs (.Call (.Name "isinstance" p) [.Name n p2, .Name C p3] [] pos) (fun _ => some (.bl b)) := fun g σ st d Q w h e q => by
  cases e
  have call := call_isX (X := X) (a := a) (dd := dd) (pn := pn) (by rw [hK]; exact hE) hz hf
  refine bE_of (pe_callB (X := X.suite a ((a, oe) :: pn)) call hg (by show X.mg "isinstance" = none; rw [hm]; exact hr) (by decide +kernel) (pa_cons (pe_b (e := .Name n p2)) (pa_cons (hC.2 a ((a, oe) :: pn) p3) pa_nil rfl) rfl) (by decide) (by decide) rfl rfl) ?_
  refine he_nm (X' := X.suite a ((a, oe) :: pn)) hN hv hn h ?_
  exact ⟨c, cv, b, vs, rfl, hC.1, by rw [hK]; exact hk, h.H, q g (.bl b) (Ext.refl g) w rfl⟩
theorem he_isaG {C : Str} {c : V} {cv : Value} {b : Bool} {p p2 p3 pos : Pos} (hK : X.K = L.c.K) (hm : X.mg = L.mg) (hN : X.N[i]? = some n) (hv : Vis X.env.scope n) (hn : NmOk n = true) (hg : Gl X "isinstance") (hr : FreeOk L "isinstance") (hE : ExcC L.c.K (L.c.ad y)) (hz : Zc (.ref (L.c.ad y)) (some dd) oe) (hf : ∃ vs, oe.data = .fields vs)
    (hC : ClsV c cv) (hP : ∀ (a : Addr) (pn : List (Addr × Obj)), PE (X.suite a pn) (.Name C p3) (tC c)) (hk : PySem.W.kitOne L.c.K (.ref (L.c.ad y)) cv = some b) :
    HEok L (X.suite a ((a, oe) :: pn)) i a dd fs vs (.Call (.Name "isinstance" p) [.Name n p2, .Name C p3] [] pos) (fun _ => some (.bl b)) := fun g σ st d Q w h e q => by
  cases e
  have call := call_isX (X := X) (a := a) (dd := dd) (pn := pn) (by rw [hK]; exact hE) hz hf
  refine bE_of (pe_callB (X := X.suite a ((a, oe) :: pn)) call hg (by show X.mg "isinstance" = none; rw [hm]; exact hr) (by decide +kernel) (pa_cons (pe_b (e := .Name n p2)) (pa_cons (hP a ((a, oe) :: pn)) pa_nil rfl) rfl) (by decide) (by decide) rfl rfl) ?_
  refine he_nm (X' := X.suite a ((a, oe) :: pn)) hN hv hn h ?_
  exact ⟨c, cv, b, vs, rfl, hC, by rw [hK]; exact hk, h.H, q g (.bl b) (Ext.refl g) w rfl⟩
/-- .. and not .. -/
theorem he_and {e1 e2 : Expr} {b b2 : Bool} {p p2 : Pos} {X' : Cx} (h1 : HEok L X' i a dd fs vs e1 (fun _ => some (.bl b))) (h2 : HEok L X' i a dd fs vs e2 (fun _ => some (.bl b2))) :
    HEok L X' i a dd fs vs (.BoolOp .And [e1, .UnaryOp .Not e2 p2] p) (fun _ => some (.bl (b && !b2))) := fun g σ st d Q w h e q => by
  cases e
  refine bE_of (pe_andT pe_b (pe_one (pe_notT pe_b))) ?_
  refine h1 g σ st _ _ w h rfl fun g1 v x1 w1 r => ?_
  have r : v = .bl b := r
  subst r
  refine ⟨b, rfl, ?_⟩
  cases b with
  | false => exact q g1 _ x1 w1 rfl
  | true =>
    refine h2 g1 σ st _ _ w1 (h.ext x1 w) rfl fun g2 v x2 w2 r => ?_
    have r : v = .bl b2 := r
    subst r
    exact ⟨b2, rfl, q g2 _ (x1.trans x2) w2 rfl⟩
end
section
variable {L : Law} {X : Cx} {W : WX} {k i : Nat} {n x : Str} {cv : Value} {body : List Stmt} {es : List Expr} {np pos pos' rp lp : Pos} {fb : SR}
theorem hes_run {X' : Cx} {a dd : Addr} {y : Str} {fs : List (Str × D)} {vs : List (Str × V)} {σ : St} {st : Store} : ∀ {es : List Expr} {hes : List HE}, Paired (fun e h => HEok L X' i a dd fs vs e (fun st => heD y fs st h)) es hes → es.all NoStar = true → ∀ (g : G) (ds : List D) (Q : List V → Hp → Prop), Wf L.c g st → HX L i a dd fs vs g σ → hesD y fs st hes = some ds →
    (∀ g' us, Ext g g' → Wf L.c g' st → Reps L.c g' ds us → Q us g'.H) → bA X' es σ g.H Q
  | _, _, .nil, _, g, ds, Q, w, h, e, q => by
    cases e
    exact bA_of pa_nil (q g [] (Ext.refl g) w rfl)
  | e :: es, hd :: hes, .cons r rs, ns, g, ds, Q, w, h, eq', q => by
    rw [List.all_cons, Bool.and_eq_true] at ns
    unfold hesD at eq'
    split at eq'
    · rename_i d ds' e1 e2
      cases eq'
      refine bA_of (pa_cons pe_b pa_b (no_star ns.1)) ?_
      refine r g σ st d _ w h e1 fun g1 v x1 w1 rv => ?_
      refine hes_run rs ns.2 g1 ds' _ w1 (h.ext x1 w) e2 fun g2 us x2 w2 ru => ?_
      exact q g2 (v :: us) (x1.trans x2) w2 ⟨v, us, rfl, x2.rep w1 rv, ru⟩
    · cases eq'
theorem s_tryAs {m : Exm} {hes : List HE} (hX : SOk L X W k) (hi : X.N[i]? = some n) (hln : X.env.kindOf n = some .local) (hc : Names X x cv) (he : ExmOk L cv m)
    (hb : ∀ (W' : WX) pn xe, Takes (X.tr pn xe) W' → PassesOwn (model X.prog X.w) X.A X.env xe → DSs L.c (X.tr pn xe) W' body fb) (ns : es.all NoStar = true)
    (hel : ∀ y, m y = some true → ∀ a dd oe pn fs vs, Zc (.ref (L.c.ad y)) (some dd) oe → (∃ vs, oe.data = .fields vs) → Paired (fun e h => HEok L (X.suite a ((a, oe) :: pn)) i a dd fs vs e (fun st => heD y fs st h)) es hes) :
    DS L.c X W (.Try body [.ExceptHandler (some (.Name x np)) (some n) [.Return (some (.List es lp)) rp] pos'] [] [] pos) (sTryAs i m hes fb) := fun g0 g env σ st D t q => by
  refine bS_of (ps_try_as (tb := fun W' D σ H => ∀ pn xe, Takes (X.tr pn xe) W' → PassesOwn (model X.prog X.w) X.A X.env xe → bSs (X.tr pn xe) body D σ H)
    (ts := fun a cls d D σ H => ∀ oe pn, Zc cls d oe → (∃ vs, oe.data = .fields vs) → bSs (X.suite a ((a, oe) :: pn)) [.Return (some (.List es lp)) rp] D σ H) (Wout := W) hX.hs hX.hf hX.x.nd hi hln hc hX.tk (fun W' pn xe tk po => ⟨fun pins s σ H D I h => h pn xe tk po pins s I⟩) (fun a oe cls d pn hz hf => ⟨fun pins s σ H D I h => h oe pn hz hf pins s I⟩)) ?_
  intro pn xe tk po
  refine hb _ pn xe tk po g0 g env σ st D t ?_
  unfold sTryAs at q
  cases hf : fb env st with
  | exc y fs env' s' =>
    rw [hf] at q
    intro g' dd vs σ' l t' hF hH r
    cases hm : m y with
    | none => simp only [hm] at q; exact q.elim
    | some b =>
      refine ⟨b, by rw [hX.x.K]; exact he y b hm, fun hb => ?_, fun hb => ?_⟩
      · subst hb
        simp only [hm] at q
        refine fun a na oe pn hz hfd => ?_
        cases hd : hesD y fs s' hes with
        | none => simp only [hd] at q; exact q.elim
        | some ds =>
          simp only [hd] at q
          have q : PostS L.c W g0 g (if i < env'.length ∧ ds.length ≤ sizeLine then .rt (.lst ds) s' else .bad) D := q
          by_cases hl : i < env'.length ∧ ds.length ≤ sizeLine
          · rw [if_pos hl] at q
            have hi' : i < σ'.length := by rw [t'.ev.len]; exact hl.1
            refine bSs_of (pss_one (ps_ret (pe_lst pa_b))) ?_
            refine hes_run (y := y) (hel y hm a dd oe pn fs vs hz hfd) ns g' ds _ t'.wf ⟨List.getElem?_set_self hi', hF, hH, r⟩ hd fun g2 us x2 w2 ru => ?_
            refine ⟨by rw [ru.length]; exact hl.2, fun p hp => ?_⟩
            have w' := t'.wf
            obtain ⟨x3, w3⟩ := new_frz (o := .lst us) w2 hp
            exact q _ (.ref p) (l.trans ((x2.trans x3).leS t'.wf)) (t'.ext.trans (x2.trans x3)) w3 ⟨p, us, rfl, .inr rfl, upd_same, ru.le (le_new w2 hp)⟩
          · rw [if_neg hl] at q; exact q.elim
      · subst hb
        simp only [hm] at q
        exact q g' dd vs σ' l t' hF hH r
  | _ => rw [hf] at q; exact q
end
end DL
end
section
set_option Elab.async false
set_option linter.all false
set_option maxRecDepth 100000
set_option maxHeartbeats 4000000
set_option autoImplicit false
/-! != by the text's own __eq__ -/
namespace DX
open PySem PySem.W PySem.Calls PyProof.Rows
section
variable {prog : Program} {w : World} {A : Around} {E : Value → Shared → Prop} {s : Shared} {K : Frag} {x C L f : Addr} {ox : Obj} {od : Option Obj} {b tb : Value}
theorem ne_K {Q : Value → Shared → Prop} (hu : A.units + 1 < cLine) (X : K.In s.heap) (I : InstAt s.heap x ox C od) (hb : Looks (model prog w) s.heap (typeOf b) tb) (hn : notFirst K C tb = true)
    (hsn : findIn K (.ref C) "__ne__" = some (some (.builtin "object.__ne__"))) (hs : findIn K (.ref C) "__eq__" = some (some (.ref f))) (hf : isFn K (.ref f) = true) (hm : subIn K (.ref C) (.type "object") = some true)
    (h : wpAny (model prog w) A.in1 (call (.ref f) [.ref x, b]) (fun v s' => ∃ r, v = .bool r ∧ Q (.bool (!r)) s') E s) : wpAny (model prog w) A (richCompare .NotEq (.ref x) b) Q E s := by
  have sub : Looks (model prog w) s.heap (isInstance (.ref x) (.type "object")) true := I.type.andThen (looks_subIn X hm)
  have hu1 : A.in1.units < cLine := hu
  have bound : wpAny (model prog w) A (callSpecialIfBound? (.ref x) "__ne__" [b]) (fun r s' => ∃ v, r = some (.bool v) ∧ Q (.bool v) s') E s := by
    simp only [callSpecialIfBound?, bindSpecialIfBound?]
    refine wpAny_holding (wpAny_bind (wpAny_bind (wpAny_bind (I.type.here ((looks_findIn X hsn).here ?_)))))
    refine wpAny_bind (wpAny_askSetting (wpAny_ite ?_))
    have run : wpAny (model prog w) A (call (.builtin "object.__ne__") ([.ref x] ++ [b]) >>= fun v => pure (some v)) (fun r s' => ∃ v, r = some (.bool v) ∧ Q (.bool v) s') E s := by
      refine wpAny_bind (wpAny_call (codeAny_call_builtin F.cmp_object.ne.plain F.cmpEntry_ne ?_))
      refine check_slot F.cmpKind_ne F.cmpSplit_ne sub (F.cmpArgs_ne _ _) ?_
      unfold Builtin.«object.__ne__»
      obtain ⟨hp, g, d, t, os⟩ := s
      repeat (first
        | with_reducible refine wpAny_cRoomFor hu1 ?_
        | (refine wpAny_bind (m := callSpecialIfBound? (.ref x) (Str.ofString "__eq__") [b])
            (ifBound_K X I hs hf (wpAny_mono h (fun r s' hr => by
              obtain ⟨b, rfl, hq⟩ := hr
              repeat (first | exact ⟨_, rfl, hq⟩ | exact wpAny_pure ⟨_, rfl, hq⟩ | exact wpAny_truthy_bool ⟨_, rfl, hq⟩ | (refine wpAny_bind (m := truthy (.bool _)) (wpAny_truthy_bool ?_)) | wp_step)) fun _ _ e => e)))
        | wp_step)
    have bs : bindSpecial (.builtin "object.__ne__") (.ref x) = pure (.builtin "object.__ne__", [.ref x]) := F.cmp_object.ne.bind (.ref x)
    split
    · rw [bs]
      exact wpAny_bind (wpAny_pure (wpAny_pure (by exact run)))
    · rw [bs]
      exact wpAny_tryCatch (wpAny_bind (wpAny_pure (wpAny_pure (by exact run))))
  have one : wpAny (model prog w) A (tryCompare (.ref x) "__ne__" b) (fun r s' => ∃ v, r = some v ∧ Q v s') E s := by
    unfold tryCompare
    refine wpAny_bind (wpAny_mono bound (fun r s' hv => ?_) fun _ _ e => e)
    obtain ⟨v, rfl, hq⟩ := hv
    exact wpAny_pure ⟨_, rfl, hq⟩
  unfold richCompare
  simp only [oneThing_ref]
  refine wpAny_holding (wpAny_bind (wpAny_cRoomFor (Nat.lt_of_succ_lt hu) ?_))
  refine wpAny_bind (I.type.here (wpAny_bind (hb.here ?_)))
  rw [cmpInfo_NotEq]
  dsimp only
  split
  · rename_i q
    have e : subIn K tb (.ref C) = some false := by
      rcases Bool.or_eq_true_iff.mp hn with e | e
      · rw [beq_iff_eq.mp e] at q; simp at q
      · exact beq_iff_eq.mp e
    refine wpAny_bind ((looks_subIn X e).here ?_)
    simp only [Bool.false_eq_true, if_false]
    refine wpAny_bind (wpAny_mono one (fun r s' z => ?_) fun _ _ e => e)
    obtain ⟨v, rfl, hq⟩ := z
    exact wpAny_pure hq
  · refine wpAny_bind (wpAny_pure ?_)
    simp only [Bool.false_eq_true, if_false]
    refine wpAny_bind (wpAny_mono one (fun r s' z => ?_) fun _ _ e => e)
    obtain ⟨v, rfl, hq⟩ := z
    exact wpAny_pure hq
end
end DX
end
section
set_option Elab.async false
set_option linter.all false
set_option maxRecDepth 100000
set_option maxHeartbeats 2000000
set_option autoImplicit false
/-! DL: == and != by the text's own __eq__ -/
namespace DL
open PySem PySem.Spec L2
open PyProof.Rows hiding St
/-- what != by an own == leans on -/
def NeOk (L : Law) (C : Str) : Prop := PySem.W.findIn L.c.K (.ref (L.c.ad C)) "__ne__" = some (some (.builtin "object.__ne__")) ∧ PySem.W.subIn L.c.K (.ref (L.c.ad C)) (.type "object") = some true
def fOeq (neg : Bool) (C : Str) (m : FnM) (fa fb : ER) : ER := fun env st => (fa env st).bind fun x s1 => (fb env s1).bind fun y s2 => match insOf s2 x, insOf s2 y with
  | some (c1, _), some (c2, _) => if c1 = C ∧ c2 = C then (match m [x, y] s2 with
    | .ok (.bl b) s3 => .ok (.bl (if neg = true then !b else b)) s3
    | _ => .bad) else .bad
  | _, _ => .bad
def bCmp (X : Cx) (op : CmpOp) : R2 := fun x y H Q => ∀ pins σ s u v, Inv X pins σ H s → RelV x u → RelV y v → wpAny (model X.prog X.w) X.A (compareOp op u v) (EP X pins σ Q) X.xe s
theorem op_bCmp {X : Cx} {op : CmpOp} : OpR X (compareOp op) (bCmp X op) := fun pins s σ H x y v u Q I rx ry h => h pins σ s v u I rx ry
section
variable {L : Law} {X : Cx} {W : WX} {k : Nat} {ea eb : Expr} {fa fb : ER} {C : Str} {m : FnM} {pos : Pos}
/-- one step further in -/
def Cx.in1 (X : Cx) : Cx := { X with A := X.A.in1 }
theorem inv_in1 {pins : List (Addr × Obj)} {σ : St} {H : Hp} {s : Shared} (hd : X.calm = true → X.A.in1.handled = none) (I : Inv X pins σ H s) : Inv (Cx.in1 X) pins σ H s := by
  obtain ⟨ok, os, bare, base, loc, cell, free, freeC, pin, hok, len⟩ := I
  exact ⟨⟨ok.mod, ok.kind, ok.glob, ok.blt, ok.above, ok.inj, ok.has, ok.cab, hd, ok.frames, ok.stk, ok.exf, ok.bs, ok.bsz, ok.noex, ok.exfs, ok.funs, ok.frf⟩, os, bare, base, loc, cell, free, freeC, pin, hok, len⟩
theorem inv_out1 {pins : List (Addr × Obj)} {σ : St} {H : Hp} {s : Shared} (hd : X.calm = true → X.A.handled = none) (I : Inv (Cx.in1 X) pins σ H s) : Inv X pins σ H s := by
  obtain ⟨ok, os, bare, base, loc, cell, free, freeC, pin, hok, len⟩ := I
  exact ⟨⟨ok.mod, ok.kind, ok.glob, ok.blt, ok.above, ok.inj, ok.has, ok.cab, hd, ok.frames, ok.stk, ok.exf, ok.bs, ok.bsz, ok.noex, ok.exfs, ok.funs, ok.frf⟩, os, bare, base, loc, cell, free, freeC, pin, hok, len⟩
theorem post_oeq {neg : Bool} {op : CmpOp} (hop : op = if neg = true then .NotEq else .Eq) (hX : XOk L X (k + 1)) (M : MethOk L k C "__eq__" 1 [] m) (hne : NeOk L C) (ha : DE L.c X W ea fa) (hb : DE L.c X W eb fb)
    {g : G} {env : DEnv} {σ : St} {st : Store} {Q : VK} (w : Wf L.c g st) (ev : EnvR L.c g env σ) (q : PostR L.c W g σ (Rep L.c) (fOeq neg C m fa fb env st) Q) : tOp (bCmp X op) (bE X ea) (bE X eb) σ g.H Q := by
  refine ha g env σ st _ w ev (PostR.bind q fun x s1 g1 vx x1 w1 rx q1 => ?_)
  refine hb g1 env σ s1 _ w1 (ev.ext x1 w) (PostR.bind (PostR.later x1 q1) fun y s2 g2 vy x2 w2 ry q2 => ?_)
  have rx2 := x2.rep w1 rx
  have q3 := q2.later x2
  clear q2
  have q2 := q3
  clear q3
  split at q2
  · rename_i c1 fs1 c2 fs2 e1 e2
    split at q2
    · rename_i hc
      obtain ⟨rfl, rfl⟩ := hc
      obtain ⟨f, hM, hC⟩ := M.ex
      obtain ⟨a, dx, vs, rfl, h1, _⟩ := ins_read w2 (.inl rx2) e1
      obtain ⟨b, dy, ws, rfl, h2, _⟩ := ins_read w2 (.inl ry) e2
      have rs : Reps L.c g2 [x, y] ([V.ref a, V.ref b] ++ []) := ⟨_, _, rfl, rx2, _, _, rfl, ry, rfl⟩
      intro pins σ' s u v I ru rv
      cases ru
      cases rv
      obtain ⟨mA, J, _⟩ := ins_get I.hok h1
      obtain ⟨mB, J', _⟩ := ins_get I.hok h2
      obtain ⟨od, J, _⟩ := J.look
      obtain ⟨od', J', _⟩ := J'.look
      have fin : ∀ r s3, m [x, y] s2 = .ok (.bl r) s3 → PostR L.c W g2 σ (Rep L.c) (.ok (.bl (if neg = true then !r else r)) s3) Q → wpAny (model X.prog X.w) X.A (compareOp op (.ref a) (.ref b)) (EP X pins σ' Q) X.xe s := fun r s3 e3 q2 => by
        have hK := hX.K
        have key : ∀ (X' : Cx), XOk L X' k → ∀ (Q' : VK), (∀ g3, Ext g2 g3 → Wf L.c g3 s3 → Q' (.bl r) g3.H) → tCW X' f [] [V.ref a, V.ref b] [] σ' g2.H Q' := fun X' hX' Q' hq => by
          refine hC.run X' noW σ' _ [] g2 s2 [x, y] Q' hX' (fun _ _ ⟨_, _, _, _, _, _, _, _, _, _, _, _, _, _, _, _, w⟩ => w.elim) w2 rfl rfl rs ?_
          rw [e3]
          exact fun g3 v x3 w3 r3 => by
            have r3 : v = .bl r := r3
            rw [r3]
            exact hq g3 x3 w3
        cases neg with
        | false =>
          have hop : op = .Eq := hop
          subst hop
          obtain ⟨m0, hF⟩ := I.fr
          show wpAny (model X.prog X.w) X.A (richCompare .Eq (.ref a) (.ref b)) (EP X pins σ' Q) X.xe s
          rw [← hK] at hM
          refine PySem.W.cmp_K (op := .Eq) (tb := .ref (L.c.ad c2)) hX.room.units0 hF I.ok.mod.kin J J'.type (by simp [PySem.W.notFirst]) hM.at_ hM.fn ?_
          have run := key X (hX.mono (Nat.le_succ k)) (fun v H' => v = .bl r ∧ Q (.bl r) H') (fun g3 x3 w3 => ⟨rfl, q2 g3 (.bl r) x3 w3 rfl⟩) pins s [.ref a, .ref b] [] I (.cons rfl (.cons rfl .nil)) .nil
          refine wpAny_mono run (fun v s' hv => ?_) fun _ _ z => z
          obtain ⟨z, H', I', rz, ez, hq⟩ := hv
          subst ez
          cases rz
          exact ⟨.bl r, H', I', rfl, hq⟩
        | true =>
          have hop : op = .NotEq := hop
          subst hop
          show wpAny (model X.prog X.w) X.A (richCompare .NotEq (.ref a) (.ref b)) (EP X pins σ' Q) X.xe s
          rw [← hK] at hM
          obtain ⟨n1, n2⟩ := hne
          rw [← hK] at n1 n2
          have r0 := hX.room
          have r1 : Room k X.A.in1 := r0.in1
          have X1 : XOk L (Cx.in1 X) k := ⟨⟨hX.P, hX.w, hX.K, hX.mg, hX.base, by have := r1.un; show X.A.in1.units + 64 < cLine; omega, hX.nd⟩, hX.calm, r1⟩
          refine DX.ne_K (tb := .ref (L.c.ad c2)) (by have := r0.un; omega) I.kIn J J'.type (by simp [PySem.W.notFirst]) n1 hM.at_ hM.fn n2 ?_
          have run := key (Cx.in1 X) X1 (fun v H' => v = .bl r ∧ Q (.bl (!r)) H') (fun g3 x3 w3 => ⟨rfl, q2 g3 (.bl (!r)) x3 w3 rfl⟩) pins s [.ref a, .ref b] [] (inv_in1 (fun _ => r1.hd) I) (.cons rfl (.cons rfl .nil)) .nil
          refine wpAny_mono run (fun v s' hv => ?_) fun _ _ z => z
          obtain ⟨z, H', I', rz, ez, hq⟩ := hv
          subst ez
          cases rz
          exact ⟨r, rfl, .bl (!r), H', inv_out1 (fun _ => r0.hd) I', rfl, hq⟩
      cases e3 : m [x, y] s2 with
      | ok d s3 =>
        rw [e3] at q2
        cases d with
        | bl r => exact fin r s3 e3 q2
        | _ => exact q2.elim
      | _ => rw [e3] at q2; exact q2.elim
    · exact q2.elim
  · exact q2.elim
theorem s_oeq {neg : Bool} {op : CmpOp} (hop : op = if neg = true then .NotEq else .Eq) (hX : XOk L X (k + 1)) (M : MethOk L k C "__eq__" 1 [] m) (hne : NeOk L C) (hm : behindInMarks op eb = false) (ha : DE L.c X W ea fa) (hb : DE L.c X W eb fb) :
    DE L.c X W (.Compare ea [op] [eb] pos) (fOeq neg C m fa fb) := fun g env σ st Q w ev q => bE_of (pe_cmpR op_bCmp pe_b pe_b hm) (post_oeq hop hX M hne ha hb w ev q)
theorem t_oeq {neg : Bool} {op : CmpOp} (hop : op = if neg = true then .NotEq else .Eq) (hX : XOk L X (k + 1)) (M : MethOk L k C "__eq__" 1 [] m) (hne : NeOk L C) (hm : behindInMarks op eb = false) (ha : DE L.c X W ea fa) (hb : DE L.c X W eb fb) :
    DT L.c X W (.Compare ea [op] [eb] pos) (fun env st => oBl (fOeq neg C m fa fb env st)) := fun g env σ st Q w ev q => bT_of (pt_cmpR op_bCmp pe_b pe_b hm) (post_oeq hop hX M hne ha hb w ev (post_bl q))
end
end DL
end
section
set_option Elab.async false
set_option linter.all false
set_option maxRecDepth 100000
set_option maxHeartbeats 1000000
set_option autoImplicit false
/-! DL: the text as a term of one's own, and what it computes -/
namespace DL
open PySem PySem.Spec L2
open PyProof.Rows hiding St

/-! ### built-ins by name -/
inductive Bf where
  | len | max | min | all | any | sum | sorted | isi | repr | str | int | bool | list | tuple | dict
def bfName : Bf → Str
  | .len => "len" | .max => "max" | .min => "min" | .all => "all" | .any => "any" | .sum => "sum" | .sorted => "sorted" | .isi => "isinstance" | .repr => "repr"
  | .str => "str" | .int => "int" | .bool => "bool" | .list => "list" | .tuple => "tuple" | .dict => "dict"
def bfF (S : Sig) : Bf → CF
  | .len => lenF | .max => maxF | .min => minF | .all => allF | .any => anyF | .sum => sumF | .sorted => sortedAF | .isi => isinstF S | .repr => reprF
  | .str => strF | .int => intF | .bool => boolF | .list => listF | .tuple => tupleF | .dict => dictF
inductive Mf where
  | split | join | starts | ends | part | upper | index
def mfName : Mf → Str
  | .split => "split" | .join => "join" | .starts => "startswith" | .ends => "endswith" | .part => "partition" | .upper => "upper" | .index => "index"
def mfF : Mf → MF
  | .split => splitF | .join => joinF | .starts => startsF | .ends => endsF | .part => partF | .upper => upperF | .index => indexF

/-! ### the terms -/
inductive Pt where
  | v (i : Nat) | f (C x : Str) (p : Pt)
abbrev Own := List (Str × Nat)
mutual
inductive E where
  | var (i : Nat) | own (i : Nat) | int (i : Int) | str (x : Str) | bl (b : Bool) | non
  | glob (x : Str) (d : D) | blt (x : Str) (n : String)
  | bin (op : Operator) (a b : E) | neg (a : E) | cmp (op : CmpOp) (a b : E) | chn (op op2 : CmpOp) (a b c : E)
  | an (a r : E) | orr (a r : E) | one (a : E) | not (a : E) | ife (t : T) (a b : E)
  | tup (as : Es) | sub (a b : E) | sli (a : E) (lo hi : O) | rev (a : E)
  | bc (f : Bf) (as : Es) | mth0 (m : Mf) (o : E) | mth (m : Mf) (o : E) (as : Es)
  | fs (js : Es) | fs1 (a : E) | fmt (a : E) | fld (C x : Str) (a : E)
  | app (x : Str) (n : Nat) (ks : List Str) (m : FnM) (as kw : Es)
  | me (C x : Str) (n : Nat) (ks : List Str) (m : FnM) (o : E) (as kw : Es)
  | pr (C x : Str) (m : FnM) (o : E)
  | frz (f : F) | reg (f : F) | oeq (neg : Bool) (C : Str) (m : FnM) (a b : E)
  | lsc (w : Own) (b : E) (p : Pat) (t : OT) (a : E)
inductive F where
  | lst (as : Es) | cat (a b : E) | lc (w : Own) (it : I) (p : Pat) (t : OT) (a : E) | dc (w : Own) (it : I) (p : Pat) (t : OT) (k v : E) | dnew | dsp (ks : Ks)
inductive Es where
  | nil | cons (a : E) (as : Es)
inductive Ks where
  | nil | cons (k v : E) (r : Ks)
inductive O where
  | no | som (a : E)
inductive T where
  | val (a : E) | cmp (op : CmpOp) (a b : E) | chn (op op2 : CmpOp) (a b c : E) | not (t : T) | w (w : TW) | oeq (neg : Bool) (C : Str) (m : FnM) (a b : E)
inductive TW where
  | one (t : T) | an (t : T) (w : TW) | orr (t : T) (w : TW)
inductive OT where
  | yes | one (t : T)
inductive I where
  | seq (a : E) | r1 (a : E) | r2 (a b : E) | r3 (a b c : E) | enm (a : E) | keys (p : Pt) | vals (p : Pt) | items (p : Pt)
end
mutual
inductive S where
  | pass | brk | cnt | ret (e : E) | ret0 | ite (t : T) (a b : Ss) | drop (e : E) | set (i : Nat) (e : E) | new (i : Nat) (f : F) | asg (p : Pat) (e : E)
  | par (is : List Nat) (as : Es) | slc (i : Nat) (w : Own) (it : I) (p : Pat) (t : OT) (a : E) | fo (it : I) (p : Pat) (b : Ss)
  | app (i : Nat) (e : E) | putO (i : Nat) (k v : E) | attO (i : Nat) (C x : Str) (e : E) | putC (o k v : E) | raise (C x : Str) (e : E)
  | tr (C : Str) (l : List (Str × Bool)) (b h : Ss) | trA (i : Nat) (C : Str) (l : List (Str × Bool)) (hes : List HE) (b : Ss)
inductive Ss where
  | nil | cons (s : S) (ss : Ss) | frz (i : Nat) (ss : Ss) | reg (i : Nat) (ss : Ss)
end

/-! ### what they compute -/
def evPt : Pt → DEnv → Store → Option D
  | .v i => pVar i
  | .f C x p => pFld C x (evPt p)
def fOwn (i : Nat) (pk : Bool) : ER := if pk = true then fPeek i else fun _ _ => .bad
def fVr (i : Nat) (pk : Bool) : ER := if pk = true then fPeek i else fVar i
section
variable (Z : Sig)
mutual
/-- pk: the value is only read -/
def evE : E → Bool → ER
  | .var i => fVr i
  | .own i => fOwn i
  | .int i => fun _ => fC (.int i)
  | .str x => fun _ => fC (.str x)
  | .bl b => fun _ => fC (.bl b)
  | .non => fun _ => fC .non
  | .glob _ d => fun _ => fC d
  | .blt _ n => fun _ => fC (.ty n)
  | .bin op a b => fun _ => f2 (binD op) (evE a true) (evE b true)
  | .neg a => fun _ => fNeg (evE a true)
  | .cmp op a b => fun _ => f2 (cmpD op) (evE a true) (evE b true)
  | .chn op op2 a b c => fun _ => fChain op op2 (evE a true) (evE b true) (evE c true)
  | .an a r => fun _ => fAnd (evE a false) (evE r false)
  | .orr a r => fun _ => fOr (evE a false) (evE r false)
  | .one a => fun _ => evE a false
  | .not a => fun _ => fNot (evE a true)
  | .ife t a b => fun pk => fIf (evT t) (evE a pk) (evE b pk)
  | .tup as => fun _ => fTup (evAs as false)
  | .sub a b => fun _ => f2 subsD (evE a true) (evE b true)
  | .sli a lo hi => fun _ => fSli (evE a true) (evO lo) (evO hi)
  | .rev a => fun _ => fRev (evE a true)
  | .bc f as => fun _ => fCall (bfF Z f) (evAs as true)
  | .mth0 m o => fun _ => fMeth0 (mfF m) (evE o true)
  | .mth m o as => fun _ => fMeth (mfF m) (evE o true) (evAs as true)
  | .fs js => fun _ => fJoin (evJ js)
  | .fs1 a => fun _ => evE a false
  | .fmt a => fun _ => fFmtV (evE a true)
  | .fld C x a => fun _ => fFld C x (evE a true)
  | .app _ _ _ m as kw => fun _ => fApp m (evAs as false) (evAs kw false)
  | .me C x _ _ m o as kw => fun _ => fMeK C x m (evE o false) (evAs as false) (evAs kw false)
  | .pr C _ m o => fun _ => fProp C m (evE o false)
  | .frz f => fun _ env st => (evF f env st).bind fun cl s => .ok (cellD cl) s
  | .reg f => fun _ => fReg (evF f)
  | .oeq neg C m a b => fun _ => fOeq neg C m (evE a false) (evE b false)
  | .lsc w b p t a => fun _ => fLenSc (w.map (·.2)) (iSeq (evE b false)) p (evOT t) (evE a false)
def evF : F → FR
  | .lst as => fLst (evAs as false)
  | .cat a b => fCat (evE a true) (evE b true)
  | .lc w it p t a => fLc (w.map (·.2)) (evI it) p (evOT t) (evE a false)
  | .dc w it p t k v => fDc (w.map (·.2)) (evI it) p (evOT t) (evE k false) (evE v false)
  | .dnew => fun _ st => .ok (.dct []) st
  | .dsp ks => fDsp (evK ks)
def evAs : Es → Bool → AR
  | .nil => fun _ => aNil
  | .cons a as => fun pk => aCons (evE a pk) (evAs as pk)
def evJ : Es → JR
  | .nil => jNil
  | .cons a as => jCons (evE a true) (evJ as)
def evK : Ks → KR
  | .nil => kNil
  | .cons k v r => kCons (evE k false) (evE v false) (evK r)
def evO : O → OR
  | .no => oNo
  | .som a => oSome (evE a true)
def evT : T → TR
  | .val a => fTru (evE a true)
  | .cmp op a b => fun env st => oBl (f2 (cmpD op) (evE a true) (evE b true) env st)
  | .chn op op2 a b c => fun env st => oBl (fChain op op2 (evE a true) (evE b true) (evE c true) env st)
  | .not t => tNotD (evT t)
  | .oeq neg C m a b => fun env st => oBl (fOeq neg C m (evE a false) (evE b false) env st)
  | .w w => evW w
def evW : TW → TR
  | .one t => evT t
  | .an t w => tAndD (evT t) (evW w)
  | .orr t w => tOrD (evT t) (evW w)
def evOT : OT → TR
  | .yes => tYesD
  | .one t => evT t
def evI : I → IR
  | .seq a => iSeq (evE a false)
  | .r1 a => iRng1 (evE a true)
  | .r2 a b => iRng2 (evE a true) (evE b true)
  | .r3 a b c => iRng3 (evE a true) (evE b true) (evE c true)
  | .enm a => iEnum (evE a false)
  | .keys p => iKey (evPt p)
  | .vals p => iVal (evPt p)
  | .items p => iItm (evPt p)
end
mutual
def evS : S → SR
  | .pass => sPass
  | .brk => fun env st => .bk env st
  | .cnt => fun env st => .ct env st
  | .ret e => sRet (evE Z e false)
  | .ret0 => fun _ st => .rt .non st
  | .ite t a b => sIf (evT Z t) (evSs a) (evSs b)
  | .drop e => sDrop (evE Z e true)
  | .set i e => sSet i (evE Z e false)
  | .new i f => sNew i (evF Z f)
  | .asg p e => sAsg p (evE Z e false)
  | .par is as => sPar is (evAs Z as false)
  | .slc i w it p t a => sNew i (fLc (w.map (·.2)) (evI Z it) p (evOT Z t) (evE Z a false))
  | .fo it p b => sFor (evI Z it) p (evSs b)
  | .app i e => sApp i (evE Z e false)
  | .putO i k v => sPutO i (evE Z k false) (evE Z v false)
  | .attO i C x e => sAttO i C x (evE Z e false)
  | .putC o k v => sPutC (evE Z o false) (evE Z k false) (evE Z v false)
  | .raise C x e => sRaise C x (evE Z e false)
  | .tr _ l b h => sTry (fun y => l.lookup y) (evSs b) (evSs h)
  | .trA i _ l hes b => sTryAs i (fun y => l.lookup y) hes (evSs b)
def evSs : Ss → SR
  | .nil => sNil
  | .cons s ss => sSeq (evS s) (evSs ss)
  | .frz i ss => sFrz i (evSs ss)
  | .reg i ss => sReg i (evSs ss)
end
end
end DL
end
section
set_option Elab.async false
set_option linter.all false
set_option maxRecDepth 100000
set_option maxHeartbeats 1000000
set_option autoImplicit false
/-! DL: whether a term is the text's -/
namespace DL
open PySem PySem.Spec L2
open PyProof.Rows hiding St

def nmC (L : Law) : Nm → Value
  | .own x => .ref (L.c.ad x)
  | .ty _ n => .type n
def nmV (L : Law) : Nm → V
  | .own x => .ref (L.c.ad x)
  | .ty _ n => .ty n
/-- what is asked of the top -/
inductive Fct where
  | glob (x : Str) (d : D) | free (x : Str) | nm (x : Str) | fld (C x : Str) | exc (C p : Str) | exm (C : Str) (l : List (Str × Bool)) | xf (y f : Str) | xc (y : Str) | kit (y : Str) (C : Nm) (b : Bool)
/-- what is asked of other defs -/
inductive Ent where
  | fn (x : Str) (n : Nat) (ks : List Str) (m : FnM) | me (C x : Str) (n : Nat) (ks : List Str) (m : FnM) | pr (C x : Str) (m : FnM) | oq (C : Str) (m : FnM)
def Fct.Ok (L : Law) : Fct → Prop
  | .glob x d => GloOk L x d
  | .free x => FreeOk L x
  | .nm x => NmTo L x
  | .fld C x => FldOk L C x
  | .exc C p => ExcOk L C p
  | .exm C l => ExmOk L (.ref (L.c.ad C)) fun y => l.lookup y
  | .xf y f => XfOk L y f
  | .xc y => ExcC L.c.K (L.c.ad y)
  | .kit y C b => PySem.W.kitOne L.c.K (.ref (L.c.ad y)) (nmC L C) = some b
def Ent.Ok (L : Law) (k : Nat) : Ent → Prop
  | .fn x n ks m => CallOk L k (L.c.ad x) n ks m
  | .me C x n ks m => MethOk L k C x n ks m
  | .pr C x m => ∃ j, j + 1 ≤ k ∧ PropOk L j C x m
  | .oq C m => ∃ j, j + 1 ≤ k ∧ MethOk L j C "__eq__" 1 [] m ∧ NeOk L C
theorem Ent.Ok.mono {L : Law} {j k : Nat} (h : j ≤ k) : ∀ {e : Ent}, e.Ok L j → e.Ok L k
  | .fn _ _ _ _, c => CallOk.mono c h
  | .me _ _ _ _ _, c => MethOk.mono c h
  | .pr _ _ _, ⟨i, hi, c⟩ => ⟨i, Nat.le_trans hi h, c⟩
  | .oq _ _, ⟨i, hi, c⟩ => ⟨i, Nat.le_trans hi h, c⟩

/-! ### the static side -/
def glB (sc : Scope) (x : Str) : Bool := decide (sc.names.lookup x = some .globalImplicit)
def visB (sc : Scope) (x : Str) : Bool := match sc.names.lookup x with
  | some .local => true | some .cell => true | some .free => true | _ => false
def varB (sc : Scope) (x : Str) : Bool := match sc.names.lookup x with
  | some .local => true | some .cell => true | _ => false
def locB (sc : Scope) (x : Str) : Bool := decide (sc.names.lookup x = some .local)
def nmB (N : List Str) (sc : Scope) (i : Nat) (x : Str) : Bool := decide (N[i]? = some x) && (visB sc x && NmOk x)
def bootTy (x : Str) (n : String) : Bool := match bootBuiltins x with
  | some (.type m) => decide (m = n)
  | _ => false
def blkB (N : List Str) (sc scope : Scope) (own : Own) : Bool := decide (scope.kind = .function) && ((scope.names.all fun y => decide (scope.names.lookup y.1 = some y.2)) && ((own.all fun p => decide (N[p.2]? = some p.1)) &&
  ((scope.names.all fun y => !decide (y.2 = .free) || (decide (sc.names.lookup y.1 = some .cell) || decide (sc.names.lookup y.1 = some .free))) &&
    (scope.names.all fun y => !(decide (y.2 = .local) || decide (y.2 = .cell)) || (decide (y.1 ∈ own.map (·.1)) || !decide (y.1 ∈ N))))))
def noSetB : Expr → Bool
  | .Set _ _ _ => false
  | _ => true
mutual
def chkG (N : List Str) (sc : Scope) : Pat → Expr → Bool
  | .v i => fun x => match x with
    | .Name y _ => decide (N[i]? = some y) && locB sc y
    | _ => false
  | .t ps => fun x => match x with
    | .Tuple es _ _ => es.all PlainTg && (decide (ps.len = es.length) && chkGs N sc ps es)
    | _ => false
def chkGs (N : List Str) (sc : Scope) : Pats → List Expr → Bool
  | .nil => fun xs => match xs with
    | [] => true
    | _ => false
  | .cons p ps => fun xs => match xs with
    | e :: es => PlainTg e && (chkG N sc p e && chkGs N sc ps es)
    | _ => false
end
def subB (p : Pat) (w : Own) : Bool := p.ix.all fun i => decide (i ∈ w.map (·.2))
def chkPt (fb : Fct → Bool) (N : List Str) (sc : Scope) : Pt → Expr → Bool
  | .v i => fun x => match x with
    | .Name y _ => nmB N sc i y
    | _ => false
  | .f C f p => fun x => match x with
    | .Attribute e y _ => decide (y = f) && (fb (.fld C f) && (NoCall0 e && chkPt fb N sc p e))
    | _ => false
def lenEs : Es → Nat
  | .nil => 0
  | .cons _ as => lenEs as + 1
def lineB (a p : Pos) : Bool := a.endLine == p.line
section
variable (fb : Fct → Bool) (N : List Str)
def clsB (sc : Scope) : Nm → Expr → Bool
  | .own x => fun e => match e with
    | .Name z _ => decide (z = x) && (glB sc x && (NmOk x && fb (.nm x)))
    | _ => false
  | .ty x n => fun e => match e with
    | .Name z _ => decide (z = x) && (glB sc x && (NmOk x && (fb (.free x) && (bootTy x n && !decide (x = "__name__")))))
    | _ => false
def isaB (sc : Scope) (i : Nat) (l : List (Str × Bool)) (C : Nm) (m : List (Str × Bool)) : Expr → Bool := fun e => match e with
  | .Call (.Name r _) [.Name y _, .Name z zp] [] _ => decide (r = "isinstance") && (glB sc "isinstance" && (fb (.free "isinstance") && (nmB N sc i y && (clsB fb sc C (.Name z zp) && (l.all fun p => !p.2 || (match m.lookup p.1 with
    | some b => fb (.kit p.1 C b) && fb (.xc p.1)
    | none => true))))))
  | _ => false
def heB (sc : Scope) (i : Nat) (l : List (Str × Bool)) : HE → Expr → Bool
  | .txt x => fun e => match e with
    | .Constant (.str t) _ _ => decide (x = t)
    | _ => false
  | .fld f => fun e => match e with
    | .Call (.Name r _) [.Attribute (.Name y _) g _] [] _ => decide (r = "repr") && (decide (g = f) && (glB sc "repr" && (fb (.free "repr") && (nmB N sc i y && (l.all fun p => !p.2 || fb (.xf p.1 f))))))
    | _ => false
  | .isa C m => isaB fb N sc i l C m
  | .isaN C C2 m m2 => fun e => match e with
    | .BoolOp .And [a, .UnaryOp .Not b _] _ => isaB fb N sc i l C m a && isaB fb N sc i l C2 m2 b
    | _ => false
def hesB (sc : Scope) (i : Nat) (l : List (Str × Bool)) : List HE → List Expr → Bool
  | [], [] => true
  | h :: hs, e :: es => heB fb N sc i l h e && hesB sc i l hs es
  | _, _ => false
mutual
def chkE : E → Scope → Expr → Bool
  | .var i => fun sc x => match x with
    | .Name y _ => nmB N sc i y
    | _ => false
  | .own i => fun sc x => match x with
    | .Name y _ => nmB N sc i y
    | _ => false
  | .int i => fun _ x => match x with
    | .Constant (.int j) _ _ => decide (i = j)
    | _ => false
  | .str s => fun _ x => match x with
    | .Constant (.str t) _ _ => decide (s = t)
    | _ => false
  | .bl b => fun _ x => match x with
    | .Constant (.bool c) _ _ => decide (b = c)
    | _ => false
  | .non => fun _ x => match x with
    | .Constant .none _ _ => true
    | _ => false
  | .glob y d => fun sc x => match x with
    | .Name z _ => decide (y = z) && (glB sc y && (NmOk y && fb (.glob y d)))
    | _ => false
  | .blt y n => fun sc x => match x with
    | .Name z _ => decide (y = z) && (glB sc y && (NmOk y && (fb (.free y) && (bootTy y n && !decide (y = "__name__")))))
    | _ => false
  | .bin op a b => fun sc x => match x with
    | .BinOp y o z _ => decide (op = o) && (chkE a sc y && chkE b sc z)
    | _ => false
  | .neg a => fun sc x => match x with
    | .UnaryOp .USub y _ => chkE a sc y
    | _ => false
  | .cmp op a b => fun sc x => match x with
    | .Compare y [o] [z] _ => decide (op = o) && (!behindInMarks op z && (chkE a sc y && chkE b sc z))
    | _ => false
  | .chn op op2 a b c => fun sc x => match x with
    | .Compare y [o, o2] [z, z2] _ => decide (op = o) && (decide (op2 = o2) && (!lastMarks [op, op2] [z, z2] && (chkE a sc y && (chkE b sc z && chkE c sc z2))))
    | _ => false
  | .an a r => fun sc x => match x with
    | .BoolOp .And (y :: z :: l) p => chkE a sc y && chkE r sc (.BoolOp .And (z :: l) p)
    | _ => false
  | .orr a r => fun sc x => match x with
    | .BoolOp .Or (y :: z :: l) p => chkE a sc y && chkE r sc (.BoolOp .Or (z :: l) p)
    | _ => false
  | .one a => fun sc x => match x with
    | .BoolOp _ [y] _ => chkE a sc y
    | _ => false
  | .not a => fun sc x => match x with
    | .UnaryOp .Not y _ => chkE a sc y
    | _ => false
  | .ife t a b => fun sc x => match x with
    | .IfExp c y z _ => chkT t sc c && (chkE a sc y && chkE b sc z)
    | _ => false
  | .tup as => fun sc x => match x with
    | .Tuple xs _ _ => xs.all NoStar && chkEs as sc xs
    | _ => false
  | .sub a b => fun sc x => match x with
    | .Subscript y z _ => NoSlice z && (chkE a sc y && chkE b sc z)
    | _ => false
  | .sli a lo hi => fun sc x => match x with
    | .Subscript y (.Slice l h none _) _ => chkE a sc y && (chkO lo sc l && chkO hi sc h)
    | _ => false
  | .rev a => fun sc x => match x with
    | .Subscript y (.Slice none none (some (.UnaryOp .USub (.Constant (.int 1) _ _) _)) _) _ => chkE a sc y
    | _ => false
  | .bc f as => fun sc x => match x with
    | .Call (.Name y _) (z :: zs) [] _ => decide (y = bfName f) && (glB sc y && (fb (.free y) && ((z :: zs).all NoStar && chkEs as sc (z :: zs))))
    | _ => false
  | .mth0 m o => fun sc x => match x with
    | .Call (.Attribute z y ap) [] [] p => decide (y = mfName m) && (NoCall0 z && (lineB ap p && chkE o sc z))
    | _ => false
  | .mth m o as => fun sc x => match x with
    | .Call (.Attribute z y ap) (u :: us) [] p => decide (y = mfName m) && (NoCall0 z && (lineB ap p && ((u :: us).all NoStar && (decide ((u :: us).length + 0 + 1 < 30) && (chkE o sc z && chkEs as sc (u :: us))))))
    | _ => false
  | .fs js => fun sc x => match x with
    | .JoinedStr (y :: z :: l) _ => chkEs js sc (y :: z :: l)
    | _ => false
  | .fs1 a => fun sc x => match x with
    | .JoinedStr [y] _ => chkE a sc y
    | _ => false
  | .fmt a => fun sc x => match x with
    | .FormattedValue y (-1) none _ => chkE a sc y
    | _ => false
  | .fld C f a => fun sc x => match x with
    | .Attribute z y _ => decide (y = f) && (fb (.fld C f) && (NoCall0 z && chkE a sc z))
    | _ => false
  | .app f n ks _ as kw => fun sc x => match x with
    | .Call (.Name y _) xs kws _ => decide (y = f) && (glB sc f && (NmOk f && (fb (.nm f) && (xs.all NoStar && (KwOk kws && (decide (kwNames kws = ks) && (decide (lenEs as = n) && (decide (lenEs kw = ks.length) && (chkEs as sc xs && chkKs kw sc kws)))))))))
    | _ => false
  | .me _ f n ks _ o as kw => fun sc x => match x with
    | .Call (.Attribute z y ap) xs kws p => decide (y = f) && (NoCall0 z && (lineB ap p && (xs.all NoStar && (decide (xs.length + kws.length + 1 < 30) && (KwOk kws && (decide (kwNames kws = ks) && (decide (lenEs as = n) && (decide (lenEs kw = ks.length) && (chkE o sc z && (chkEs as sc xs && chkKs kw sc kws))))))))))
    | _ => false
  | .pr _ f _ o => fun sc x => match x with
    | .Attribute z y _ => decide (y = f) && (NoCall0 z && chkE o sc z)
    | _ => false
  | .frz f => fun sc x => chkF f sc x
  | .reg f => fun sc x => chkF f sc x
  | .oeq neg _ _ a b => fun sc x => match x with
    | .Compare y [o] [z] _ => decide (o = if neg = true then .NotEq else .Eq) && (!behindInMarks o z && (chkE a sc y && chkE b sc z))
    | _ => false
  | .lsc w b p t a => fun sc x => match x with
    | .Call (.Name y _) [.SetComp elt [⟨tg, iter, ifs, 0⟩] scope _] [] _ => decide (y = "len") && (glB sc y && (fb (.free y) && (blkB N sc scope w && (noSetB iter && (chkE b sc iter && (chkG N (relS scope sc) p tg && (subB p w && (chkOT t (relS scope sc) ifs && chkE a (relS scope sc) elt))))))))
    | _ => false
def chkF : F → Scope → Expr → Bool
  | .lst as => fun sc x => match x with
    | .List xs _ => xs.all NoStar && chkEs as sc xs
    | _ => false
  | .cat a b => fun sc x => match x with
    | .BinOp y .Add z _ => chkE a sc y && chkE b sc z
    | _ => false
  | .lc w it p t a => fun sc x => match x with
    | .ListComp elt [⟨tg, iter, ifs, 0⟩] scope _ => blkB N sc scope w && (noSetB iter && (chkI it sc tg iter && (chkG N (relS scope sc) p tg && (subB p w && (chkOT t (relS scope sc) ifs && chkE a (relS scope sc) elt)))))
    | _ => false
  | .dc w it p t k v => fun sc x => match x with
    | .DictComp kx vx [⟨tg, iter, ifs, 0⟩] scope _ => blkB N sc scope w && (noSetB iter && (chkI it sc tg iter && (chkG N (relS scope sc) p tg && (subB p w && (chkOT t (relS scope sc) ifs && (chkE k (relS scope sc) kx && chkE v (relS scope sc) vx))))))
    | _ => false
  | .dnew => fun _ x => match x with
    | .Dict [] [] _ => true
    | _ => false
  | .dsp ks => fun sc x => match x with
    | .Dict (k :: kxs) vxs _ => decide ((k :: kxs).length ≤ 15) && chkK ks sc (k :: kxs) vxs
    | _ => false
def chkEs : Es → Scope → List Expr → Bool
  | .nil => fun _ xs => match xs with
    | [] => true
    | _ => false
  | .cons a as => fun sc xs => match xs with
    | x :: xs => chkE a sc x && chkEs as sc xs
    | _ => false
def chkKs : Es → Scope → List Keyword → Bool
  | .nil => fun _ xs => match xs with
    | [] => true
    | _ => false
  | .cons a as => fun sc xs => match xs with
    | ⟨_, x, _⟩ :: xs => chkE a sc x && chkKs as sc xs
    | _ => false
def chkK : Ks → Scope → List (Option Expr) → List Expr → Bool
  | .nil => fun _ xs ys => match xs, ys with
    | [], [] => true
    | _, _ => false
  | .cons k v r => fun sc xs ys => match xs, ys with
    | some x :: xs, y :: ys => chkE k sc x && (chkE v sc y && chkK r sc xs ys)
    | _, _ => false
def chkO : O → Scope → Option Expr → Bool
  | .no => fun _ x => match x with
    | none => true
    | _ => false
  | .som a => fun sc x => match x with
    | some x => chkE a sc x
    | _ => false
def chkT : T → Scope → Expr → Bool
  | .val a => fun sc x => PlainTest x && chkE a sc x
  | .cmp op a b => fun sc x => match x with
    | .Compare y [o] [z] _ => decide (op = o) && (!behindInMarks op z && (chkE a sc y && chkE b sc z))
    | _ => false
  | .chn op op2 a b c => fun sc x => match x with
    | .Compare y [o, o2] [z, z2] _ => decide (op = o) && (decide (op2 = o2) && (!lastMarks [op, op2] [z, z2] && (chkE a sc y && (chkE b sc z && chkE c sc z2))))
    | _ => false
  | .not t => fun sc x => match x with
    | .UnaryOp .Not y _ => chkT t sc y
    | _ => false
  | .w w => fun sc x => chkW w sc x
  | .oeq neg _ _ a b => fun sc x => match x with
    | .Compare y [o] [z] _ => decide (o = if neg = true then .NotEq else .Eq) && (!behindInMarks o z && (chkE a sc y && chkE b sc z))
    | _ => false
def chkW : TW → Scope → Expr → Bool
  | .one t => fun sc x => match x with
    | .BoolOp _ [y] _ => chkT t sc y
    | _ => false
  | .an t w => fun sc x => match x with
    | .BoolOp .And (y :: z :: l) p => chkT t sc y && chkW w sc (.BoolOp .And (z :: l) p)
    | _ => false
  | .orr t w => fun sc x => match x with
    | .BoolOp .Or (y :: z :: l) p => chkT t sc y && chkW w sc (.BoolOp .Or (z :: l) p)
    | _ => false
def chkOT : OT → Scope → List Expr → Bool
  | .yes => fun _ xs => match xs with
    | [] => true
    | _ => false
  | .one t => fun sc xs => match xs with
    | [x] => chkT t sc x
    | _ => false
def chkI : I → Scope → Expr → Expr → Bool
  | .seq a => fun sc _ x => chkE a sc x
  | .r1 a => fun sc _ x => match x with
    | .Call (.Name y _) [e] [] _ => decide (y = "range") && (glB sc "range" && (fb (.free "range") && (NoStar e && chkE a sc e)))
    | _ => false
  | .r2 a b => fun sc _ x => match x with
    | .Call (.Name y _) [e, e2] [] _ => decide (y = "range") && (glB sc "range" && (fb (.free "range") && (NoStar e && (NoStar e2 && (chkE a sc e && chkE b sc e2)))))
    | _ => false
  | .r3 a b c => fun sc _ x => match x with
    | .Call (.Name y _) [e, e2, e3] [] _ => decide (y = "range") && (glB sc "range" && (fb (.free "range") && (NoStar e && (NoStar e2 && (NoStar e3 && (chkE a sc e && (chkE b sc e2 && chkE c sc e3)))))))
    | _ => false
  | .enm a => fun sc tg x => match tg, x with
    | .Tuple _ _ _, .Call (.Name y _) [e] [] _ => decide (y = "enumerate") && (glB sc "enumerate" && (fb (.free "enumerate") && (NoStar e && chkE a sc e)))
    | _, _ => false
  | .keys p => fun sc _ x => chkPt fb N sc p x
  | .vals p => fun sc _ x => match x with
    | .Call (.Attribute e y ap) [] [] cp => decide (y = "values") && (NoCall0 e && (lineB ap cp && chkPt fb N sc p e))
    | _ => false
  | .items p => fun sc tg x => match tg, x with
    | .Tuple _ _ _, .Call (.Attribute e y ap) [] [] cp => decide (y = "items") && (NoCall0 e && (lineB ap cp && chkPt fb N sc p e))
    | _, _ => false
end
end

/-! ### the other defs that a term calls -/
mutual
def enE : E → List Ent
  | .var _ => [] | .own _ => [] | .int _ => [] | .str _ => [] | .bl _ => [] | .non => [] | .glob _ _ => [] | .blt _ _ => []
  | .bin _ a b => enE a ++ enE b
  | .neg a => enE a
  | .cmp _ a b => enE a ++ enE b
  | .chn _ _ a b c => enE a ++ (enE b ++ enE c)
  | .an a r => enE a ++ enE r
  | .orr a r => enE a ++ enE r
  | .one a => enE a
  | .not a => enE a
  | .ife t a b => enT t ++ (enE a ++ enE b)
  | .tup as => enEs as
  | .sub a b => enE a ++ enE b
  | .sli a lo hi => enE a ++ (enO lo ++ enO hi)
  | .rev a => enE a
  | .bc _ as => enEs as
  | .mth0 _ o => enE o
  | .mth _ o as => enE o ++ enEs as
  | .fs js => enEs js
  | .fs1 a => enE a
  | .fmt a => enE a
  | .fld _ _ a => enE a
  | .app x n ks m as kw => .fn x n ks m :: (enEs as ++ enEs kw)
  | .me C x n ks m o as kw => .me C x n ks m :: (enE o ++ (enEs as ++ enEs kw))
  | .pr C x m o => .pr C x m :: enE o
  | .frz f => enF f
  | .reg f => enF f
  | .oeq _ C m a b => .oq C m :: (enE a ++ enE b)
  | .lsc _ b _ t a => enE b ++ (enOT t ++ enE a)
def enF : F → List Ent
  | .lst as => enEs as
  | .cat a b => enE a ++ enE b
  | .lc _ it _ t a => enI it ++ (enOT t ++ enE a)
  | .dc _ it _ t k v => enI it ++ (enOT t ++ (enE k ++ enE v))
  | .dnew => []
  | .dsp ks => enK ks
def enEs : Es → List Ent
  | .nil => []
  | .cons a as => enE a ++ enEs as
def enK : Ks → List Ent
  | .nil => []
  | .cons k v r => enE k ++ (enE v ++ enK r)
def enO : O → List Ent
  | .no => []
  | .som a => enE a
def enT : T → List Ent
  | .val a => enE a
  | .cmp _ a b => enE a ++ enE b
  | .chn _ _ a b c => enE a ++ (enE b ++ enE c)
  | .not t => enT t
  | .w w => enW w
  | .oeq _ C m a b => .oq C m :: (enE a ++ enE b)
def enW : TW → List Ent
  | .one t => enT t
  | .an t w => enT t ++ enW w
  | .orr t w => enT t ++ enW w
def enOT : OT → List Ent
  | .yes => []
  | .one t => enT t
def enI : I → List Ent
  | .seq a => enE a
  | .r1 a => enE a
  | .r2 a b => enE a ++ enE b
  | .r3 a b c => enE a ++ (enE b ++ enE c)
  | .enm a => enE a
  | .keys _ => [] | .vals _ => [] | .items _ => []
end
mutual
def enS : S → List Ent
  | .pass => [] | .brk => [] | .cnt => [] | .ret0 => []
  | .ret e => enE e
  | .ite t a b => enT t ++ (enSs a ++ enSs b)
  | .drop e => enE e
  | .set _ e => enE e
  | .new _ f => enF f
  | .asg _ e => enE e
  | .par _ as => enEs as
  | .slc _ _ it _ t a => enI it ++ (enOT t ++ enE a)
  | .fo it _ b => enI it ++ enSs b
  | .app _ e => enE e
  | .putO _ k v => enE k ++ enE v
  | .attO _ _ _ e => enE e
  | .putC o k v => enE o ++ (enE k ++ enE v)
  | .raise _ _ e => enE e
  | .tr _ _ b h => enSs b ++ enSs h
  | .trA _ _ _ _ b => enSs b
def enSs : Ss → List Ent
  | .nil => []
  | .cons s ss => enS s ++ enSs ss
  | .frz _ ss => enSs ss
  | .reg _ ss => enSs ss
end
def AllE (P : Ent → Prop) (l : List Ent) : Prop := ∀ e ∈ l, P e
theorem AllE.l {P : Ent → Prop} {a b : List Ent} (h : AllE P (a ++ b)) : AllE P a := fun e he => h e (List.mem_append_left _ he)
theorem AllE.r {P : Ent → Prop} {a b : List Ent} (h : AllE P (a ++ b)) : AllE P b := fun e he => h e (List.mem_append_right _ he)
theorem AllE.hd {P : Ent → Prop} {a : Ent} {b : List Ent} (h : AllE P (a :: b)) : P a := h a List.mem_cons_self
theorem AllE.tl {P : Ent → Prop} {a : Ent} {b : List Ent} (h : AllE P (a :: b)) : AllE P b := fun e he => h e (List.mem_cons_of_mem _ he)
theorem AllE.nil {P : Ent → Prop} : AllE P [] := fun e he => by simp at he
theorem AllE.cons {P : Ent → Prop} {a : Ent} {b : List Ent} (h : P a) (hr : AllE P b) : AllE P (a :: b) := fun e he => by
  rcases List.mem_cons.mp he with q | q
  · rw [q]; exact h
  · exact hr e q
end DL
end
section
set_option Elab.async false
set_option linter.all false
set_option maxRecDepth 100000
set_option maxHeartbeats 4000000
set_option autoImplicit false
/-! DL: a term that is the text's computes what the text does: expressions -/
namespace DL
open PySem PySem.Spec L2
open PyProof.Rows hiding St

/-- the context of an expression -/
structure EX (L : Law) (X : Cx) (W : WX) (k : Nat) (N : List Str) (sc : Scope) : Prop where
  x : XOk L X k
  tk : Takes X W
  N : X.N = N
  sc : X.env.scope = sc
section
variable {L : Law} {X : Cx} {W : WX} {k : Nat} {N : List Str} {sc : Scope} {x y : Str} {i : Nat}
theorem gl_of (h : EX L X W k N sc) (b : glB sc x = true) : Gl X x := by
  have : sc.names.lookup x = some .globalImplicit := of_decide_eq_true b
  unfold Gl Env.kindOf
  rw [h.sc]; exact this
theorem vis_of (h : visB sc x = true) : Vis sc x := by
  unfold visB at h
  unfold Vis
  split at h
  · rename_i e; exact .inl e
  · rename_i e; exact .inr (.inl e)
  · rename_i e; exact .inr (.inr e)
  · cases h
theorem nm_of (h : EX L X W k N sc) (b : nmB N sc i x = true) : X.N[i]? = some x ∧ Vis X.env.scope x ∧ NmOk x = true := by
  unfold nmB at b
  simp only [Bool.and_eq_true, decide_eq_true_eq] at b
  exact ⟨by rw [h.N]; exact b.1, by rw [h.sc]; exact vis_of b.2.1, b.2.2⟩
theorem bootTy_of {n : String} (h : bootTy x n = true) : bootBuiltins x = some (.type n) := by
  unfold bootTy at h
  split at h
  · rename_i m e; rw [e, of_decide_eq_true h]
  · cases h
theorem noset_of {iter : Expr} {env : Env} (h : noSetB iter = true) : ∀ x, foldedSetIterable iter env x = pure x := by
  intro x
  cases iter with
  | Set _ _ _ => cases h
  | _ => rfl
theorem blk_of {scope : Scope} {own : Own} (h : blkB N sc scope own = true) : BlkOk N sc scope own := by
  unfold blkB at h
  simp only [Bool.and_eq_true, decide_eq_true_eq, List.all_eq_true] at h
  obtain ⟨h1, h2, h3, h4, h5⟩ := h
  refine ⟨h1, fun y hy => h2 y hy, fun p hp => h3 p hp, fun y hy e => ?_, fun y hy e => ?_⟩
  · have := h4 y hy
    simp only [e, decide_true, Bool.not_true, Bool.false_or, Bool.or_eq_true, decide_eq_true_eq] at this
    exact this
  · have := h5 y hy
    have e' : (decide (y.2 = .local) || decide (y.2 = .cell)) = true := by simpa using e
    simp only [e', Bool.not_true, Bool.false_or, Bool.or_eq_true, decide_eq_true_eq, Bool.not_eq_true', decide_eq_false_iff_not] at this
    exact this
theorem sub_of {p : Pat} {w : Own} (h : subB p w = true) : ∀ i ∈ p.ix, i ∈ w.map (·.2) := fun i hi => by
  unfold subB at h
  rw [List.all_eq_true] at h
  exact of_decide_eq_true (h i hi)
theorem EX.blk (h : EX L X W k N sc) {scope : Scope} (s : Shared) (H0 : Hp) (C : Addr) (cl : List (Str × Addr)) (fp : List Addr) : EX L (blkOf X scope s H0 C cl fp) noW k N (relS scope sc) :=
  ⟨h.x.blk s H0 C cl fp, fun _ _ ⟨_, _, _, _, _, _, _, _, _, _, _, _, _, _, _, _, w⟩ => w.elim, h.N, by show relS scope X.env.scope = _; rw [h.sc]⟩
mutual
theorem sG (h : EX L X W k N sc) : ∀ (p : Pat) (x : Expr), chkG N sc p x = true → DG L.c X x p
  | .v i, x, c => by
    simp only [chkG] at c
    split at c
    · simp only [Bool.and_eq_true, decide_eq_true_eq] at c
      exact g_var h.x (by rw [h.N]; exact c.1) (by rw [h.sc]; exact of_decide_eq_true c.2)
    · cases c
  | .t ps, x, c => by
    simp only [chkG] at c
    split at c
    · simp only [Bool.and_eq_true, decide_eq_true_eq] at c
      exact g_tup h.x c.1 (sGs h ps _ c.2.2) (fun ds st env env' hb => by rw [bindPs_len hb]; exact c.2.1)
    · cases c
theorem sGs (h : EX L X W k N sc) : ∀ (p : Pats) (xs : List Expr), chkGs N sc p xs = true → DGs L.c X xs p
  | .nil, xs, c => by
    simp only [chkGs] at c
    split at c
    · exact gs_nil
    · cases c
  | .cons p ps, xs, c => by
    simp only [chkGs] at c
    split at c
    · simp only [Bool.and_eq_true] at c
      exact gs_cons c.1 (sG h p _ c.2.1) (sGs h ps _ c.2.2)
    · cases c
end
theorem sPt {fb : Fct → Bool} (hfb : ∀ f, fb f = true → f.Ok L) (h : EX L X W k N sc) : ∀ (p : Pt) (x : Expr), chkPt fb N sc p x = true → DPth L.c X x (evPt p)
  | .v i, x, c => by
    simp only [chkPt] at c
    split at c
    · obtain ⟨h1, h2, h3⟩ := nm_of h c
      exact pth_var h1 h2 h3
    · cases c
  | .f C f p, x, c => by
    simp only [chkPt] at c
    split at c
    · simp only [Bool.and_eq_true, decide_eq_true_eq] at c
      obtain ⟨rfl, c2, c3, c4⟩ := c
      exact pth_fld h.x (hfb _ c2) (sPt hfb h p _ c4) c3
    · cases c
theorem s_bf {Z : Sig} (hZ : SigOk L Z) (hX : XOk L X k) (f : Bf) {e : Expr} {es : List Expr} {p pos : Pos} {as : AR} (hg : Gl X (bfName f)) (hm : FreeOk L (bfName f)) (hs : (e :: es).all NoStar = true) (ha : DAP L.c X W (e :: es) as) : DE L.c X W (.Call (.Name (bfName f) p) (e :: es) [] pos) (fCall (bfF Z f) as) := by
  have w := hX.toXOw
  have eK := hX.K
  cases f with
  | len => exact s_bcall w cr_lenA (by rw [eK]; exact cok_len) hg hm (by decide +kernel) (by decide) rfl hs ha
  | max => exact s_bcall w (CallR.or (call_max2 hX.calm) (cr_max hX.calm)) (by rw [eK]; exact cok_max) hg hm (by decide +kernel) (by decide) rfl hs ha
  | min => exact s_bcall w (CallR.or (call_min2 hX.calm) (cr_min hX.calm)) (by rw [eK]; exact cok_min) hg hm (by decide +kernel) (by decide) rfl hs ha
  | all => exact s_bcall w (cr_all hX.calm) (by rw [eK]; exact cok_al) hg hm (by decide +kernel) (by decide) rfl hs ha
  | any => exact s_bcall w (cr_any hX.calm) (by rw [eK]; exact cok_al) hg hm (by decide +kernel) (by decide) rfl hs ha
  | sum => exact s_bcall w (cr_sum hX.calm) (by rw [eK]; exact cok_sum) hg hm (by decide +kernel) (by decide) rfl hs ha
  | sorted => exact s_bcall w (cr_sortedA hX.calm) (by rw [eK]; exact cok_sortedA) hg hm (by decide +kernel) (by decide) rfl hs ha
  | isi => exact s_bcall w cr_isi (by rw [eK]; exact cok_isi hZ) hg hm (by decide +kernel) (by decide) rfl hs ha
  | repr => exact s_bcall w cr_repr cok_repr hg hm (by decide +kernel) (by decide) rfl hs ha
  | str => exact s_tcall w cr_str cok_str hg hm (by decide +kernel) (by decide) rfl hs ha
  | int => exact s_tcall w cr_int cok_int hg hm (by decide +kernel) (by decide) rfl hs ha
  | bool => exact s_tcall w call_bool1 cok_bool hg hm (by decide +kernel) (by decide) rfl hs ha
  | list => exact s_tcall w (cr_list hX.calm) (by rw [eK]; exact cok_list) hg hm (by decide +kernel) (by decide) rfl hs ha
  | tuple => exact s_tcall w call_tuple_of (by rw [eK]; exact cok_tuple) hg hm (by decide +kernel) (by decide) rfl hs ha
  | dict => exact s_tcall w (cr_dict hX.calm) (by rw [eK]; exact cok_dict) hg hm (by decide +kernel) (by decide) rfl hs ha
theorem few_of {env : Env} {pos : Pos} {es : List Expr} (hs : es.all NoStar = true) (hl : decide (es.length + 0 + 1 < 30) = true) : ((backTo pos (starEach es env)).all (fun x => !x.1) && (backToKw pos (keywordEach [] env)).all (fun x => x.1.isSome) && decide (es.length + ([] : List Keyword).length + (if ([] : List Keyword).isEmpty then 0 else 1) < 30)) = true := by
  have h2 : (backTo pos (starEach es env)).all (fun x => !x.1) = true := by
    have := no_stars (pos := pos) (env := env) hs
    rw [List.any_eq_false] at this
    rw [List.all_eq_true]
    intro y hy
    simpa using this y hy
  have hl : es.length + 0 + 1 < 30 := of_decide_eq_true hl
  rw [h2]
  simp [keywordEach, backToKw]
  omega
theorem s_mf (hX : XOk L X k) (m : Mf) {o e : Expr} {es : List Expr} {fo : ER} {as : AR} {apos pos : Pos} (hb : NoCall0 o = true) (hline : (apos.endLine == pos.line) = true) (hs : (e :: es).all NoStar = true) (hl : decide ((e :: es).length + 0 + 1 < 30) = true) (ho : DP L.c X W o fo) (ha : DAP L.c X W (e :: es) as) :
    DE L.c X W (.Call (.Attribute o (mfName m) apos) (e :: es) [] pos) (fMeth (mfF m) fo as) := by
  have w := hX.toXOw
  have eK := hX.K
  cases m with
  | split => exact s_meth w PySem.F.slot_str_split PySem.F.type_str_split mr_split mok_split ho ha hs (base_of hb) (few_of hs hl) hline
  | join => exact s_meth w PySem.F.slot_str_join PySem.F.type_str_join mt_join (by rw [eK]; exact mok_join) ho ha hs (base_of hb) (few_of hs hl) hline
  | starts => exact s_meth w PySem.F.slot_str_startswith PySem.F.type_str_startswith mt_startswith mok_starts ho ha hs (base_of hb) (few_of hs hl) hline
  | ends => exact s_meth w PySem.F.slot_str_endswith PySem.F.type_str_endswith mt_endswith mok_ends ho ha hs (base_of hb) (few_of hs hl) hline
  | part => exact s_meth w PySem.F.slot_str_partition PySem.F.type_str_partition mt_partition mok_part ho ha hs (base_of hb) (few_of hs hl) hline
  | upper => exact s_meth w PySem.F.slot_str_upper PySem.F.type_str_upper mt_upper mok_upper ho ha hs (base_of hb) (few_of hs hl) hline
  | index => exact s_meth w PySem.F.slot_str_index PySem.F.type_str_index mt_sindex mok_index ho ha hs (base_of hb) (few_of hs hl) hline
theorem s_mf0 (hX : XOk L X k) (m : Mf) {o : Expr} {fo : ER} {apos pos : Pos} (hb : NoCall0 o = true) (hline : (apos.endLine == pos.line) = true) (ho : DP L.c X W o fo) :
    DE L.c X W (.Call (.Attribute o (mfName m) apos) [] [] pos) (fMeth0 (mfF m) fo) := by
  have w := hX.toXOw
  have eK := hX.K
  cases m with
  | split => exact s_meth0 w PySem.F.slot_str_split PySem.F.type_str_split mr_split mok_split ho (base_of hb) hline
  | join => exact s_meth0 w PySem.F.slot_str_join PySem.F.type_str_join mt_join (by rw [eK]; exact mok_join) ho (base_of hb) hline
  | starts => exact s_meth0 w PySem.F.slot_str_startswith PySem.F.type_str_startswith mt_startswith mok_starts ho (base_of hb) hline
  | ends => exact s_meth0 w PySem.F.slot_str_endswith PySem.F.type_str_endswith mt_endswith mok_ends ho (base_of hb) hline
  | part => exact s_meth0 w PySem.F.slot_str_partition PySem.F.type_str_partition mt_partition mok_part ho (base_of hb) hline
  | upper => exact s_meth0 w PySem.F.slot_str_upper PySem.F.type_str_upper mt_upper mok_upper ho (base_of hb) hline
  | index => exact s_meth0 w PySem.F.slot_str_index PySem.F.type_str_index mt_sindex mok_index ho (base_of hb) hline
end
end DL
end
section
set_option Elab.async false
set_option linter.all false
set_option maxRecDepth 100000
set_option maxHeartbeats 8000000
set_option autoImplicit false
/-! DL: a term that is the text's computes what the text does: expressions, whole -/
namespace DL
open PySem PySem.Spec L2
open PyProof.Rows hiding St

section
variable {L : Law} {k : Nat} {N : List Str} {Z : Sig} {fb : Fct → Bool}
theorem alen_of : ∀ (as : Es) (pk : Bool), ALen (evAs Z as pk) (lenEs as)
  | .nil, _ => alen_nil
  | .cons a as, pk => alen_cons (alen_of as pk)
/-- both readings of a value that is not one's own -/
theorem both {X : Cx} {W : WX} {x : Expr} {f : ER} (h : DE L.c X W x f) : DE L.c X W x f ∧ DP L.c X W x f := ⟨h, h.dp⟩
mutual
theorem sE (hfb : ∀ f, fb f = true → f.Ok L) (hZ : SigOk L Z) : ∀ (e : E) (X : Cx) (W : WX) (sc : Scope) (x : Expr), EX L X W k N sc → AllE (Ent.Ok L k) (enE e) → chkE fb N e sc x = true → DE L.c X W x (evE Z e false) ∧ DP L.c X W x (evE Z e true)
  | .var i, X, W, sc, x, h, en, c => by
    simp only [chkE] at c
    split at c
    · obtain ⟨h1, h2, h3⟩ := nm_of h c
      exact ⟨s_var h1 h2 h3, p_var h1 h2 h3⟩
    · cases c
  | .own i, X, W, sc, x, h, en, c => by
    simp only [chkE] at c
    split at c
    · obtain ⟨h1, h2, h3⟩ := nm_of h c
      exact ⟨fun g env σ st Q w ev p => p.elim, p_var h1 h2 h3⟩
    · cases c
  | .int i, X, W, sc, x, h, en, c => by
    simp only [chkE] at c
    split at c
    · have c := of_decide_eq_true c
      subst c
      exact both s_int
    · cases c
  | .str i, X, W, sc, x, h, en, c => by
    simp only [chkE] at c
    split at c
    · have c := of_decide_eq_true c
      subst c
      exact both s_str
    · cases c
  | .bl i, X, W, sc, x, h, en, c => by
    simp only [chkE] at c
    split at c
    · have c := of_decide_eq_true c
      subst c
      exact both s_bl
    · cases c
  | .non, X, W, sc, x, h, en, c => by
    simp only [chkE] at c
    split at c
    · exact both s_non
    · cases c
  | .glob y d, X, W, sc, x, h, en, c => by
    simp only [chkE] at c
    split at c
    · simp only [Bool.and_eq_true, decide_eq_true_eq] at c
      obtain ⟨rfl, c2, c3, c4⟩ := c
      exact both (s_glob h.x.toXOw (gl_of h c2) (hfb _ c4) c3)
    · cases c
  | .blt y n, X, W, sc, x, h, en, c => by
    simp only [chkE] at c
    split at c
    · simp only [Bool.and_eq_true, decide_eq_true_eq, Bool.not_eq_true', decide_eq_false_iff_not] at c
      obtain ⟨rfl, c2, c3, c4, c5, c6⟩ := c
      exact both (s_blt h.x.toXOw (gl_of h c2) (hfb _ c4) (bootTy_of c5) c3 c6)
    · cases c
  | .bin op a b, X, W, sc, x, h, en, c => by
    simp only [chkE] at c
    split at c
    · simp only [Bool.and_eq_true, decide_eq_true_eq] at c
      obtain ⟨rfl, c1, c2⟩ := c
      exact both (s_bin h.x.toXOw (sE hfb hZ a X W sc _ h en.l c1).2 (sE hfb hZ b X W sc _ h en.r c2).2)
    · cases c
  | .neg a, X, W, sc, x, h, en, c => by
    simp only [chkE] at c
    split at c
    · exact both (s_neg (sE hfb hZ a X W sc _ h en c).2)
    · cases c
  | .cmp op a b, X, W, sc, x, h, en, c => by
    simp only [chkE] at c
    split at c
    · simp only [Bool.and_eq_true, decide_eq_true_eq, Bool.not_eq_true'] at c
      obtain ⟨rfl, c0, c1, c2⟩ := c
      exact both (s_cmp h.x.toXOw c0 (sE hfb hZ a X W sc _ h en.l c1).2 (sE hfb hZ b X W sc _ h en.r c2).2)
    · cases c
  | .oeq neg C m a b, X, W, sc, x, h, en, c => by
    simp only [chkE] at c
    split at c
    · simp only [Bool.and_eq_true, decide_eq_true_eq, Bool.not_eq_true'] at c
      obtain ⟨hop, c0, c1, c2⟩ := c
      obtain ⟨j, hj, M, hne⟩ := en.hd
      exact both (s_oeq hop (h.x.mono hj) M hne c0 (sE hfb hZ a X W sc _ h en.tl.l c1).1 (sE hfb hZ b X W sc _ h en.tl.r c2).1)
    · cases c
  | .chn op op2 a b d, X, W, sc, x, h, en, c => by
    simp only [chkE] at c
    split at c
    · simp only [Bool.and_eq_true, decide_eq_true_eq, Bool.not_eq_true'] at c
      obtain ⟨rfl, rfl, c0, c1, c2, c3⟩ := c
      exact both (s_chain h.x.toXOw c0 (sE hfb hZ a X W sc _ h en.l c1).2 (sE hfb hZ b X W sc _ h en.r.l c2).2 (sE hfb hZ d X W sc _ h en.r.r c3).2 (pe_chain (op_cmp h.x.toXOw.hu) (op_cmp h.x.toXOw.hu) pe_b pe_b pe_b c0))
    · cases c
  | .an a r, X, W, sc, x, h, en, c => by
    simp only [chkE] at c
    split at c
    · simp only [Bool.and_eq_true] at c
      exact both (s_and h.x.toXOw (sE hfb hZ a X W sc _ h en.l c.1).1 (sE hfb hZ r X W sc _ h en.r c.2).1)
    · cases c
  | .orr a r, X, W, sc, x, h, en, c => by
    simp only [chkE] at c
    split at c
    · simp only [Bool.and_eq_true] at c
      exact both (s_or h.x.toXOw (sE hfb hZ a X W sc _ h en.l c.1).1 (sE hfb hZ r X W sc _ h en.r c.2).1)
    · cases c
  | .one a, X, W, sc, x, h, en, c => by
    simp only [chkE] at c
    split at c
    · exact both (s_one (sE hfb hZ a X W sc _ h en c).1)
    · cases c
  | .not a, X, W, sc, x, h, en, c => by
    simp only [chkE] at c
    split at c
    · exact both (s_not h.x.toXOw (sE hfb hZ a X W sc _ h en c).2)
    · cases c
  | .ife t a b, X, W, sc, x, h, en, c => by
    simp only [chkE] at c
    split at c
    · simp only [Bool.and_eq_true] at c
      have ht := sT hfb hZ t X W sc _ h en.l c.1
      have ha := sE hfb hZ a X W sc _ h en.r.l c.2.1
      have hb := sE hfb hZ b X W sc _ h en.r.r c.2.2
      exact ⟨s_if ht ha.1 hb.1, p_if ht ha.2 hb.2⟩
    · cases c
  | .tup as, X, W, sc, x, h, en, c => by
    simp only [chkE] at c
    split at c
    · simp only [Bool.and_eq_true] at c
      exact both (s_tup (sEs hfb hZ as X W sc _ h en c.1 c.2).1)
    · cases c
  | .sub a b, X, W, sc, x, h, en, c => by
    simp only [chkE] at c
    split at c
    · simp only [Bool.and_eq_true] at c
      exact both (s_sub h.x.toXOw c.1 (sE hfb hZ a X W sc _ h en.l c.2.1).2 (sE hfb hZ b X W sc _ h en.r c.2.2).2)
    · cases c
  | .sli a lo hi, X, W, sc, x, h, en, c => by
    simp only [chkE] at c
    split at c
    · simp only [Bool.and_eq_true] at c
      exact both (s_slice h.x.toXOw (sE hfb hZ a X W sc _ h en.l c.1).2 (sO hfb hZ lo X W sc _ h en.r.l c.2.1) (sO hfb hZ hi X W sc _ h en.r.r c.2.2))
    · cases c
  | .rev a, X, W, sc, x, h, en, c => by
    simp only [chkE] at c
    split at c
    · exact both (s_rev (sE hfb hZ a X W sc _ h en c).2)
    · cases c
  | .bc f as, X, W, sc, x, h, en, c => by
    simp only [chkE] at c
    split at c
    · simp only [Bool.and_eq_true, decide_eq_true_eq] at c
      obtain ⟨rfl, c1, c2, c3, c4⟩ := c
      exact both (s_bf hZ h.x f (gl_of h c1) (hfb _ c2) c3 (sEs hfb hZ as X W sc _ h en c3 c4).2)
    · cases c
  | .mth0 m o, X, W, sc, x, h, en, c => by
    simp only [chkE] at c
    split at c
    · simp only [Bool.and_eq_true, decide_eq_true_eq] at c
      obtain ⟨rfl, c1, c2, c3⟩ := c
      exact both (s_mf0 h.x m c1 c2 (sE hfb hZ o X W sc _ h en c3).2)
    · cases c
  | .mth m o as, X, W, sc, x, h, en, c => by
    simp only [chkE] at c
    split at c
    · simp only [Bool.and_eq_true, decide_eq_true_eq] at c
      obtain ⟨rfl, c1, c2, c3, c4, c5, c6⟩ := c
      exact both (s_mf h.x m c1 c2 c3 (decide_eq_true c4) (sE hfb hZ o X W sc _ h en.l c5).2 (sEs hfb hZ as X W sc _ h en.r c3 c6).2)
    · cases c
  | .fs js, X, W, sc, x, h, en, c => by
    simp only [chkE] at c
    split at c
    · exact both (s_joined (sJ hfb hZ js X W sc _ h en c))
    · cases c
  | .fs1 a, X, W, sc, x, h, en, c => by
    simp only [chkE] at c
    split at c
    · exact both (s_joined1 (sE hfb hZ a X W sc _ h en c).1)
    · cases c
  | .fmt a, X, W, sc, x, h, en, c => by
    simp only [chkE] at c
    split at c
    · exact both (s_fmt (sE hfb hZ a X W sc _ h en c).2)
    · cases c
  | .fld C f a, X, W, sc, x, h, en, c => by
    simp only [chkE] at c
    split at c
    · simp only [Bool.and_eq_true, decide_eq_true_eq] at c
      obtain ⟨rfl, c1, c2, c3⟩ := c
      exact both (s_fld h.x.toXOw (hfb _ c1) (sE hfb hZ a X W sc _ h en c3).2 (base_of c2))
    · cases c
  | .app f n ks m as kw, X, W, sc, x, h, en, c => by
    simp only [chkE] at c
    split at c
    · simp only [Bool.and_eq_true, decide_eq_true_eq] at c
      obtain ⟨rfl, c1, c2, c3, c4, c5, rfl, rfl, c8, c9, c10⟩ := c
      have call : CallOk L k _ _ _ m := en.hd
      have hk := sKs hfb hZ kw X W sc _ h en.tl.r c10
      have lb : ALen (evAs Z kw false) _ := c8 ▸ alen_of kw false
      rename_i xs kws _
      cases xs with
      | nil =>
        cases as with
        | nil => exact both (s_appK0 h.x h.tk (gl_of h c1) (hfb _ c3) c2 call c5 hk lb)
        | cons a as => simp only [chkEs] at c9; cases c9
      | cons x0 xs => exact both (s_appK h.x h.tk (gl_of h c1) (hfb _ c3) c2 call c4 c5 (sEs hfb hZ as X W sc _ h en.tl.l c4 c9).1 hk (alen_of as false) lb)
    · cases c
  | .me C f n ks m o as kw, X, W, sc, x, h, en, c => by
    simp only [chkE] at c
    split at c
    · simp only [Bool.and_eq_true, decide_eq_true_eq] at c
      obtain ⟨rfl, c1, c2, c3, c4, c5, rfl, rfl, c8, c9, c10, c11⟩ := c
      have call : MethOk L k C _ _ _ m := en.hd
      have ho := (sE hfb hZ o X W sc _ h en.tl.l c9).1
      have hk := sKs hfb hZ kw X W sc _ h en.tl.r.r c11
      have lb : ALen (evAs Z kw false) _ := c8 ▸ alen_of kw false
      rename_i xs kws _
      cases xs with
      | nil =>
        cases as with
        | nil => exact both (s_meK0 h.x h.tk call c1 c5 (decide_eq_true c4) c2 ho hk lb)
        | cons a as => simp only [chkEs] at c10; cases c10
      | cons x0 xs => exact both (s_meK h.x h.tk call c1 c3 c5 (decide_eq_true c4) c2 ho (sEs hfb hZ as X W sc _ h en.tl.r.l c3 c10).1 hk (alen_of as false) lb)
    · cases c
  | .pr C f m o, X, W, sc, x, h, en, c => by
    simp only [chkE] at c
    split at c
    · simp only [Bool.and_eq_true, decide_eq_true_eq] at c
      obtain ⟨rfl, c1, c2⟩ := c
      obtain ⟨j, hj, P⟩ := (en.hd : ∃ j, j + 1 ≤ k ∧ PropOk L j C _ m)
      exact both (s_prop (h.x.mono hj) P c1 (sE hfb hZ o X W sc _ h en.tl c2).1)
    · cases c
  | .frz f, X, W, sc, x, h, en, c => both (sF hfb hZ f X W sc x h en c).de
  | .reg f, X, W, sc, x, h, en, c => both (sF hfb hZ f X W sc x h en c).dc
  | .lsc w b p t a, X, W, sc, x, h, en, c => by
    simp only [chkE] at c
    split at c
    · simp only [Bool.and_eq_true, decide_eq_true_eq] at c
      obtain ⟨rfl, c1, c2, c3, c4, c5, c6, c7, c8, c9⟩ := c
      exact both (s_lenSc h.x (gl_of h c1) (hfb _ c2) (i_seq h.x (sE hfb hZ b X W sc _ h en.l c5).1) (by rw [h.N, h.sc]; exact blk_of c3) (fun s H0 C cl fp => sG (h.blk s H0 C cl fp) p _ c6)
        (fun s H0 C cl fp => sOT hfb hZ t _ noW _ _ (h.blk s H0 C cl fp) en.r.l c8) (fun s H0 C cl fp => (sE hfb hZ a _ noW _ _ (h.blk s H0 C cl fp) en.r.r c9).1) (sub_of c7) (noset_of c4))
    · cases c
theorem sF (hfb : ∀ f, fb f = true → f.Ok L) (hZ : SigOk L Z) : ∀ (e : F) (X : Cx) (W : WX) (sc : Scope) (x : Expr), EX L X W k N sc → AllE (Ent.Ok L k) (enF e) → chkF fb N e sc x = true → DF L.c X W x (evF Z e)
  | .lst as, X, W, sc, x, h, en, c => by
    simp only [chkF] at c
    split at c
    · simp only [Bool.and_eq_true] at c
      exact d_lst (sEs hfb hZ as X W sc _ h en c.1 c.2).1
    · cases c
  | .cat a b, X, W, sc, x, h, en, c => by
    simp only [chkF] at c
    split at c
    · simp only [Bool.and_eq_true] at c
      exact d_cat (sE hfb hZ a X W sc _ h en.l c.1).2 (sE hfb hZ b X W sc _ h en.r c.2).2
    · cases c
  | .lc w it p t a, X, W, sc, x, h, en, c => by
    simp only [chkF] at c
    split at c
    · simp only [Bool.and_eq_true] at c
      obtain ⟨c3, c4, c5, c6, c7, c8, c9⟩ := c
      exact d_lc h.x (sI hfb hZ it X W sc _ _ h en.l c5) (by rw [h.N, h.sc]; exact blk_of c3) (fun s H0 C cl fp => sG (h.blk s H0 C cl fp) p _ c6)
        (fun s H0 C cl fp => sOT hfb hZ t _ noW _ _ (h.blk s H0 C cl fp) en.r.l c8) (fun s H0 C cl fp => (sE hfb hZ a _ noW _ _ (h.blk s H0 C cl fp) en.r.r c9).1) (sub_of c7) (noset_of c4)
    · cases c
  | .dc w it p t kk v, X, W, sc, x, h, en, c => by
    simp only [chkF] at c
    split at c
    · simp only [Bool.and_eq_true] at c
      obtain ⟨c3, c4, c5, c6, c7, c8, c9, c10⟩ := c
      exact d_dc h.x (sI hfb hZ it X W sc _ _ h en.l c5) (by rw [h.N, h.sc]; exact blk_of c3) (fun s H0 C cl fp => sG (h.blk s H0 C cl fp) p _ c6)
        (fun s H0 C cl fp => sOT hfb hZ t _ noW _ _ (h.blk s H0 C cl fp) en.r.l c8) (fun s H0 C cl fp => (sE hfb hZ kk _ noW _ _ (h.blk s H0 C cl fp) en.r.r.l c9).1) (fun s H0 C cl fp => (sE hfb hZ v _ noW _ _ (h.blk s H0 C cl fp) en.r.r.r c10).1) (sub_of c7) (noset_of c4)
    · cases c
  | .dnew, X, W, sc, x, h, en, c => by
    simp only [chkF] at c
    split at c
    · exact d_new
    · cases c
  | .dsp ks, X, W, sc, x, h, en, c => by
    simp only [chkF] at c
    split at c
    · simp only [Bool.and_eq_true, decide_eq_true_eq] at c
      obtain ⟨es, e1, e2, e3⟩ := sK hfb hZ ks X W sc _ _ h en c.2
      rw [e1]
      have hl : es.length ≤ 15 := by
        have := c.1
        rw [e1] at this
        simpa using this
      exact d_dsp e2 (fun z => by rw [z] at e1; cases e1) hl e3
    · cases c
theorem sEs (hfb : ∀ f, fb f = true → f.Ok L) (hZ : SigOk L Z) : ∀ (as : Es) (X : Cx) (W : WX) (sc : Scope) (xs : List Expr), EX L X W k N sc → AllE (Ent.Ok L k) (enEs as) → xs.all NoStar = true → chkEs fb N as sc xs = true → DA L.c X W xs (evAs Z as false) ∧ DAP L.c X W xs (evAs Z as true)
  | .nil, X, W, sc, xs, h, en, ns, c => by
    simp only [chkEs] at c
    split at c
    · exact ⟨a_nil, ap_nil⟩
    · cases c
  | .cons a as, X, W, sc, xs, h, en, ns, c => by
    simp only [chkEs] at c
    split at c
    · simp only [Bool.and_eq_true] at c
      rw [List.all_cons, Bool.and_eq_true] at ns
      have h1 := sE hfb hZ a X W sc _ h en.l c.1
      have h2 := sEs hfb hZ as X W sc _ h en.r ns.2 c.2
      exact ⟨a_cons (no_star ns.1) h1.1 h2.1, ap_cons (no_star ns.1) h1.2 h2.2⟩
    · cases c
theorem sKs (hfb : ∀ f, fb f = true → f.Ok L) (hZ : SigOk L Z) : ∀ (as : Es) (X : Cx) (W : WX) (sc : Scope) (xs : List Keyword), EX L X W k N sc → AllE (Ent.Ok L k) (enEs as) → chkKs fb N as sc xs = true → DPK L.c X W xs (evAs Z as false)
  | .nil, X, W, sc, xs, h, en, c => by
    simp only [chkKs] at c
    split at c
    · exact kw_nil
    · cases c
  | .cons a as, X, W, sc, xs, h, en, c => by
    simp only [chkKs] at c
    split at c
    · simp only [Bool.and_eq_true] at c
      exact kw_cons (sE hfb hZ a X W sc _ h en.l c.1).1 (sKs hfb hZ as X W sc _ h en.r c.2)
    · cases c
theorem sJ (hfb : ∀ f, fb f = true → f.Ok L) (hZ : SigOk L Z) : ∀ (as : Es) (X : Cx) (W : WX) (sc : Scope) (xs : List Expr), EX L X W k N sc → AllE (Ent.Ok L k) (enEs as) → chkEs fb N as sc xs = true → DJ L.c X W xs (evJ Z as)
  | .nil, X, W, sc, xs, h, en, c => by
    simp only [chkEs] at c
    split at c
    · exact j_nil
    · cases c
  | .cons a as, X, W, sc, xs, h, en, c => by
    simp only [chkEs] at c
    split at c
    · simp only [Bool.and_eq_true] at c
      exact j_cons (sE hfb hZ a X W sc _ h en.l c.1).2 (sJ hfb hZ as X W sc _ h en.r c.2)
    · cases c
theorem sK (hfb : ∀ f, fb f = true → f.Ok L) (hZ : SigOk L Z) : ∀ (r : Ks) (X : Cx) (W : WX) (sc : Scope) (xs : List (Option Expr)) (ys : List Expr), EX L X W k N sc → AllE (Ent.Ok L k) (enK r) → chkK fb N r sc xs ys = true → ∃ es : List Expr, xs = es.map some ∧ es.length = ys.length ∧ DK L.c X W es ys (evK Z r)
  | .nil, X, W, sc, xs, ys, h, en, c => by
    simp only [chkK] at c
    split at c
    · exact ⟨[], rfl, rfl, k_nil⟩
    · cases c
  | .cons a b r, X, W, sc, xs, ys, h, en, c => by
    simp only [chkK] at c
    split at c
    · simp only [Bool.and_eq_true] at c
      obtain ⟨es, e1, e2, e3⟩ := sK hfb hZ r X W sc _ _ h en.r.r c.2.2
      exact ⟨_ :: es, by rw [e1]; rfl, by simp [e2], k_cons (sE hfb hZ a X W sc _ h en.l c.1).1 (sE hfb hZ b X W sc _ h en.r.l c.2.1).1 e3⟩
    · cases c
theorem sO (hfb : ∀ f, fb f = true → f.Ok L) (hZ : SigOk L Z) : ∀ (o : O) (X : Cx) (W : WX) (sc : Scope) (x : Option Expr), EX L X W k N sc → AllE (Ent.Ok L k) (enO o) → chkO fb N o sc x = true → DO L.c X W x (evO Z o)
  | .no, X, W, sc, x, h, en, c => by
    simp only [chkO] at c
    split at c
    · exact o_none
    · cases c
  | .som a, X, W, sc, x, h, en, c => by
    simp only [chkO] at c
    split at c
    · exact o_some (sE hfb hZ a X W sc _ h en c).2
    · cases c
theorem sT (hfb : ∀ f, fb f = true → f.Ok L) (hZ : SigOk L Z) : ∀ (t : T) (X : Cx) (W : WX) (sc : Scope) (x : Expr), EX L X W k N sc → AllE (Ent.Ok L k) (enT t) → chkT fb N t sc x = true → DT L.c X W x (evT Z t)
  | .val a, X, W, sc, x, h, en, c => by
    simp only [chkT, Bool.and_eq_true] at c
    exact t_val h.x.toXOw (sE hfb hZ a X W sc _ h en c.2).2 (plain_test c.1)
  | .cmp op a b, X, W, sc, x, h, en, c => by
    simp only [chkT] at c
    split at c
    · simp only [Bool.and_eq_true, decide_eq_true_eq, Bool.not_eq_true'] at c
      obtain ⟨rfl, c0, c1, c2⟩ := c
      exact t_cmp h.x.toXOw c0 (sE hfb hZ a X W sc _ h en.l c1).2 (sE hfb hZ b X W sc _ h en.r c2).2
    · cases c
  | .oeq neg C m a b, X, W, sc, x, h, en, c => by
    simp only [chkT] at c
    split at c
    · simp only [Bool.and_eq_true, decide_eq_true_eq, Bool.not_eq_true'] at c
      obtain ⟨hop, c0, c1, c2⟩ := c
      obtain ⟨j, hj, M, hne⟩ := en.hd
      exact t_oeq hop (h.x.mono hj) M hne c0 (sE hfb hZ a X W sc _ h en.tl.l c1).1 (sE hfb hZ b X W sc _ h en.tl.r c2).1
    · cases c
  | .chn op op2 a b d, X, W, sc, x, h, en, c => by
    simp only [chkT] at c
    split at c
    · simp only [Bool.and_eq_true, decide_eq_true_eq, Bool.not_eq_true'] at c
      obtain ⟨rfl, rfl, c0, c1, c2, c3⟩ := c
      exact t_chain h.x.toXOw (sE hfb hZ a X W sc _ h en.l c1).2 (sE hfb hZ b X W sc _ h en.r.l c2).2 (sE hfb hZ d X W sc _ h en.r.r c3).2 c0
    · cases c
  | .not t, X, W, sc, x, h, en, c => by
    simp only [chkT] at c
    split at c
    · exact t_not (sT hfb hZ t X W sc _ h en c)
    · cases c
  | .w w, X, W, sc, x, h, en, c => (sW hfb hZ w X W sc x h en c).dt
theorem sW (hfb : ∀ f, fb f = true → f.Ok L) (hZ : SigOk L Z) : ∀ (t : TW) (X : Cx) (W : WX) (sc : Scope) (x : Expr), EX L X W k N sc → AllE (Ent.Ok L k) (enW t) → chkW fb N t sc x = true → DW L.c X W x (evW Z t)
  | .one t, X, W, sc, x, h, en, c => by
    simp only [chkW] at c
    split at c
    · exact w_one (sT hfb hZ t X W sc _ h en c)
    · cases c
  | .an t w, X, W, sc, x, h, en, c => by
    simp only [chkW] at c
    split at c
    · simp only [Bool.and_eq_true] at c
      exact w_and (sT hfb hZ t X W sc _ h en.l c.1) (sW hfb hZ w X W sc _ h en.r c.2)
    · cases c
  | .orr t w, X, W, sc, x, h, en, c => by
    simp only [chkW] at c
    split at c
    · simp only [Bool.and_eq_true] at c
      exact w_or (sT hfb hZ t X W sc _ h en.l c.1) (sW hfb hZ w X W sc _ h en.r c.2)
    · cases c
theorem sOT (hfb : ∀ f, fb f = true → f.Ok L) (hZ : SigOk L Z) : ∀ (t : OT) (X : Cx) (W : WX) (sc : Scope) (xs : List Expr), EX L X W k N sc → AllE (Ent.Ok L k) (enOT t) → chkOT fb N t sc xs = true → DTs L.c X W xs (evOT Z t)
  | .yes, X, W, sc, xs, h, en, c => by
    simp only [chkOT] at c
    split at c
    · exact ts_nil
    · cases c
  | .one t, X, W, sc, xs, h, en, c => by
    simp only [chkOT] at c
    split at c
    · exact ts_one (sT hfb hZ t X W sc _ h en c)
    · cases c
theorem sI (hfb : ∀ f, fb f = true → f.Ok L) (hZ : SigOk L Z) : ∀ (it : I) (X : Cx) (W : WX) (sc : Scope) (tg x : Expr), EX L X W k N sc → AllE (Ent.Ok L k) (enI it) → chkI fb N it sc tg x = true → DIX L.c X W tg x (evI Z it)
  | .seq a, X, W, sc, tg, x, h, en, c => by
    simp only [chkI] at c
    exact (i_seq h.x (sE hfb hZ a X W sc _ h en c).1).ix
  | .r1 a, X, W, sc, tg, x, h, en, c => by
    simp only [chkI] at c
    split at c
    · simp only [Bool.and_eq_true, decide_eq_true_eq] at c
      obtain ⟨rfl, c1, c2, c3, c4⟩ := c
      exact (i_rng1 h.x (gl_of h c1) (hfb _ c2) c3 (sE hfb hZ a X W sc _ h en c4).2).ix
    · cases c
  | .r2 a b, X, W, sc, tg, x, h, en, c => by
    simp only [chkI] at c
    split at c
    · simp only [Bool.and_eq_true, decide_eq_true_eq] at c
      obtain ⟨rfl, c1, c2, c3, c4, c5, c6⟩ := c
      exact (i_rng2 h.x (gl_of h c1) (hfb _ c2) c3 c4 (sE hfb hZ a X W sc _ h en.l c5).2 (sE hfb hZ b X W sc _ h en.r c6).2).ix
    · cases c
  | .r3 a b d, X, W, sc, tg, x, h, en, c => by
    simp only [chkI] at c
    split at c
    · simp only [Bool.and_eq_true, decide_eq_true_eq] at c
      obtain ⟨rfl, c1, c2, c3, c4, c5, c6, c7, c8⟩ := c
      exact (i_rng3 h.x (gl_of h c1) (hfb _ c2) c3 c4 c5 (sE hfb hZ a X W sc _ h en.l c6).2 (sE hfb hZ b X W sc _ h en.r.l c7).2 (sE hfb hZ d X W sc _ h en.r.r c8).2).ix
    · cases c
  | .enm a, X, W, sc, tg, x, h, en, c => by
    simp only [chkI] at c
    split at c
    · simp only [Bool.and_eq_true, decide_eq_true_eq] at c
      obtain ⟨rfl, c1, c2, c3, c4⟩ := c
      exact (i_enum h.x (gl_of h c1) (hfb _ c2) c3 (sE hfb hZ a X W sc _ h en c4).1).ix
    · cases c
  | .keys p, X, W, sc, tg, x, h, en, c => by
    simp only [chkI] at c
    exact ix_keys (sPt hfb h p x c)
  | .vals p, X, W, sc, tg, x, h, en, c => by
    simp only [chkI] at c
    split at c
    · simp only [Bool.and_eq_true, decide_eq_true_eq] at c
      obtain ⟨rfl, c1, c2, c3⟩ := c
      exact ix_vals (sPt hfb h p _ c3) c1 c2
    · cases c
  | .items p, X, W, sc, tg, x, h, en, c => by
    simp only [chkI] at c
    split at c
    · simp only [Bool.and_eq_true, decide_eq_true_eq] at c
      obtain ⟨rfl, c1, c2, c3⟩ := c
      exact ix_items (sPt hfb h p _ c3) c1 c2
    · cases c
end
end
end DL
end
section
set_option Elab.async false
set_option linter.all false
set_option maxRecDepth 100000
set_option maxHeartbeats 8000000
set_option autoImplicit false
/-! DL: a term that is the text's computes what the text does: statements -/
namespace DL
open PySem PySem.Spec L2
open PyProof.Rows hiding St

/-! ### stores that are swapped -/
def swB (sc : Scope) (value : Expr) (t : Str) (pos : Pos) : Bool := match value with
  | .ListComp _ _ s p => (sc.kind == .function && sc.names.lookup t == some .local && pos.line == p.line) && !(s.names.any fun (n, k) => n == t && (k == .local || k == .cell))
  | .SetComp _ _ s p => (sc.kind == .function && sc.names.lookup t == some .local && pos.line == p.line) && !(s.names.any fun (n, k) => n == t && (k == .local || k == .cell))
  | .DictComp _ _ _ s p => (sc.kind == .function && sc.names.lookup t == some .local && pos.line == p.line) && !(s.names.any fun (n, k) => n == t && (k == .local || k == .cell))
  | _ => false
theorem bk_of {env : Env} (h : env.scope.kind = .function) : env.blockKind = .function := by
  unfold Env.blockKind
  rw [h]; rfl
theorem swB_of {env : Env} {value : Expr} {t : Str} {pos : Pos} {line : Nat} (h : env.scope.kind = .function) : swapsWith value (some (.Name t pos)) line env = pure (swB env.scope value t pos) := by
  cases value with
  | ListComp a b s p =>
    show pure (env.blockKind == .function && env.kindOf t == some .local && pos.line == p.line && !(s.names.any fun (n, k) => n == t && (k == .local || k == .cell))) = _
    rw [bk_of h]
    unfold swB Env.kindOf
    rw [h]
  | SetComp a b s p =>
    show pure (env.blockKind == .function && env.kindOf t == some .local && pos.line == p.line && !(s.names.any fun (n, k) => n == t && (k == .local || k == .cell))) = _
    rw [bk_of h]
    unfold swB Env.kindOf
    rw [h]
  | DictComp a b d s p =>
    show pure (env.blockKind == .function && env.kindOf t == some .local && pos.line == p.line && !(s.names.any fun (n, k) => n == t && (k == .local || k == .cell))) = _
    rw [bk_of h]
    unfold swB Env.kindOf
    rw [h]
  | _ => rfl
def NoTup : Expr → Bool
  | .Tuple _ _ _ => false
  | _ => true
theorem tup_sole {es : List Expr} {j : Nat} {p : Pos} {value : Expr} {line : Nat} {env : Env} : swapsWithSole [.Tuple es j p] value line env = pure false := by
  cases value <;> rfl
theorem tup_none {es : List Expr} {j : Nat} {p : Pos} {value : Expr} {env : Env} (h : NoTup value = true) : swappedStores [.Tuple es j p] value env = pure none := by
  cases value with
  | Tuple _ _ _ => cases h
  | _ => rfl
/-- a tuple of values whose targets are not all local names on one line -/
def tgN (sc : Scope) (ts : List Expr) : List Str := ts.filterMap fun e => match e with
  | .Name id pos => if (sc.names.lookup id == some .local && pos.line == (ts.head?.map (·.pos.line)).getD 0) = true then some id else none
  | _ => none
theorem tup_none2 {ts vs : List Expr} {j j2 : Nat} {p p2 : Pos} {env : Env} (h : ((tgN env.scope ts).length != ts.length) = true) : swappedStores [.Tuple ts j p] (.Tuple vs j2 p2) env = pure none := by
  have h0 : swappedStores [.Tuple ts j p] (.Tuple vs j2 p2) env = (if (!(ts.length == 2 || ts.length == 3) || vs.length != ts.length || env.blockKind != .function) = true then pure none else
    if (vs.any fun e => match e with | .Starred .. => true | _ => false) = true then pure none else
    (fun names => if (List.length names != ts.length || names.eraseDups.length != names.length) = true then pure none else
      if vs.all (foldedForSure 8) = true then pure none else if vs.all (constantsAlone 8) = true then (do unsupported "assign.tuple-of-constant-expressions:order-of-the-stores"; pure (some names)) else pure (some names)) (tgN env.scope ts) : Sem (Option (List Str))) := by rfl
  rw [h0]
  dsimp only
  rw [h]
  simp
def asgB (sc : Scope) (ts : List Expr) : Expr → Bool
  | .Tuple _ _ _ => (tgN sc ts).length != ts.length
  | _ => true
theorem asg_none {ts : List Expr} {value : Expr} {j : Nat} {p : Pos} {env : Env} (h : asgB env.scope ts value = true) : swappedStores [.Tuple ts j p] value env = pure none := by
  cases value with
  | Tuple _ _ _ => exact tup_none2 h
  | _ => rfl
def par2B (sc : Scope) (x y : Str) (px py : Pos) (a b : Expr) : Bool := decide (sc.kind = .function) && (locB sc x && (locB sc y && (py.line == px.line && (!(x == y) && (NoStar a && (NoStar b && (!([a, b].all (foldedForSure 8)) && !([a, b].all (constantsAlone 8)))))))))
theorem par2_of {env : Env} {x y : Str} {px py pt pt2 : Pos} {kt k2 : Nat} {a b : Expr} (h : par2B env.scope x y px py a b = true) :
    swappedStores [.Tuple [.Name x px, .Name y py] kt pt] (.Tuple [a, b] k2 pt2) env = pure (some [x, y]) := by
  unfold par2B locB at h
  simp only [Bool.and_eq_true, decide_eq_true_eq, Bool.not_eq_true'] at h
  obtain ⟨hk, hx, hy, hl, hne, na, nb, hf, hc⟩ := h
  have hbk := bk_of hk
  have kx : (env.kindOf x == some NameKind.local) = true := by unfold Env.kindOf; rw [hx]; rfl
  have ky : (env.kindOf y == some NameKind.local) = true := by unfold Env.kindOf; rw [hy]; rfl
  have ns : ([a, b].any fun e => match e with | .Starred .. => true | _ => false) = false := by
    have f : ∀ e : Expr, NoStar e = true → (match e with | .Starred .. => true | _ => false) = false := fun e he => by
      cases e with
      | Starred _ _ => cases he
      | _ => rfl
    simp only [List.any_cons, List.any_nil, f a na, f b nb, Bool.or_self]
  have ed : [x, y].eraseDups.length = 2 := by
    have hne' : (y == x) = false := by
      rw [Bool.eq_false_iff] at hne ⊢
      intro z
      exact hne (by rw [beq_iff_eq] at z ⊢; exact z.symm)
    simp [List.eraseDups_cons, hne']
  have lx : (px.line == px.line) = true := beq_self_eq_true _
  have ef : ([Expr.Name x px, Expr.Name y py].filterMap fun e => match e with
    | .Name id pos => if (env.kindOf id == some .local && pos.line == px.line) = true then some id else none
    | _ => none) = [x, y] := by
    simp only [List.filterMap_cons, List.filterMap_nil, kx, ky, hl, lx, Bool.and_self, if_true]
  have h0 : swappedStores [.Tuple [.Name x px, .Name y py] kt pt] (.Tuple [a, b] k2 pt2) env = (if (!(2 == 2 || 2 == 3) || 2 != 2 || env.blockKind != .function) = true then pure none else
    if ([a, b].any fun e => match e with | .Starred .. => true | _ => false) = true then pure none else
    (fun names => if (List.length names != 2 || names.eraseDups.length != names.length) = true then pure none else
      if [a, b].all (foldedForSure 8) = true then pure none else if [a, b].all (constantsAlone 8) = true then (do unsupported "assign.tuple-of-constant-expressions:order-of-the-stores"; pure (some names)) else pure (some names)) ([Expr.Name x px, Expr.Name y py].filterMap fun e => match e with
    | .Name id pos => if (env.kindOf id == some .local && pos.line == px.line) = true then some id else none
    | _ => none) : Sem (Option (List Str))) := by rfl
  rw [h0, hbk, ns, ef]
  simp [ed, hf, hc]
def par3B (sc : Scope) (x y z : Str) (px py pz : Pos) (a b d : Expr) : Bool := decide (sc.kind = .function) && (locB sc x && (locB sc y && (locB sc z && (py.line == px.line && (pz.line == px.line && (!(x == y) && (!(x == z) && (!(y == z) && (NoStar a && (NoStar b && (NoStar d && (!([a, b, d].all (foldedForSure 8)) && !([a, b, d].all (constantsAlone 8))))))))))))))
theorem neq_symm {x y : Str} (h : (x == y) = false) : (y == x) = false := by
  rw [Bool.eq_false_iff] at h ⊢
  intro z
  exact h (by rw [beq_iff_eq] at z ⊢; exact z.symm)
theorem par3_of {env : Env} {x y z : Str} {px py pz pt pt2 : Pos} {kt k2 : Nat} {a b d : Expr} (h : par3B env.scope x y z px py pz a b d = true) :
    swappedStores [.Tuple [.Name x px, .Name y py, .Name z pz] kt pt] (.Tuple [a, b, d] k2 pt2) env = pure (some [x, y, z]) := by
  unfold par3B locB at h
  simp only [Bool.and_eq_true, decide_eq_true_eq, Bool.not_eq_true'] at h
  obtain ⟨hk, hx, hy, hz, hl, hl2, n1, n2, n3, na, nb, nd, hf, hc⟩ := h
  have hbk := bk_of hk
  have kx : (env.kindOf x == some NameKind.local) = true := by unfold Env.kindOf; rw [hx]; rfl
  have ky : (env.kindOf y == some NameKind.local) = true := by unfold Env.kindOf; rw [hy]; rfl
  have kz : (env.kindOf z == some NameKind.local) = true := by unfold Env.kindOf; rw [hz]; rfl
  have ns : ([a, b, d].any fun e => match e with | .Starred .. => true | _ => false) = false := by
    have f : ∀ e : Expr, NoStar e = true → (match e with | .Starred .. => true | _ => false) = false := fun e he => by
      cases e with
      | Starred _ _ => cases he
      | _ => rfl
    simp only [List.any_cons, List.any_nil, f a na, f b nb, f d nd, Bool.or_self]
  have ed : [x, y, z].eraseDups.length = 3 := by
    simp [List.eraseDups_cons, neq_symm n1, neq_symm n2, neq_symm n3]
  have lx : (px.line == px.line) = true := beq_self_eq_true _
  have ef : ([Expr.Name x px, Expr.Name y py, Expr.Name z pz].filterMap fun e => match e with
    | .Name id pos => if (env.kindOf id == some .local && pos.line == px.line) = true then some id else none
    | _ => none) = [x, y, z] := by
    simp only [List.filterMap_cons, List.filterMap_nil, kx, ky, kz, hl, hl2, lx, Bool.and_self, if_true]
  have h0 : swappedStores [.Tuple [.Name x px, .Name y py, .Name z pz] kt pt] (.Tuple [a, b, d] k2 pt2) env = (if (!(3 == 2 || 3 == 3) || 3 != 3 || env.blockKind != .function) = true then pure none else
    if ([a, b, d].any fun e => match e with | .Starred .. => true | _ => false) = true then pure none else
    (fun names => if (List.length names != 3 || names.eraseDups.length != names.length) = true then pure none else
      if [a, b, d].all (foldedForSure 8) = true then pure none else if [a, b, d].all (constantsAlone 8) = true then (do unsupported "assign.tuple-of-constant-expressions:order-of-the-stores"; pure (some names)) else pure (some names)) ([Expr.Name x px, Expr.Name y py, Expr.Name z pz].filterMap fun e => match e with
    | .Name id pos => if (env.kindOf id == some .local && pos.line == px.line) = true then some id else none
    | _ => none) : Sem (Option (List Str))) := by rfl
  rw [h0, hbk, ns, ef]
  simp [ed, hf, hc]

/-! ### the checker -/
mutual
def chkGV (N : List Str) (sc : Scope) : Pat → Expr → Bool
  | .v i => fun x => match x with
    | .Name y _ => decide (N[i]? = some y) && varB sc y
    | _ => false
  | .t ps => fun x => match x with
    | .Tuple es _ _ => es.all PlainTg && (decide (ps.len = es.length) && chkGVs N sc ps es)
    | _ => false
def chkGVs (N : List Str) (sc : Scope) : Pats → List Expr → Bool
  | .nil => fun xs => match xs with
    | [] => true
    | _ => false
  | .cons p ps => fun xs => match xs with
    | e :: es => PlainTg e && (chkGV N sc p e && chkGVs N sc ps es)
    | _ => false
end
def hdlB : Ss → List Stmt → Bool
  | .cons (.ret .non) .nil, [.Return (some (.Constant .none _ _)) _] => true
  | .cons (.ret (.bl b)) .nil, [.Return (some (.Constant (.bool c) _ _)) _] => decide (b = c)
  | .cons (.ret (.int b)) .nil, [.Return (some (.Constant (.int c) _ _)) _] => decide (b = c)
  | .cons (.ret (.str b)) .nil, [.Return (some (.Constant (.str c) _ _)) _] => decide (b = c)
  | _, _ => false
section
variable (fb : Fct → Bool) (N : List Str)
mutual
def chkS : S → Scope → Stmt → Bool
  | .pass => fun _ s => match s with
    | .Pass _ => true
    | _ => false
  | .brk => fun _ s => match s with
    | .Break _ => true
    | _ => false
  | .cnt => fun _ s => match s with
    | .Continue _ => true
    | _ => false
  | .ret e => fun sc s => match s with
    | .Return (some x) _ => chkE fb N e sc x
    | _ => false
  | .ret0 => fun _ s => match s with
    | .Return none _ => true
    | _ => false
  | .ite t a b => fun sc s => match s with
    | .If c u v _ => chkT fb N t sc c && (chkSs a sc u && chkSs b sc v)
    | _ => false
  | .drop e => fun sc s => match s with
    | .Expr x _ => NoCompE x && chkE fb N e sc x
    | _ => false
  | .set i e => fun sc s => match s with
    | .Assign [.Name y p] x _ => decide (N[i]? = some y) && (varB sc y && (!swB sc x y p && chkE fb N e sc x))
    | _ => false
  | .new i f => fun sc s => match s with
    | .Assign [.Name y p] x _ => decide (N[i]? = some y) && (varB sc y && (!swB sc x y p && chkF fb N f sc x))
    | _ => false
  | .asg pt e => fun sc s => match s with
    | .Assign [.Tuple es j tp] x _ => chkGV N sc pt (.Tuple es j tp) && (asgB sc es x && chkE fb N e sc x)
    | _ => false
  | .par is as => fun sc s => match s with
    | .Assign [.Tuple [.Name x px, .Name y py] _ _] (.Tuple [a, b] _ _) _ => match is with
      | [i, j] => decide (N[i]? = some x) && (decide (N[j]? = some y) && (!decide (i = j) && (par2B sc x y px py a b && ([a, b].all NoStar && chkEs fb N as sc [a, b]))))
      | _ => false
    | .Assign [.Tuple [.Name x px, .Name y py, .Name z pz] _ _] (.Tuple [a, b, d] _ _) _ => match is with
      | [i, j, l] => decide (N[i]? = some x) && (decide (N[j]? = some y) && (decide (N[l]? = some z) && (!decide (i = j) && (!decide (i = l) && (!decide (j = l) && (par3B sc x y z px py pz a b d && ([a, b, d].all NoStar && chkEs fb N as sc [a, b, d])))))))
      | _ => false
    | _ => false
  | .slc i w it pt t a => fun sc s => match s with
    | .Assign [.Name y p] (.ListComp elt [⟨tg, iter, ifs, 0⟩] scope cp) _ => decide (N[i]? = some y) && (locB sc y && (swB sc (.ListComp elt [⟨tg, iter, ifs, 0⟩] scope cp) y p && (blkB N sc scope w && (noSetB iter && (chkI fb N it sc tg iter && (chkG N (relS scope sc) pt tg && (subB pt w && (chkOT fb N t (relS scope sc) ifs && chkE fb N a (relS scope sc) elt))))))))
    | _ => false
  | .fo it pt b => fun sc s => match s with
    | .For tg iter body [] _ => noSetB iter && (chkI fb N it sc tg iter && (chkGV N sc pt tg && chkSs b sc body))
    | _ => false
  | .app i e => fun sc s => match s with
    | .Expr (.Call (.Attribute (.Name y _) m ap) [x] [] p) _ => decide (m = "append") && (nmB N sc i y && (NoStar x && (lineB ap p && chkE fb N e sc x)))
    | _ => false
  | .putO i k v => fun sc s => match s with
    | .Assign [.Subscript (.Name y _) kx _] vx _ => nmB N sc i y && (chkE fb N k sc kx && chkE fb N v sc vx)
    | _ => false
  | .attO i C f e => fun sc s => match s with
    | .Assign [.Attribute (.Name y _) g _] vx _ => decide (g = f) && (nmB N sc i y && (fb (.fld C f) && chkE fb N e sc vx))
    | _ => false
  | .putC o k v => fun sc s => match s with
    | .Assign [.Subscript ox kx _] vx _ => NoSlice kx && (chkE fb N o sc ox && (chkE fb N k sc kx && chkE fb N v sc vx))
    | _ => false
  | .raise C f e => fun sc s => match s with
    | .Raise (some (.Call (.Name y _) [x] [] _)) none _ => decide (y = C) && (glB sc C && (NmOk C && (NoStar x && (fb (.nm C) && (fb (.exc C f) && chkE fb N e sc x)))))
    | _ => false
  | .tr C l b h => fun sc s => match s with
    | .Try body [.ExceptHandler (some (.Name y _)) none (b0 :: suite) _] [] [] _ => decide (y = C) && (glB sc C && (NmOk C && (fb (.nm C) && (fb (.exm C l) && (chkSs b sc body && hdlB h (b0 :: suite))))))
    | _ => false
  | .trA i C l hes b => fun sc s => match s with
    | .Try body [.ExceptHandler (some (.Name y _)) (some n) [.Return (some (.List es _)) _] _] [] [] _ => decide (y = C) && (glB sc C && (NmOk C && (fb (.nm C) && (fb (.exm C l) && (decide (N[i]? = some n) && (locB sc n && (es.all NoStar && (hesB fb N sc i l hes es && chkSs b sc body))))))))
    | _ => false
def chkSs : Ss → Scope → List Stmt → Bool
  | .nil => fun _ xs => match xs with
    | [] => true
    | _ => false
  | .cons s ss => fun sc xs => match xs with
    | x :: xs => chkS s sc x && chkSs ss sc xs
    | _ => false
  | .frz _ ss => fun sc xs => chkSs ss sc xs
  | .reg _ ss => fun sc xs => chkSs ss sc xs
end
end

/-! ### soundness -/
structure SX (L : Law) (X : Cx) (W : WX) (k : Nat) (N : List Str) (sc : Scope) : Prop where
  so : SOk L X W k
  fk : sc.kind = .function
  N : X.N = N
  sc : X.env.scope = sc
  fn : X.fn = fun _ => true
section
variable {L : Law} {k : Nat} {N : List Str} {Z : Sig} {fb : Fct → Bool}
theorem SX.ex {X : Cx} {W : WX} {sc : Scope} (h : SX L X W k N sc) : EX L X W k N sc := ⟨h.so.x, h.so.tk, h.N, h.sc⟩
theorem varL_of {X : Cx} {W : WX} {sc : Scope} {y : Str} (h : SX L X W k N sc) (b : varB sc y = true) : VarL X y := by
  unfold varB at b
  unfold VarL
  rw [h.sc, h.fn]
  split at b
  · rename_i e; exact .inl e
  · rename_i e; exact .inr ⟨e, rfl⟩
  · cases b
theorem g_varL {X : Cx} {x : Str} {i : Nat} {pos : Pos} (hX : XOk L X k) (hN : X.N[i]? = some x) (hl : VarL X x) : DG L.c X (.Name x pos) (.v i) := fun g env σ st d v env' Q w ev r e q => by
  cases e
  refine bG_of (pg_name hX.nd hN hl.loc hl.fn) ?_
  exact q _ (ev.set r) ⟨by simp, fun j hj => by
    have : i ≠ j := fun z => hj (by simp [Pat.ix, z])
    exact List.getElem?_set_ne this⟩
mutual
theorem sGV {X : Cx} {W : WX} {sc : Scope} (h : SX L X W k N sc) : ∀ (p : Pat) (x : Expr), chkGV N sc p x = true → DG L.c X x p
  | .v i, x, c => by
    simp only [chkGV] at c
    split at c
    · simp only [Bool.and_eq_true, decide_eq_true_eq] at c
      exact g_varL h.so.x (by rw [h.N]; exact c.1) (varL_of h c.2)
    · cases c
  | .t ps, x, c => by
    simp only [chkGV] at c
    split at c
    · simp only [Bool.and_eq_true, decide_eq_true_eq] at c
      exact g_tup h.so.x c.1 (sGVs h ps _ c.2.2) (fun ds st env env' hb => by rw [bindPs_len hb]; exact c.2.1)
    · cases c
theorem sGVs {X : Cx} {W : WX} {sc : Scope} (h : SX L X W k N sc) : ∀ (p : Pats) (xs : List Expr), chkGVs N sc p xs = true → DGs L.c X xs p
  | .nil, xs, c => by
    simp only [chkGVs] at c
    split at c
    · exact gs_nil
    · cases c
  | .cons p ps, xs, c => by
    simp only [chkGVs] at c
    split at c
    · simp only [Bool.and_eq_true] at c
      exact gs_cons c.1 (sGV h p _ c.2.1) (sGVs h ps _ c.2.2)
    · cases c
end
theorem hdl_of {X : Cx} : ∀ (h : Ss) (ss : List Stmt), hdlB h ss = true → DSs L.c X noWX ss (evSs Z h) := by
  intro h ss c
  unfold hdlB at c
  split at c
  · exact ss_cons (s_ret s_non) ss_nil
  · have c := of_decide_eq_true c
    subst c
    exact ss_cons (s_ret s_bl) ss_nil
  · have c := of_decide_eq_true c
    subst c
    exact ss_cons (s_ret s_int) ss_nil
  · have c := of_decide_eq_true c
    subst c
    exact ss_cons (s_ret s_str) ss_nil
  · cases c
theorem pe_cls (hfb : ∀ f, fb f = true → f.Ok L) {X : Cx} {W : WX} {sc : Scope} (h : EX L X W k N sc) : ∀ (C : Nm) (z : Expr), clsB fb sc C z = true → ∀ (a : Addr) (pn : List (Addr × Obj)), PE (X.suite a pn) z (tC (nmV L C))
  | .own x, z, c, a, pn => by
    simp only [clsB] at c
    split at c
    · simp only [Bool.and_eq_true, decide_eq_true_eq] at c
      obtain ⟨rfl, c1, c2, c3⟩ := c
      exact pe_glob (X := X.suite a pn) (v := V.ref _) (show Gl X _ from gl_of h c1) (by show X.mg _ = _; rw [h.x.mg]; exact hfb _ c3) rfl (nm1 c2)
    · cases c
  | .ty x n, z, c, a, pn => by
    simp only [clsB] at c
    split at c
    · simp only [Bool.and_eq_true, decide_eq_true_eq, Bool.not_eq_true', decide_eq_false_iff_not] at c
      obtain ⟨rfl, c1, c2, c3, c4, c5⟩ := c
      exact pe_bltn (X := X.suite a pn) (v := .ty n) (show Gl X _ from gl_of h c1) (by show X.mg _ = _; rw [h.x.mg]; exact hfb _ c3) (bootTy_of c4) rfl c5 (nm1 c2)
    · cases c
theorem clsV_nm : ∀ C : Nm, ClsV (nmV L C) (nmC L C)
  | .own x => .own _
  | .ty x n => .ty n
theorem isa_of (hfb : ∀ f, fb f = true → f.Ok L) {X : Cx} {W : WX} {sc : Scope} (h : EX L X W k N sc) {i : Nat} {l m : List (Str × Bool)} {C : Nm} {e : Expr} (c : isaB fb N sc i l C m e = true) {y : Str} {b : Bool} (hl : l.lookup y = some true) (hm : m.lookup y = some b)
    {a dd : Addr} {oe : Obj} {pn : List (Addr × Obj)} {fs : List (Str × D)} {vs : List (Str × V)} (hz : Zc (.ref (L.c.ad y)) (some dd) oe) (hf : ∃ vs, oe.data = .fields vs) : HEok L (X.suite a ((a, oe) :: pn)) i a dd fs vs e (fun _ => some (.bl b)) := by
  unfold isaB at c
  split at c
  · simp only [Bool.and_eq_true, decide_eq_true_eq, List.all_eq_true] at c
    obtain ⟨rfl, c1, c2, c3, c4, c5⟩ := c
    obtain ⟨n1, n2, n3⟩ := nm_of h c3
    have c6 := c5 _ (PySem.mem_of_lookup hl)
    simp only [hm, Bool.not_true, Bool.false_or, Bool.and_eq_true] at c6
    exact he_isaG h.x.K h.x.mg n1 n2 n3 (gl_of h c1) (hfb _ c2) (hfb _ c6.2) hz hf (clsV_nm C) (pe_cls hfb h C _ c4) (hfb _ c6.1)
  · cases c
theorem he_of (hfb : ∀ f, fb f = true → f.Ok L) {X : Cx} {W : WX} {sc : Scope} (h : EX L X W k N sc) {i : Nat} {l : List (Str × Bool)} {y : Str} (hl : l.lookup y = some true)
    {a dd : Addr} {oe : Obj} {pn : List (Addr × Obj)} {fs : List (Str × D)} {vs : List (Str × V)} (hz : Zc (.ref (L.c.ad y)) (some dd) oe) (hf : ∃ vs, oe.data = .fields vs) : ∀ (he : HE) (e : Expr), heB fb N sc i l he e = true → HEok L (X.suite a ((a, oe) :: pn)) i a dd fs vs e (fun st => heD y fs st he)
  | .txt x, e, c => by
    simp only [heB] at c
    split at c
    · have c := of_decide_eq_true c
      subst c
      exact he_txt
    · cases c
  | .fld f, e, c => by
    simp only [heB] at c
    split at c
    · simp only [Bool.and_eq_true, decide_eq_true_eq, List.all_eq_true] at c
      obtain ⟨rfl, rfl, c1, c2, c3, c4⟩ := c
      obtain ⟨n1, n2, n3⟩ := nm_of h c3
      have c5 := c4 _ (PySem.mem_of_lookup hl)
      simp only [Bool.not_true, Bool.false_or] at c5
      exact he_fld h.x.K h.x.mg n1 n2 n3 (gl_of h c1) (hfb _ c2) (hfb _ c5) hz hf
    · cases c
  | .isa C m, e, c => by
    cases hm : m.lookup y with
    | none => exact fun g σ st d Q w hx e => by simp [heD, hm] at e
    | some b =>
      have q := isa_of (a := a) (pn := pn) (fs := fs) (vs := vs) hfb h (show isaB fb N sc i l C m e = true from c) hl hm hz hf
      have e2 : (fun st => heD y fs st (.isa C m)) = fun _ : Store => some (D.bl b) := by funext st; simp [heD, hm]
      rw [e2]
      exact q
  | .isaN C C2 m m2, e, c => by
    simp only [heB] at c
    split at c
    · simp only [Bool.and_eq_true] at c
      cases hm : m.lookup y with
      | none => exact fun g σ st d Q w hx e => by simp [heD, hm] at e
      | some b =>
        cases hm2 : m2.lookup y with
        | none => exact fun g σ st d Q w hx e => by simp [heD, hm, hm2] at e
        | some b2 =>
          have q1 := isa_of (a := a) (pn := pn) (fs := fs) (vs := vs) hfb h c.1 hl hm hz hf
          have q2 := isa_of (a := a) (pn := pn) (fs := fs) (vs := vs) hfb h c.2 hl hm2 hz hf
          have e2 : (fun st => heD y fs st (.isaN C C2 m m2)) = fun _ : Store => some (D.bl (b && !b2)) := by funext st; simp [heD, hm, hm2]
          rw [e2]
          exact he_and q1 q2
    · cases c
theorem hes_of (hfb : ∀ f, fb f = true → f.Ok L) {X : Cx} {W : WX} {sc : Scope} (h : EX L X W k N sc) {i : Nat} {l : List (Str × Bool)} {y : Str} (hl : l.lookup y = some true)
    {a dd : Addr} {oe : Obj} {pn : List (Addr × Obj)} {fs : List (Str × D)} {vs : List (Str × V)} (hz : Zc (.ref (L.c.ad y)) (some dd) oe) (hf : ∃ vs, oe.data = .fields vs) : ∀ (hes : List HE) (es : List Expr), hesB fb N sc i l hes es = true → Paired (fun e q => HEok L (X.suite a ((a, oe) :: pn)) i a dd fs vs e (fun st => heD y fs st q)) es hes
  | [], [], _ => .nil
  | q :: qs, e :: es, c => by
    have c : (heB fb N sc i l q e && hesB fb N sc i l qs es) = true := c
    rw [Bool.and_eq_true] at c
    exact .cons (he_of hfb h hl hz hf q e c.1) (hes_of hfb h hl hz hf qs es c.2)
  | [], _ :: _, c => by cases c
  | _ :: _, [], c => by cases c
mutual
theorem sS (hfb : ∀ f, fb f = true → f.Ok L) (hZ : SigOk L Z) : ∀ (s : S) (X : Cx) (W : WX) (sc : Scope) (x : Stmt), SX L X W k N sc → AllE (Ent.Ok L k) (enS s) → chkS fb N s sc x = true → DS L.c X W x (evS Z s)
  | .pass, X, W, sc, x, h, en, c => by
    simp only [chkS] at c
    split at c
    · exact s_pass
    · cases c
  | .brk, X, W, sc, x, h, en, c => by
    simp only [chkS] at c
    split at c
    · exact s_break
    · cases c
  | .cnt, X, W, sc, x, h, en, c => by
    simp only [chkS] at c
    split at c
    · exact s_cont
    · cases c
  | .ret e, X, W, sc, x, h, en, c => by
    simp only [chkS] at c
    split at c
    · exact s_ret (sE hfb hZ e X W sc _ h.ex en c).1
    · cases c
  | .ret0, X, W, sc, x, h, en, c => by
    simp only [chkS] at c
    split at c
    · exact s_ret0
    · cases c
  | .ite t a b, X, W, sc, x, h, en, c => by
    simp only [chkS] at c
    split at c
    · simp only [Bool.and_eq_true] at c
      exact s_ifs (sT hfb hZ t X W sc _ h.ex en.l c.1) (sSs hfb hZ a X W sc _ h en.r.l c.2.1) (sSs hfb hZ b X W sc _ h en.r.r c.2.2)
    · cases c
  | .drop e, X, W, sc, x, h, en, c => by
    simp only [chkS] at c
    split at c
    · simp only [Bool.and_eq_true] at c
      exact s_expr c.1 (sE hfb hZ e X W sc _ h.ex en c.2).2
    · cases c
  | .set i e, X, W, sc, x, h, en, c => by
    simp only [chkS] at c
    split at c
    · simp only [Bool.and_eq_true, decide_eq_true_eq, Bool.not_eq_true'] at c
      obtain ⟨c1, c2, c3, c4⟩ := c
      exact s_set h.so.x (by rw [h.N]; exact c1) (varL_of h c2) (by rw [swB_of (by rw [h.sc]; exact h.fk), h.sc, c3]) (sE hfb hZ e X W sc _ h.ex en c4).1
    · cases c
  | .new i f, X, W, sc, x, h, en, c => by
    simp only [chkS] at c
    split at c
    · simp only [Bool.and_eq_true, decide_eq_true_eq, Bool.not_eq_true'] at c
      obtain ⟨c1, c2, c3, c4⟩ := c
      exact s_new h.so.x (by rw [h.N]; exact c1) (varL_of h c2) (by rw [swB_of (by rw [h.sc]; exact h.fk), h.sc, c3]) (sF hfb hZ f X W sc _ h.ex en c4)
    · cases c
  | .asg pt e, X, W, sc, x, h, en, c => by
    simp only [chkS] at c
    split at c
    · simp only [Bool.and_eq_true] at c
      obtain ⟨c1, c2, c3⟩ := c
      exact s_asg (sGV h pt _ c1) tup_sole (asg_none (by rw [h.sc]; exact c2)) rfl (sE hfb hZ e X W sc _ h.ex en c3).1
    · cases c
  | .par is as, X, W, sc, x, h, en, c => by
    simp only [chkS] at c
    split at c
    · split at c
      · simp only [Bool.and_eq_true, decide_eq_true_eq, Bool.not_eq_true', decide_eq_false_iff_not] at c
        obtain ⟨c1, c2, c3, c4, c5, c6⟩ := c
        have c4' := c4
        unfold par2B locB at c4'
        simp only [Bool.and_eq_true, decide_eq_true_eq] at c4'
        exact s_par h.so.x (by rw [h.N]; exact c1) (by rw [h.N]; exact c2) c3 (by rw [h.sc]; exact c4'.2.1) (by rw [h.sc]; exact c4'.2.2.1) (par2_of (by rw [h.sc]; exact c4)) (sEs hfb hZ as X W sc _ h.ex en c5 c6).1
      · cases c
    · split at c
      · simp only [Bool.and_eq_true, decide_eq_true_eq, Bool.not_eq_true', decide_eq_false_iff_not] at c
        obtain ⟨c1, c2, c3, c4, c5, c6, c7, c8, c9⟩ := c
        have c7' := c7
        unfold par3B locB at c7'
        simp only [Bool.and_eq_true, decide_eq_true_eq] at c7'
        exact s_par3 h.so.x (by rw [h.N]; exact c1) (by rw [h.N]; exact c2) (by rw [h.N]; exact c3) c4 c5 c6 (by rw [h.sc]; exact c7'.2.1) (by rw [h.sc]; exact c7'.2.2.1) (by rw [h.sc]; exact c7'.2.2.2.1) (par3_of (by rw [h.sc]; exact c7)) (sEs hfb hZ as X W sc _ h.ex en c8 c9).1
      · cases c
    · cases c
  | .slc i w it pt t a, X, W, sc, x, h, en, c => by
    simp only [chkS] at c
    split at c
    · simp only [Bool.and_eq_true, decide_eq_true_eq] at c
      obtain ⟨c0, c1, c2, c3, c4, c5, c6, c7, c8, c9⟩ := c
      exact s_setLc (f := fun _ _ => .bad) h.so.x (by rw [h.N]; exact c0) (by rw [h.sc]; exact of_decide_eq_true c1) (by rw [swB_of (by rw [h.sc]; exact h.fk), h.sc, c2]) (sI hfb hZ it X W sc _ _ h.ex en.l c5) (by rw [h.N, h.sc]; exact blk_of c3)
        (fun s H0 C cl fp => sG (h.ex.blk s H0 C cl fp) pt _ c6) (fun s H0 C cl fp => sOT hfb hZ t _ noW _ _ (h.ex.blk s H0 C cl fp) en.r.l c8) (fun s H0 C cl fp => (sE hfb hZ a _ noW _ _ (h.ex.blk s H0 C cl fp) en.r.r c9).1) (sub_of c7) (noset_of c4)
    · cases c
  | .fo it pt b, X, W, sc, x, h, en, c => by
    simp only [chkS] at c
    split at c
    · simp only [Bool.and_eq_true] at c
      obtain ⟨c1, c2, c3, c4⟩ := c
      exact s_for h.so (sI hfb hZ it X W sc _ _ h.ex en.l c2) (sGV h pt _ c3) (sSs hfb hZ b X W sc _ h en.r c4) (noset_of c1)
    · cases c
  | .app i e, X, W, sc, x, h, en, c => by
    simp only [chkS] at c
    split at c
    · simp only [Bool.and_eq_true, decide_eq_true_eq] at c
      obtain ⟨rfl, c1, c2, c3, c4⟩ := c
      obtain ⟨h1, h2, h3⟩ := nm_of h.ex c1
      exact s_append h.so.x.toXOw h1 h2 h3 c2 c3 (sE hfb hZ e X W sc _ h.ex en c4).1
    · cases c
  | .putO i kk v, X, W, sc, x, h, en, c => by
    simp only [chkS] at c
    split at c
    · simp only [Bool.and_eq_true] at c
      obtain ⟨c1, c2, c3⟩ := c
      obtain ⟨h1, h2, h3⟩ := nm_of h.ex c1
      exact s_putO h.so.x.toXOw h1 h2 h3 (sE hfb hZ kk X W sc _ h.ex en.l c2).1 (sE hfb hZ v X W sc _ h.ex en.r c3).1
    · cases c
  | .attO i C f e, X, W, sc, x, h, en, c => by
    simp only [chkS] at c
    split at c
    · simp only [Bool.and_eq_true, decide_eq_true_eq] at c
      obtain ⟨rfl, c1, c2, c3⟩ := c
      obtain ⟨h1, h2, h3⟩ := nm_of h.ex c1
      exact s_attO h.so.x.toXOw (hfb _ c2) h1 h2 h3 (sE hfb hZ e X W sc _ h.ex en c3).1
    · cases c
  | .putC o kk v, X, W, sc, x, h, en, c => by
    simp only [chkS] at c
    split at c
    · simp only [Bool.and_eq_true] at c
      obtain ⟨c1, c2, c3, c4⟩ := c
      exact s_putC h.so.x.toXOw c1 (sE hfb hZ o X W sc _ h.ex en.l c2).1 (sE hfb hZ kk X W sc _ h.ex en.r.l c3).1 (sE hfb hZ v X W sc _ h.ex en.r.r c4).1
    · cases c
  | .raise C f e, X, W, sc, x, h, en, c => by
    simp only [chkS] at c
    split at c
    · simp only [Bool.and_eq_true, decide_eq_true_eq] at c
      obtain ⟨rfl, c1, c2, c3, c4, c5, c6⟩ := c
      exact s_raise h.so (hfb _ c5) (gl_of h.ex c1) (hfb _ c4) c2 c3 (sE hfb hZ e X W sc _ h.ex en c6).1
    · cases c
  | .tr C l b hd, X, W, sc, x, h, en, c => by
    simp only [chkS] at c
    split at c
    · simp only [Bool.and_eq_true, decide_eq_true_eq] at c
      obtain ⟨rfl, c1, c2, c3, c4, c5, c6⟩ := c
      refine s_try h.so ⟨gl_of h.ex c1, nm1 c2, .inl (NmTo.at (hfb _ c3) h.so.x)⟩ (hfb _ c4) (fun W' pn xe tk po => sSs hfb hZ b (X.tr pn xe) W' sc _ ⟨⟨⟨⟨h.so.x.P, h.so.x.w, h.so.x.K, h.so.x.mg, h.so.x.base, h.so.x.un, h.so.x.nd⟩, h.so.x.calm, h.so.x.room⟩, tk, po, h.so.hs, h.so.hf, h.so.ex⟩, h.fk, h.N, h.sc, h.fn⟩ en.l c5) fun a oe pn => hdl_of hd _ c6
    · cases c
  | .trA i C l hes b, X, W, sc, x, h, en, c => by
    simp only [chkS] at c
    split at c
    · simp only [Bool.and_eq_true, decide_eq_true_eq] at c
      obtain ⟨rfl, c1, c2, c3, c4, c5, c6, c7, c8, c9⟩ := c
      refine s_tryAs h.so (by rw [h.N]; exact c5) (by unfold Env.kindOf; rw [h.sc]; exact of_decide_eq_true c6) ⟨gl_of h.ex c1, nm1 c2, .inl (NmTo.at (hfb _ c3) h.so.x)⟩ (hfb _ c4) (fun W' pn xe tk po => sSs hfb hZ b (X.tr pn xe) W' sc _ ⟨⟨⟨⟨h.so.x.P, h.so.x.w, h.so.x.K, h.so.x.mg, h.so.x.base, h.so.x.un, h.so.x.nd⟩, h.so.x.calm, h.so.x.room⟩, tk, po, h.so.hs, h.so.hf, h.so.ex⟩, h.fk, h.N, h.sc, h.fn⟩ en c9) c7 fun y hy a dd oe pn fs vs hz hf => hes_of hfb h.ex hy hz hf hes _ c8
    · cases c
theorem sSs (hfb : ∀ f, fb f = true → f.Ok L) (hZ : SigOk L Z) : ∀ (s : Ss) (X : Cx) (W : WX) (sc : Scope) (xs : List Stmt), SX L X W k N sc → AllE (Ent.Ok L k) (enSs s) → chkSs fb N s sc xs = true → DSs L.c X W xs (evSs Z s)
  | .nil, X, W, sc, xs, h, en, c => by
    simp only [chkSs] at c
    split at c
    · exact ss_nil
    · cases c
  | .cons s ss, X, W, sc, xs, h, en, c => by
    simp only [chkSs] at c
    split at c
    · simp only [Bool.and_eq_true] at c
      exact ss_cons (sS hfb hZ s X W sc _ h en.l c.1) (sSs hfb hZ ss X W sc _ h en.r c.2)
    · cases c
  | .frz i ss, X, W, sc, xs, h, en, c => ss_frz (sSs hfb hZ ss X W sc xs h en c)
  | .reg i ss, X, W, sc, xs, h, en, c => ss_reg (sSs hfb hZ ss X W sc xs h en c)
end
end
end DL
end
section
set_option Elab.async false
set_option linter.all false
set_option maxRecDepth 100000
set_option maxHeartbeats 2000000
set_option autoImplicit false
/-! DL: str.replace: what runs where a token is out -/
namespace DL
open PySem PySem.Builtin PySem.Builtin.Str
/-- replace with a count -/
def replaceN (x y z : Str) (k : Int) : Str :=
  if ((occurrences x y 0 x.length (limitOf x k)).isEmpty || (y.length == 0 && z.length == 0)) = true then x
  else glued z (partsBetween x (occurrences x y 0 x.length (limitOf x k)) y.length)
theorem gives_replaceN (x y z : Str) (k : Int) (t u v w : Tok) (hk : (decide (k < -(2 ^ 63 : Int)) || decide (k ≥ 2 ^ 63)) = false)
    (h0 : (u == 0 || v == 0) = false) (huv : (u == v) = false) (hyz : (y == z) = false) (hl : tooLong (x.length + (occurrences x y 0 x.length (limitOf x k)).length * z.length) = false) :
    Gives («str.replace» ⟨[.str x t, .str y u, .str z v, .int k w], []⟩) (if ((occurrences x y 0 x.length (limitOf x k)).isEmpty || (y.length == 0 && z.length == 0)) = true then .val (.str x t) else .str (glued z (partsBetween x (occurrences x y 0 x.length (limitOf x k)) y.length))) := by
  have tree : «str.replace» ⟨[.str x t, .str y u, .str z v, .int k w], []⟩ = (if ((occurrences x y 0 x.length (limitOf x k)).isEmpty || (y.length == 0 && z.length == 0)) = true then (do rule "str.replace.nothing"; ret (.str x t)) else
          (do let same ← isSame (.str y u) (.str z v)
              if same = true then (do rule "str.replace.old-is-new"; ret (.str x t)) else
              if tooLong (x.length + (occurrences x y 0 x.length (limitOf x k)).length * z.length) = true then unsupported "str.replace:memory" else
              retStr (glued z (partsBetween x (occurrences x y 0 x.length (limitOf x k)) y.length)))) := by
    show (do let limit ← countLimit "str.replace" (some (.int k w)) (x.length + 1); _) = _
    rw [countLimit_int "str.replace" k w (x.length + 1) hk]
    rfl
  rw [tree]
  cases hc : ((occurrences x y 0 x.length (limitOf x k)).isEmpty || (y.length == 0 && z.length == 0))
  · rw [isSame_str_other y z u v h0 huv hyz, hl]
    exact .of_eq rfl
  · exact .rule (.of_eq rfl)
theorem call_replaceN {prog : Program} {w : World} {A : Around} {E : Value → Shared → Prop} {s : Shared} {x y z : Str} {k : Int} {t u v q : Tok} {Q : Value → Shared → Prop} (hk : (decide (k < -(2 ^ 63 : Int)) || decide (k ≥ 2 ^ 63)) = false)
    (hu : u ≠ 0) (hv : v ≠ 0) (huv : u ≠ v) (hyz : (y == z) = false) (hb : x.length + (x.length + 1) * z.length ≤ 16777216) (hkn : limitOf x k ≤ x.length + 1)
    (hq : ∀ t' k', Q (.str (replaceN x y z k) t') { s with toks := k' }) : wpAny (model prog w) A (call (.builtin "str.replace") [.str x t, .str y u, .str z v, .int k q]) Q E s := by
  have h1 := StrLaws.occ_length_le x y 0 x.length (limitOf x k)
  have h2 : (occurrences x y 0 x.length (limitOf x k)).length * z.length ≤ (x.length + 1) * z.length := Nat.mul_le_mul_right _ (Nat.le_trans h1 hkn)
  have hl : tooLong (x.length + (occurrences x y 0 x.length (limitOf x k)).length * z.length) = false := by
    unfold tooLong sizeLine
    exact decide_eq_false (by omega)
  have hy : (glued y (partsBetween x (occurrences x y 0 x.length (limitOf x k)) y.length)).length = x.length := by rw [StrLaws.glued_between_self]
  rw [size_glued, length_partsBetween, Nat.add_sub_cancel] at hy
  have fit : (glued z (partsBetween x (occurrences x y 0 x.length (limitOf x k)) y.length)).length ≤ sizeLine := by
    rw [size_glued, length_partsBetween, Nat.add_sub_cancel, sizeLine_eq]
    omega
  refine call_gives F.slot_str_replace (typeIs_str _ _ _) F.entry_str_replace (F.args_str_replace_4 _ _ _ _)
    (gives_replaceN x y z k t u v q hk (by simp [hu, hv]) (by simp [huv]) hyz hl) ?_
  have hq' := hq
  unfold replaceN at hq'
  cases hc : ((occurrences x y 0 x.length (limitOf x k)).isEmpty || (y.length == 0 && z.length == 0))
  · rw [hc] at hq'
    simp only [Bool.false_eq_true, if_false] at hq' ⊢
    exact ⟨fit, hq' _ _⟩
  · rw [hc] at hq'
    simp only [if_true] at hq' ⊢
    exact hq' t s.toks
end DL
namespace DL
open PySem PySem.Spec L2
open PyProof.Rows hiding St
section
variable {X : Cx} {e : Expr} {es : List Expr} {st : Stmt} {ss : List Stmt} {σ : St} {H : Hp}
def bET (X : Cx) (e : Expr) : TE := fun σ H Q => ∀ pins s, 1 ≤ s.toks → Inv X pins σ H s → wpAny (model X.prog X.w) X.A (eval e X.env) (EP X pins σ Q) X.xe s
theorem pet_b : PET X e (bET X e) := fun pins s σ H Q h0 I h => h pins s h0 I
theorem bET_of {t : TE} {Q : VK} (h : PET X e t) (q : t σ H Q) : bET X e σ H Q := fun pins s h0 I => h pins s σ H Q h0 I q
def bAT (X : Cx) (es : List Expr) : TA := fun σ H Q => ∀ (pos : Pos) pins s, 1 ≤ s.toks → Inv X pins σ H s → wpAny (model X.prog X.w) X.A (spliced (backTo pos (starEach es X.env))) (AP X pins σ Q) X.xe s
theorem pat_b : PAT X es (bAT X es) := fun pos pins s σ H Q h0 I h => h pos pins s h0 I
theorem bAT_of {t : TA} {Q : List V → Hp → Prop} (h : PAT X es t) (q : t σ H Q) : bAT X es σ H Q := fun pos pins s h0 I => h pos pins s σ H Q h0 I q
def bSsT (X : Cx) (ss : List Stmt) : TS := fun D σ H => ∀ pins s, 1 ≤ s.toks → Inv X pins σ H s → wpAny (model X.prog X.w) X.A (execs ss X.env) (SP X pins D) X.xe s
theorem psst_b : PSsT X ss (bSsT X ss) := fun pins s σ H D h0 I h => h pins s h0 I
theorem bSsT_of {t : TS} {D : Ends} (h : PSsT X ss t) (q : t D σ H) : bSsT X ss D σ H := fun pins s h0 I => h pins s σ H D h0 I q
def bST (X : Cx) (st : Stmt) : TS := fun D σ H => ∀ pins s, 1 ≤ s.toks → Inv X pins σ H s → wpAny (model X.prog X.w) X.A (exec st X.env) (SP X pins D) X.xe s
theorem pst_b : PST X st (bST X st) := fun pins s σ H D h0 I h => h pins s h0 I
theorem bST_of {t : TS} {D : Ends} (h : PST X st t) (q : t D σ H) : bST X st D σ H := fun pins s h0 I => h pins s σ H D h0 I q
/-- behind it a token is out -/
def bEM (X : Cx) (e : Expr) : TE := fun σ H Q => ∀ pins s, Inv X pins σ H s → wpAny (model X.prog X.w) X.A (eval e X.env) (fun v s' => EP X pins σ Q v s' ∧ 1 ≤ s'.toks) X.xe s
end
def DET (c : Cst) (X : Cx) (W : WX) (e : Expr) (f : ER) : Prop :=
  ∀ g env σ st (Q : VK), Wf c g st → EnvR c g env σ → PostR c W g σ (Rep c) (f env st) Q → bET X e σ g.H Q
def DEM (c : Cst) (X : Cx) (W : WX) (e : Expr) (f : ER) : Prop :=
  ∀ g env σ st (Q : VK), Wf c g st → EnvR c g env σ → PostR c W g σ (Rep c) (f env st) Q → bEM X e σ g.H Q
def DFT (c : Cst) (X : Cx) (W : WX) (e : Expr) (f : FR) : Prop :=
  ∀ g env σ st (Q : VK), Wf c g st → EnvR c g env σ → PostR c W g σ (NewR c g) (f env st) Q → bET X e σ g.H Q
/-- .. and behind it a token is out -/
def DFM (c : Cst) (X : Cx) (W : WX) (e : Expr) (f : FR) : Prop :=
  ∀ g env σ st (Q : VK), Wf c g st → EnvR c g env σ → PostR c W g σ (NewR c g) (f env st) Q → bEM X e σ g.H Q
def DAT (c : Cst) (X : Cx) (W : WX) (es : List Expr) (f : AR) : Prop :=
  ∀ g env σ st (Q : List V → Hp → Prop), Wf c g st → EnvR c g env σ → PostR c W g σ (Reps c) (f env st) Q → bAT X es σ g.H Q
/-- behind the arguments a token is out -/
def DAM (c : Cst) (X : Cx) (W : WX) (es : List Expr) (f : AR) : Prop :=
  ∀ g env σ st (Q : List V → Hp → Prop), Wf c g st → EnvR c g env σ → PostR c W g σ (Reps c) (f env st) Q → ∀ (pos : Pos) pins s, Inv X pins σ g.H s → wpAny (model X.prog X.w) X.A (spliced (backTo pos (starEach es X.env))) (fun vs s' => AP X pins σ Q vs s' ∧ 1 ≤ s'.toks) X.xe s
def DST (c : Cst) (X : Cx) (W : WX) (s : Stmt) (f : SR) : Prop := ∀ g0 g env σ st (D : Ends), Sta c g0 g env σ st → PostS c W g0 g (f env st) D → bST X s D σ g.H
def DSsT (c : Cst) (X : Cx) (W : WX) (ss : List Stmt) (f : SR) : Prop := ∀ g0 g env σ st (D : Ends), Sta c g0 g env σ st → PostS c W g0 g (f env st) D → bSsT X ss D σ g.H
section
variable {L : Law} {X : Cx} {W : WX} {k : Nat} {e o ea eb : Expr} {es : List Expr} {f fo fa fb : ER} {as : AR} {fr : FR} {s : Stmt} {ss : List Stmt} {fs fss : SR} {pos p pos' apos tpos : Pos} {x : Str} {i : Nat}
theorem DE.t (h : DE L.c X W e f) : DET L.c X W e f := fun g env σ st Q w ev p pins s _ I => h g env σ st Q w ev p pins s I
theorem DF.t (h : DF L.c X W e fr) : DFT L.c X W e fr := fun g env σ st Q w ev p pins s _ I => h g env σ st Q w ev p pins s I
theorem DS.t (h : DS L.c X W s fs) : DST L.c X W s fs := fun g0 g env σ st D t q pins s _ I => h g0 g env σ st D t q pins s I
theorem DSs.t (h : DSs L.c X W ss fs) : DSsT L.c X W ss fs := fun g0 g env σ st D t q pins s _ I => h g0 g env σ st D t q pins s I
/-! ### replace -/
def fRep (y z : Str) (fo : ER) : ER := fun env st => (fo env st).bind fun x s => match x with
  | .str a => if a.length + (a.length + 1) * z.length ≤ 16777216 then .ok (.str (Txt.replace a y z)) s else .bad
  | _ => .bad
theorem t_rep {y z : Str} {j l : Nat} {c0 c1 : Pos} (ho : DP L.c X W o fo) (hyz : (y == z) = false) (hb : NoCall0 o = true) (hline : (apos.endLine == pos.line) = true) :
    DET L.c X W (.Call (.Attribute o "replace" apos) [.Constant (.str y) j c0, .Constant (.str z) l c1] [] pos) (fRep y z fo) := fun g env σ st Q w ev q => by
  refine bET_of (CwR.pet_replC pe_b hyz rfl (base_of hb) hline) ?_
  refine ho g env σ st _ w ev (PostR.bind q fun x s g1 v x1 w1 r q1 => ?_)
  cases x with
  | str a =>
    rw [pr_str r rfl]
    by_cases hl : a.length + (a.length + 1) * z.length ≤ 16777216
    · have q1 : PostR L.c W g σ (Rep L.c) (if a.length + (a.length + 1) * z.length ≤ 16777216 then .ok (.str (Txt.replace a y z)) s else .bad) Q := q1
      rw [if_pos hl] at q1
      exact ⟨a, rfl, hl, q1 g1 _ x1 w1 rfl⟩
    · have q1 : PostR L.c W g σ (Rep L.c) (if a.length + (a.length + 1) * z.length ≤ 16777216 then .ok (.str (Txt.replace a y z)) s else .bad) Q := q1
      rw [if_neg hl] at q1
      exact q1.elim
  | _ => exact q1.elim
def fRepN (y z : Str) (n : Int) (fo : ER) : ER := fun env st => (fo env st).bind fun x s => match x with
  | .str a => if a.length + (a.length + 1) * z.length ≤ 16777216 ∧ limitOf a n ≤ a.length + 1 then .ok (.str (replaceN a y z n)) s else .bad
  | _ => .bad
theorem t_repN {y z : Str} {n : Int} {j l m : Nat} {c0 c1 c2 : Pos} (ho : DP L.c X W o fo) (hyz : (y == z) = false) (hn : (decide (n < -(2 ^ 63 : Int)) || decide (n ≥ 2 ^ 63)) = false) (hb : NoCall0 o = true) (hline : (apos.endLine == pos.line) = true) :
    DET L.c X W (.Call (.Attribute o "replace" apos) [.Constant (.str y) j c0, .Constant (.str z) l c1, .Constant (.int n) m c2] [] pos) (fRepN y z n fo) := fun g env σ st Q w ev q => by
  intro pins s h0 I
  have run := ho g env σ st (fun v H1 => ∃ a, v = .str a ∧ (a.length + (a.length + 1) * z.length ≤ 16777216 ∧ limitOf a n ≤ a.length + 1) ∧ Q (.str (replaceN a y z n)) H1) w ev (PostR.bind q fun x s g1 v x1 w1 r q1 => by
    cases x with
    | str a =>
      rw [pr_str r rfl]
      have q1 : PostR L.c W g σ (Rep L.c) (if a.length + (a.length + 1) * z.length ≤ 16777216 ∧ limitOf a n ≤ a.length + 1 then .ok (.str (replaceN a y z n)) s else .bad) Q := q1
      by_cases hl : a.length + (a.length + 1) * z.length ≤ 16777216 ∧ limitOf a n ≤ a.length + 1
      · rw [if_pos hl] at q1
        exact ⟨a, rfl, hl, q1 g1 _ x1 w1 rfl⟩
      · rw [if_neg hl] at q1
        exact q1.elim
    | _ => exact q1.elim) pins s I
  have hst : starEach [.Constant (.str y) j c0, .Constant (.str z) l c1, .Constant (.int n) m c2] X.env = [(false, eval (.Constant (.str y) j c0) X.env), (false, eval (.Constant (.str z) l c1) X.env), (false, eval (.Constant (.int n) m c2) X.env)] := rfl
  refine wpAny_Call_method_lateS (base_of hb) (by rw [hst]; rfl) hline ?_
  rw [hst]
  refine wpAny_mono (PySem.wpAny_toks run) (fun v s1 q => ?_) fun _ _ z => z.2
  obtain ⟨hk, v', H1, I1, r1, a, e1, ⟨hb1, hb2⟩, q⟩ := q
  subst e1
  obtain ⟨tx, e2⟩ := r1
  subst e2
  refine ⟨"str", _, PySem.F.plainAttrs_str, PySem.F.slot_str_replace, PySem.F.type_str_replace, typeIs_str _ _ _, (fun _ e => nomatch e), Calls.callWith_builtin rfl (Calls.evalArgs_plain (Calls.spliced_cons ?_))⟩
  refine Calls.Constant_str (k := j) (pos := c0) ?_
  show wpAny _ _ (spliced ((false, eval (.Constant (.str z) l c1) X.env) :: backTo pos [(false, eval (.Constant (.int n) m c2) X.env)])) _ _ _
  refine Calls.spliced_cons (Calls.Constant_str ?_)
  show wpAny _ _ (spliced ((false, eval (.Constant (.int n) m c2) X.env) :: backTo pos [])) _ _ _
  refine Calls.spliced_cons (wpAny_Constant_int (Calls.spliced_nil ?_))
  exact call_replaceN hn (by show s1.toks ≠ 0; omega) (by show s1.toks + 1 ≠ 0; omega) (by show s1.toks ≠ s1.toks + 1; omega) hyz hb1 hb2 fun t' k => ⟨.str (replaceN a y z n), H1, I1.tok k, ⟨t', rfl⟩, q⟩
/-! ### a + b, arguments, lists -/
theorem t_bin (hX : XOw L X) {op : Operator} (ha : DE L.c X W ea fa) (hb : DET L.c X W eb fb) : DET L.c X W (.BinOp ea op eb pos) (f2 (binD op) fa fb) := fun g env σ st Q w ev p => by
  refine bET_of (CwR.pet_op op_bin (CwR.PET.of pe_b) pet_b) ?_
  rw [hX.K]
  refine ha g env σ st _ w ev (p.bind fun x s1 g1 vx x1 w1 rx p1 => ?_)
  refine hb g1 env σ s1 _ w1 (ev.ext x1 w) ((p1.later x1).bind fun y s2 g2 vy x2 w2 ry p2 => ?_)
  cases hf : binD op s2 x y with
  | none => rw [hf] at p2; exact p2.elim
  | some d =>
    rw [hf] at p2
    exact rok_bin g2 s2 x y vx vy d Q w2 (.inl (x2.rep w1 rx)) (.inl ry) hf fun g' v x' w' r => p2 g' v (x2.trans x') w' r
theorem at_nil : DAT L.c X W [] aNil := fun g env σ st Q w ev p => bAT_of pat_nil (p g [] (Ext.refl g) w rfl)
theorem at_cons (hs : starEach (e :: es) X.env = (false, eval e X.env) :: starEach es X.env) (h : DET L.c X W e f) (hr : DAT L.c X W es as) : DAT L.c X W (e :: es) (aCons f as) := fun g env σ st Q w ev p => by
  refine bAT_of (pat_cons pet_b pat_b hs) ?_
  refine h g env σ st _ w ev (PostR.bind p fun x s g1 v x1 w1 r p1 => ?_)
  refine hr g1 env σ s _ w1 (ev.ext x1 w) (PostR.bind (PostR.later x1 p1) fun xs s2 g2 vs x2 w2 rs p2 => ?_)
  exact (PostR.later x2 p2) g2 (v :: vs) (Ext.refl g2) w2 ⟨v, vs, rfl, x2.rep w1 r, rs⟩
theorem t_lst (h : DAT L.c X W es as) : DFT L.c X W (.List es pos) (fLst as) := fun g env σ st Q w ev p => by
  refine bET_of (pet_lst pat_b) ?_
  refine h g env σ st _ w ev (PostR.bind p fun xs s g1 vs x1 w1 rs p1 => ?_)
  by_cases hl : xs.length ≤ sizeLine
  · rw [if_pos hl] at p1
    refine ⟨by rw [rs.length]; exact hl, fun a ha => ?_⟩
    exact p1 (g1.upd a (.lst vs)) (.ref a) (x1.trans (Ext.upd ha)) (w1.upd ha) (newR_upd x1 w1 ha ⟨vs, upd_same, rs.le (le_upd ha w1)⟩)
  · rw [if_neg hl] at p1; exact p1.elim
/-! ### the first token -/
theorem m_str {y : Str} {j : Nat} : DEM L.c X W (.Constant (.str y) j pos) (fC (.str y)) := fun g env σ st Q w ev p pins s I =>
  Calls.Constant_str ⟨⟨.str y, g.H, I.tok _, ⟨_, rfl⟩, p g (.str y) (Ext.refl g) w rfl⟩, by show 1 ≤ s.toks + 1; omega⟩
theorem m_bin (hX : XOw L X) {op : Operator} (ha : DEM L.c X W ea fa) (hb : DP L.c X W eb fb) : DEM L.c X W (.BinOp ea op eb pos) (f2 (binD op) fa fb) := fun g env σ st Q w ev p pins s I => by
  refine wpAny_BinOp (thn (ha g env σ st _ w ev (p.bind (S := fun v H1 => tOp (rBin X.K op) (fun σ H Q => Q v H) (bE X eb) σ H1 Q) fun x s1 g1 vx x1 w1 rx p1 => ?_) pins s I) fun v s1 ⟨⟨y, H1, I1, r1, q1⟩, h1⟩ => ?_)
  · show tOp _ _ _ σ g1.H Q
    refine hb g1 env σ s1 _ w1 (ev.ext x1 w) ((p1.later x1).bind fun y s2 g2 vy x2 w2 ry p2 => ?_)
    cases hf : binD op s2 x y with
    | none => rw [hf] at p2; exact p2.elim
    | some d =>
      rw [hf] at p2
      rw [hX.K]
      exact rok_bin g2 s2 x y vx vy d Q w2 (.inl (x2.rep w1 rx)) ry hf fun g' v x' w' r => p2 g' v (x2.trans x') w' r
  · have q1 : bE X eb σ H1 (fun u H2 => rBin X.K op y u H2 Q) := q1
    refine wpAny_mono (PySem.wpAny_toks (q1 pins s1 I1)) (fun u s2 q => ?_) fun _ _ z => z.2
    obtain ⟨hk, z, H2, I2, r2, q2⟩ := q
    refine wpAny_mono (PySem.wpAny_toks (op_bin (op := op) pins s2 σ H2 y z v u Q I2 r1 r2 q2)) (fun t s3 q => ?_) fun _ _ z => z.2
    exact ⟨q.2, by omega⟩
/-- the first of the arguments that lays a token -/
theorem am_here (hs : starEach (e :: es) X.env = (false, eval e X.env) :: starEach es X.env) (h : DEM L.c X W e f) (hr : DAT L.c X W es as) : DAM L.c X W (e :: es) (aCons f as) := fun g env σ st Q w ev p pos pins s I => by
  rw [hs]
  show wpAny _ _ (spliced ((false, eval e X.env) :: backTo pos (starEach es X.env))) _ _ s
  refine Calls.spliced_cons (thn (h g env σ st (fun v H1 => bAT X es σ H1 (fun vs H2 => Q (v :: vs) H2)) w ev (PostR.bind p fun x s g1 v x1 w1 r p1 => ?_) pins s I) fun v s1 ⟨⟨x, H1, I1, r1, q1⟩, h1⟩ => ?_)
  · refine hr g1 env σ s _ w1 (ev.ext x1 w) (PostR.bind (PostR.later x1 p1) fun xs s2 g2 vs x2 w2 rs p2 => ?_)
    exact (PostR.later x2 p2) g2 (v :: vs) (Ext.refl g2) w2 ⟨v, vs, rfl, x2.rep w1 r, rs⟩
  · refine wpAny_mono (PySem.wpAny_toks (q1 pos pins s1 h1 I1)) (fun us s2 q => ?_) fun _ _ z => z.2
    obtain ⟨hk, xs, H2, I2, r2, q2⟩ := q
    exact ⟨⟨x :: xs, H2, I2, .cons r1 r2, q2⟩, Nat.le_trans h1 hk⟩
theorem am_later (hs : starEach (e :: es) X.env = (false, eval e X.env) :: starEach es X.env) (h : DE L.c X W e f) (hr : DAM L.c X W es as) : DAM L.c X W (e :: es) (aCons f as) := fun g env σ st Q w ev p pos pins s I => by
  rw [hs]
  show wpAny _ _ (spliced ((false, eval e X.env) :: backTo pos (starEach es X.env))) _ _ s
  refine Calls.spliced_cons (thn (h g env σ st (fun v H1 => ∀ (pos : Pos) pins s, Inv X pins σ H1 s → wpAny (model X.prog X.w) X.A (spliced (backTo pos (starEach es X.env))) (fun vs s' => AP X pins σ (fun vs H2 => Q (v :: vs) H2) vs s' ∧ 1 ≤ s'.toks) X.xe s) w ev (PostR.bind p fun x s g1 v x1 w1 r p1 => ?_) pins s I) fun v s1 ⟨x, H1, I1, r1, q1⟩ => ?_)
  · refine hr g1 env σ s _ w1 (ev.ext x1 w) (PostR.bind (PostR.later x1 p1) fun xs s2 g2 vs x2 w2 rs p2 => ?_)
    exact (PostR.later x2 p2) g2 (v :: vs) (Ext.refl g2) w2 ⟨v, vs, rfl, x2.rep w1 r, rs⟩
  · exact thn (q1 pos pins s1 I1) fun us s2 ⟨⟨xs, H2, I2, r2, q2⟩, h2⟩ => ⟨⟨x :: xs, H2, I2, .cons r1 r2, q2⟩, h2⟩
theorem m_lst (h : DAM L.c X W es as) : DFM L.c X W (.List es pos) (fLst as) := fun g env σ st Q w ev p pins s I => by
  refine wpAny_List_spliced (thn (h g env σ st (fun xs H1 => xs.length ≤ sizeLine ∧ ∀ a, H1 a = none → Q (.ref a) (L2.upd H1 a (.lst xs))) w ev (PostR.bind p fun xs s g1 vs x1 w1 rs p1 => ?_) pos pins s I) fun us s1 ⟨⟨xs, H1, I1, r, z, q⟩, h1⟩ => ⟨by rw [← r.length]; exact z, ?_⟩)
  · by_cases hl : xs.length ≤ sizeLine
    · rw [if_pos hl] at p1
      refine ⟨by rw [rs.length]; exact hl, fun a ha => ?_⟩
      exact p1 (g1.upd a (.lst vs)) (.ref a) (x1.trans (Ext.upd ha)) (w1.upd ha) (newR_upd x1 w1 ha ⟨vs, upd_same, rs.le (le_upd ha w1)⟩)
    · rw [if_neg hl] at p1; exact p1.elim
  · have hf : H1 s1.heap.objs.size = none := I1.hok.fresh (Nat.le_refl _)
    refine ⟨⟨.ref s1.heap.objs.size, L2.upd H1 s1.heap.objs.size (.lst xs), I1.laid (t' := s1.toks) (fun b u e => Heap.get?_push_of_some _ e) (Nat.le_refl _) ?_, rfl, q _ hf⟩, h1⟩
    exact ⟨z, us, 0, r, Heap.get?_push_size _ rfl⟩
/-! ### a + [..] -/
def fCatF (fa : ER) (fb : FR) : FR := fun env st => (fa env st).bind fun x s1 => (fb env s1).bind fun cl s2 => catC s2 x (cellD cl)
theorem cat_post {g g1 : G} {env : DEnv} {σ : St} {s1 : Store} {x : D} {vx : V} {fb : FR} {Q : VK} (x1 : Ext g g1) (w1 : Wf L.c g1 s1) (rx : PRep L.c g1 x vx) (p1 : PostR L.c W g σ (NewR L.c g) ((fb env s1).bind fun cl s2 => catC s2 x (cellD cl)) Q) :
    PostR L.c W g1 σ (NewR L.c g1) (fb env s1) (fun u H2 => rCat vx u H2 Q) := by
  refine PostR.bind2 x1 p1 fun cl s2 g2 vy x2 w2 ry p2 => ?_
  obtain ⟨b, rfl, nb, nF, na, rb⟩ := ry
  unfold catC at p2
  split at p2
  · rename_i xs ys e1 e2
    split at p2
    · rename_i hl
      obtain ⟨a, vs, rfl, qa, ra⟩ := lst_read w2 (rx.ext x2 w1) e1
      cases cl with
      | lst zs =>
        have e2 : some zs = some ys := e2
        cases e2
        obtain ⟨ws, qb, rb⟩ := rb
        refine ⟨a, b, vs, ws, rfl, rfl, qa, qb, by rw [ra.length, rb.length]; exact hl, fun q hq => ?_⟩
        exact p2 (g2.upd q (.lst (vs ++ ws))) (.ref q) ((x1.trans x2).trans (Ext.upd hq)) (w2.upd hq) (newR_upd (x1.trans x2) w2 hq ⟨vs ++ ws, upd_same, (ra.append rb).le (le_upd hq w2)⟩)
      | _ => cases e2
    · exact p2.elim
  · exact p2.elim
theorem t_cat {eb : Expr} {fb : FR} (ha : DP L.c X W ea fa) (hb : DFT L.c X W eb fb) : DFT L.c X W (.BinOp ea .Add eb pos) (fCatF fa fb) := fun g env σ st Q w ev p => by
  refine bET_of (CwR.pet_op op_cat (CwR.PET.of pe_b) pet_b) ?_
  refine ha g env σ st _ w ev (p.bind fun x s1 g1 vx x1 w1 rx p1 => ?_)
  exact hb g1 env σ s1 _ w1 (ev.ext x1 w) (cat_post x1 w1 rx p1)
theorem m_cat {eb : Expr} {fb : FR} (ha : DP L.c X W ea fa) (hb : DFM L.c X W eb fb) : DFM L.c X W (.BinOp ea .Add eb pos) (fCatF fa fb) := fun g env σ st Q w ev p pins s I => by
  refine wpAny_BinOp (thn (ha g env σ st (fun v H1 => bEM X eb σ H1 (fun u H2 => rCat v u H2 Q)) w ev (p.bind fun x s1 g1 vx x1 w1 rx p1 => ?_) pins s I) fun v s1 ⟨y, H1, I1, r1, q1⟩ => ?_)
  · exact hb g1 env σ s1 _ w1 (ev.ext x1 w) (cat_post x1 w1 rx p1)
  · refine thn (q1 pins s1 I1) fun u s2 ⟨⟨z, H2, I2, r2, q2⟩, h2⟩ => ?_
    refine wpAny_mono (PySem.wpAny_toks (op_cat pins s2 σ H2 y z v u Q I2 r1 r2 q2)) (fun t s3 q => ?_) fun _ _ z => z.2
    exact ⟨q.2, Nat.le_trans h2 q.1⟩
/-! ### statements -/
theorem sst_cons (h : DST L.c X W s fs) (hr : DSsT L.c X W ss fss) : DSsT L.c X W (s :: ss) (sSeq fs fss) := fun g0 g env σ st D t q => by
  refine bSsT_of (psst_cons pst_b psst_b) ?_
  refine h g0 g env σ st _ t ?_
  unfold sSeq at q
  cases hf : fs env st with
  | nx env' st' =>
    rw [hf] at q
    exact fun g' σ' l t' => hr g0 g' env' σ' st' D t' (PostS.later (o := fss env' st') q l)
  | rt d s => rw [hf] at q; exact q
  | bk a b => rw [hf] at q; exact q
  | ct a b => rw [hf] at q; exact q
  | exc a b c d => rw [hf] at q; exact q
  | bad => rw [hf] at q; exact q
theorem sst_frz (h : DSsT L.c X W ss fss) : DSsT L.c X W ss (sFrz i fss) := fun g0 g env σ st D t q => by
  unfold sFrz at q
  split at q
  · rename_i cl hc
    obtain ⟨a, t', l⟩ := t.freeze hc
    exact h g0 (g.frz a) _ σ st D t' (PostS.later q l)
  · exact q.elim
theorem sst_reg (h : DSsT L.c X W ss fss) : DSsT L.c X W ss (sReg i fss) := fun g0 g env σ st D t q => by
  unfold sReg at q
  split at q
  · rename_i cl hc
    obtain ⟨a, t', l⟩ := t.reg hc
    exact h g0 (g.reg a) _ σ _ D t' (PostS.later q l)
  · exact q.elim
theorem st_new {f : FR} (hX : XOk L X k) (hN : X.N[i]? = some x) (hv : VarL X x) (hsw : swapsWith e (some (.Name x pos')) pos.line X.env = pure false) (h : DFT L.c X W e f) : DST L.c X W (.Assign [.Name x pos'] e pos) (sNew i f) := fun g0 g env σ st D t q => by
  intro pins s h0 I
  refine wpAny_Assign_Name (thn (h g env σ st (fun v H1 => D.nx (σ.set i (some v)) H1) t.wf t.ev (PostS.bind t q fun d s g1 v _ x1 t1 r q1 => ?_) pins s h0 I) fun v s1 ⟨y, H1, I1, r1, q1⟩ => ?_) hsw
  · obtain ⟨hni, q1⟩ := notIns q1
    obtain ⟨a, rfl, t2⟩ := newR_own (i := i) t t1 hni r
    exact PostS.nx q1 t2
  · exact store_ok I1 hX.nd hN hv.loc r1 (fun s2 I2 => ⟨_, H1, I2, q1⟩) hv.fn
/-- the entry: x = [.., a written text, ..] -/
theorem ss_ent {f : FR} (hX : XOk L X k) (hN : X.N[i]? = some x) (hv : VarL X x) (hsw : swapsWith e (some (.Name x pos')) pos.line X.env = pure false) (h : DFM L.c X W e f) (hr : DSsT L.c X W ss fss) : DSs L.c X W (.Assign [.Name x pos'] e pos :: ss) (sSeq (sNew i f) fss) := fun g0 g env σ st D t q => by
  intro pins s I
  refine wpAny_execs_cons (wpAny_Assign_Name (thn (h g env σ st (fun v H1 => bSsT X ss D (σ.set i (some v)) H1) t.wf t.ev ?_ pins s I) fun v s1 ⟨⟨y, H1, I1, r1, q1⟩, h1⟩ => ?_) hsw)
  · unfold sSeq sNew at q
    cases hf : f env st with
    | ok cl s' =>
      rw [hf] at q
      intro g1 v x1 w1 r
      cases hi : isIns cl with
      | true => simp only [liftE_ok, hi, if_true] at q; exact q.elim
      | false =>
        simp only [liftE_ok, hi, Bool.false_eq_true, if_false] at q
        have t1 := t.later x1 w1
        obtain ⟨a, rfl, t2⟩ := newR_own (i := i) t t1 hi r
        exact hr g0 g1 _ _ s' D t2 (PostS.later (o := fss _ _) q (x1.leS t.wf))
    | exc y fs s' =>
      rw [hf] at q
      have q : PostS L.c W g0 g (.exc y fs env s') D := q
      exact fun g1 dd vs x1 w1 f1 q1 r1 => q g1 dd vs σ (x1.leS t.wf) (t.later x1 w1) f1 q1 r1
    | bad => rw [hf] at q; exact q.elim
  · refine wpAny_mono (PySem.wpAny_toks (store_ok (Q := fun _ s2 => Inv X pins (σ.set i (some y)) H1 s2) I1 hX.nd hN hv.loc r1 (fun s2 I2 => I2) hv.fn)) (fun _ s2 q => ?_) fun _ _ z => z.2
    exact q1 pins s2 (Nat.le_trans h1 q.1) q.2
theorem pet_bm {T : String} {name : Str} {id : String} {r : V → List V → Hp → VK → Prop} {to : TE} {t : TA} {cpos : Pos} (pa : PlainAttrs T) (slot : PySem.Slot T name id) (hty : typeOf (.builtin id) = pure (.type "method_descriptor")) (hm : MtR X id r) (ho : PE X o to) (ha : PAT X (e :: es) t)
    (hbase : attributeBase o name X.env (eval o X.env) = eval o X.env)
    (hfew : ((backTo cpos (starEach (e :: es) X.env)).all (fun x => !x.1) && (backToKw cpos (keywordEach [] X.env)).all (fun x => x.1.isSome)
      && decide ((e :: es).length + ([] : List Keyword).length + (if ([] : List Keyword).isEmpty then 0 else 1) < 30)) = true)
    (hline : (apos.endLine == cpos.line) = true) (hs : starEach (e :: es) X.env = (false, eval e X.env) :: starEach es X.env) (hplain : (backTo cpos (starEach es X.env)).any (·.1) = false) :
    PET X (.Call (.Attribute o name apos) (e :: es) [] cpos) (tBM X.K T r to t) := by
  intro pins s σ H Q h0 I h
  refine wpAny_Call_method_late hbase hfew hline rfl (wpAny_mono (PySem.wpAny_toks (ho.run pins s σ H _ I h)) (fun v s1 q => ?_) fun _ _ z => z.2)
  obtain ⟨hk, x, H1, I1, r1, ty, q1⟩ := q
  obtain ⟨h1, h2⟩ := tyV_is I1 r1 ty
  refine ⟨T, id, pa, slot, hty, h1, h2, ?_⟩
  have hA := ha cpos pins s1 σ H1 _ (Nat.le_trans h0 hk) I1 q1
  rw [hs] at hA ⊢
  refine Calls.callWith_builtin (by show (false || (backTo cpos (starEach es X.env)).any (·.1)) = false; rw [hplain] <;> rfl) (Calls.evalArgs_plain ?_)
  exact thn hA fun us s2 ⟨vs, H2, I2, r2, q2⟩ => hm pins s2 σ H2 x vs v us Q I2 r1 r2 q2
theorem st_append (hX : XOw L X) (hN : X.N[i]? = some x) (hv : Vis X.env.scope x) (hn : NmOk x = true) (hs : NoStar e = true) (hline : (apos.endLine == p.line) = true) (h : DET L.c X W e f) :
    DST L.c X W (.Expr (.Call (.Attribute (.Name x tpos) "append" apos) [e] [] p) pos) (sApp i f) := fun g0 g env σ st D t q => by
  unfold sApp at q
  split at q
  · rename_i xs hc
    have hst : starEach [e] X.env = [(false, eval e X.env)] := no_star hs
    have hE : PET X (.Call (.Attribute (.Name x tpos) "append" apos) [e] [] p) _ := pet_bm (T := "list") F.plainAttrs_list F.slot_list_append F.type_list_append (show MtR X "list.append" rAppend from mt_append) (pe_var (i := i) hN hv (nm1 hn) (nm2 hn)) (pat_cons pet_b pat_nil hst) rfl (by rw [hst]; rfl) hline hst rfl
    intro pins s h0 I
    obtain ⟨a, ho, vs, ha, rs⟩ := own_at t hc
    refine wpAny_Expr_any (thn (hE pins s σ g.H (fun _ H1 => D.nx σ H1) h0 I ⟨.ref a, ho, .inl ⟨rfl, vs, SqL.of ha⟩, ?_⟩) fun v s1 ⟨x, H1, I1, r1, q1⟩ => ⟨σ, H1, I1, q1⟩) I.quiet rfl
    refine h g env σ st _ t.wf t.ev (PostS.bind t q fun d s g1 v _ x1 t1 r q1 => ?_)
    obtain ⟨a', ho', vs', ha', rs'⟩ := own_at t1 hc
    rw [ho] at ho'; cases ho'
    by_cases hl : xs.length < sizeLine
    · rw [if_pos hl] at q1
      refine ⟨a, vs', v, rfl, rfl, ha', by rw [rs'.length]; exact hl, ?_⟩
      obtain ⟨o', ho2, b, e2, nF, na, _⟩ := t1.ev.get hc
      rw [ho] at ho2; cases ho2
      cases e2
      obtain ⟨t2, l2⟩ := t1.own (o := .lst (vs' ++ [v])) (cl' := .lst (xs ++ [d])) hc ho (fun z => z) ⟨vs' ++ [v], upd_same, (rs'.append (Reps.one r)).le (le_mut (c := L.c) (st := s) nF)⟩
      exact q1 _ σ l2 t2
    · rw [if_neg hl] at q1; exact q1.elim
  · exact q.elim
end
end DL
end
section
set_option Elab.async false
set_option linter.all false
set_option maxRecDepth 100000
set_option maxHeartbeats 4000000
set_option autoImplicit false
/-! DL: trees of what runs where a token is out -/
namespace DL
open PySem PySem.Spec L2
open PyProof.Rows hiding St
inductive ET where
  | p (e : E) | rep (o : E) (y z : Str) | repN (o : E) (y z : Str) (n : Int) | add (a : E) (b : ET)
inductive EM where
  | s (x : Str) | add (a : EM) (b : E)
inductive EL where
  | p (e : E) (r : EL) | m (e : EM) (r : List ET)
inductive FT where
  | lst (as : List ET) | cat (a : E) (as : List ET)
inductive FM where
  | lst (as : EL) | cat (a : E) (as : EL)
inductive TSs where
  | nil | cons (s : S) (r : TSs) | new (i : Nat) (f : FT) (r : TSs) | app (i : Nat) (e : ET) (r : TSs) | ret (f : FT) | frz (i : Nat) (r : TSs) | reg (i : Nat) (r : TSs)
inductive Ts where
  | cons (s : S) (r : Ts) | ent (i : Nat) (f : FM) (r : TSs) | frz (i : Nat) (r : Ts) | reg (i : Nat) (r : Ts)
section
variable (Z : Sig)
def evET : ET → ER
  | .p e => evE Z e false
  | .rep o y z => fRep y z (evE Z o true)
  | .repN o y z n => fRepN y z n (evE Z o true)
  | .add a b => f2 (binD .Add) (evE Z a false) (evET b)
def evETs : List ET → AR
  | [] => aNil
  | e :: es => aCons (evET Z e) (evETs es)
def evEM : EM → ER
  | .s x => fC (.str x)
  | .add a b => f2 (binD .Add) (evEM a) (evE Z b true)
def evEL : EL → AR
  | .p e r => aCons (evE Z e false) (evEL r)
  | .m e r => aCons (evEM Z e) (evETs Z r)
def evFT : FT → FR
  | .lst as => fLst (evETs Z as)
  | .cat a as => fCatF (evE Z a true) (fLst (evETs Z as))
def evFM : FM → FR
  | .lst as => fLst (evEL Z as)
  | .cat a as => fCatF (evE Z a true) (fLst (evEL Z as))
def frzF (f : FR) : ER := fun env st => (f env st).bind fun cl s => .ok (cellD cl) s
def evTSs : TSs → SR
  | .nil => sNil
  | .cons s r => sSeq (evS Z s) (evTSs r)
  | .new i f r => sSeq (sNew i (evFT Z f)) (evTSs r)
  | .app i e r => sSeq (sApp i (evET Z e)) (evTSs r)
  | .ret f => sSeq (sRet (frzF (evFT Z f))) sNil
  | .frz i r => sFrz i (evTSs r)
  | .reg i r => sReg i (evTSs r)
def evTs : Ts → SR
  | .cons s r => sSeq (evS Z s) (evTs r)
  | .ent i f r => sSeq (sNew i (evFM Z f)) (evTSs Z r)
  | .frz i r => sFrz i (evTs r)
  | .reg i r => sReg i (evTs r)
end
section
variable (fb : Fct → Bool) (N : List Str)
def chkET : ET → Scope → Expr → Bool
  | .p e => fun sc x => chkE fb N e sc x
  | .rep o y z => fun sc x => match x with
    | .Call (.Attribute u nm ap) [.Constant (.str y') _ _, .Constant (.str z') _ _] [] p => decide (nm = "replace") && (decide (y' = y) && (decide (z' = z) && (!(y == z) && (NoCall0 u && (lineB ap p && chkE fb N o sc u)))))
    | _ => false
  | .repN o y z n => fun sc x => match x with
    | .Call (.Attribute u nm ap) [.Constant (.str y') _ _, .Constant (.str z') _ _, .Constant (.int n') _ _] [] p => decide (nm = "replace") && (decide (y' = y) && (decide (z' = z) && (decide (n' = n) && (!(y == z) && (!(decide (n < -(2 ^ 63 : Int)) || decide (n ≥ 2 ^ 63)) && (NoCall0 u && (lineB ap p && chkE fb N o sc u)))))))
    | _ => false
  | .add a b => fun sc x => match x with
    | .BinOp y .Add z _ => chkE fb N a sc y && chkET b sc z
    | _ => false
def chkETs : List ET → Scope → List Expr → Bool
  | [] => fun _ xs => match xs with
    | [] => true
    | _ => false
  | e :: es => fun sc xs => match xs with
    | x :: xs => NoStar x && (chkET fb N e sc x && chkETs es sc xs)
    | _ => false
def chkEM : EM → Scope → Expr → Bool
  | .s x => fun _ e => match e with
    | .Constant (.str t) _ _ => decide (x = t)
    | _ => false
  | .add a b => fun sc x => match x with
    | .BinOp y .Add z _ => chkEM a sc y && chkE fb N b sc z
    | _ => false
def chkEL : EL → Scope → List Expr → Bool
  | .p e r => fun sc xs => match xs with
    | x :: xs => NoStar x && (chkE fb N e sc x && chkEL r sc xs)
    | _ => false
  | .m e r => fun sc xs => match xs with
    | x :: xs => NoStar x && (chkEM fb N e sc x && chkETs fb N r sc xs)
    | _ => false
def chkFT : FT → Scope → Expr → Bool
  | .lst as => fun sc x => match x with
    | .List es _ => chkETs fb N as sc es
    | _ => false
  | .cat a as => fun sc x => match x with
    | .BinOp y .Add (.List es _) _ => chkE fb N a sc y && chkETs fb N as sc es
    | _ => false
def chkFM : FM → Scope → Expr → Bool
  | .lst as => fun sc x => match x with
    | .List es _ => chkEL fb N as sc es
    | _ => false
  | .cat a as => fun sc x => match x with
    | .BinOp y .Add (.List es _) _ => chkE fb N a sc y && chkEL fb N as sc es
    | _ => false
def chkTSs : TSs → Scope → List Stmt → Bool
  | .nil => fun _ xs => match xs with
    | [] => true
    | _ => false
  | .cons s r => fun sc xs => match xs with
    | x :: xs => chkS fb N s sc x && chkTSs r sc xs
    | _ => false
  | .new i f r => fun sc xs => match xs with
    | .Assign [.Name y p] x _ :: xs => decide (N[i]? = some y) && (varB sc y && (!swB sc x y p && (chkFT fb N f sc x && chkTSs r sc xs)))
    | _ => false
  | .app i e r => fun sc xs => match xs with
    | .Expr (.Call (.Attribute (.Name y _) m ap) [x] [] p) _ :: xs => decide (m = "append") && (nmB N sc i y && (NoStar x && (lineB ap p && (chkET fb N e sc x && chkTSs r sc xs))))
    | _ => false
  | .ret f => fun sc xs => match xs with
    | [.Return (some x) _] => chkFT fb N f sc x
    | _ => false
  | .frz _ r => fun sc xs => chkTSs r sc xs
  | .reg _ r => fun sc xs => chkTSs r sc xs
def chkTs : Ts → Scope → List Stmt → Bool
  | .cons s r => fun sc xs => match xs with
    | x :: xs => chkS fb N s sc x && chkTs r sc xs
    | _ => false
  | .ent i f r => fun sc xs => match xs with
    | .Assign [.Name y p] x _ :: xs => decide (N[i]? = some y) && (varB sc y && (!swB sc x y p && (chkFM fb N f sc x && chkTSs fb N r sc xs)))
    | _ => false
  | .frz _ r => fun sc xs => chkTs r sc xs
  | .reg _ r => fun sc xs => chkTs r sc xs
end
def enET : ET → List Ent
  | .p e => enE e
  | .rep o _ _ => enE o
  | .repN o _ _ _ => enE o
  | .add a b => enE a ++ enET b
def enETs : List ET → List Ent
  | [] => []
  | e :: es => enET e ++ enETs es
def enEM : EM → List Ent
  | .s _ => []
  | .add a b => enEM a ++ enE b
def enEL : EL → List Ent
  | .p e r => enE e ++ enEL r
  | .m e r => enEM e ++ enETs r
def enFT : FT → List Ent
  | .lst as => enETs as
  | .cat a as => enE a ++ enETs as
def enFM : FM → List Ent
  | .lst as => enEL as
  | .cat a as => enE a ++ enEL as
def enTSs : TSs → List Ent
  | .nil => []
  | .cons s r => enS s ++ enTSs r
  | .new _ f r => enFT f ++ enTSs r
  | .app _ e r => enET e ++ enTSs r
  | .ret f => enFT f
  | .frz _ r => enTSs r
  | .reg _ r => enTSs r
def enTs : Ts → List Ent
  | .cons s r => enS s ++ enTs r
  | .ent _ f r => enFM f ++ enTSs r
  | .frz _ r => enTs r
  | .reg _ r => enTs r
section
variable {L : Law} {k : Nat} {N : List Str} {Z : Sig} {fb : Fct → Bool} {X : Cx} {W : WX} {sc : Scope}
theorem sET (hfb : ∀ f, fb f = true → f.Ok L) (hZ : SigOk L Z) (h : EX L X W k N sc) : ∀ (e : ET) (x : Expr), AllE (Ent.Ok L k) (enET e) → chkET fb N e sc x = true → DET L.c X W x (evET Z e)
  | .p e, x, en, c => (sE hfb hZ e X W sc x h en c).1.t
  | .rep o y z, x, en, c => by
    simp only [chkET] at c
    split at c
    · simp only [Bool.and_eq_true, decide_eq_true_eq, Bool.not_eq_true'] at c
      obtain ⟨rfl, rfl, rfl, c1, c2, c3, c4⟩ := c
      exact t_rep (sE hfb hZ o X W sc _ h en c4).2 c1 c2 c3
    · cases c
  | .repN o y z n, x, en, c => by
    simp only [chkET] at c
    split at c
    · simp only [Bool.and_eq_true, decide_eq_true_eq, Bool.not_eq_true'] at c
      obtain ⟨rfl, rfl, rfl, rfl, c1, c0, c2, c3, c4⟩ := c
      exact t_repN (sE hfb hZ o X W sc _ h en c4).2 c1 c0 c2 c3
    · cases c
  | .add a b, x, en, c => by
    simp only [chkET] at c
    split at c
    · simp only [Bool.and_eq_true] at c
      exact t_bin h.x.toXOw (sE hfb hZ a X W sc _ h en.l c.1).1 (sET hfb hZ h b _ en.r c.2)
    · cases c
theorem sETs (hfb : ∀ f, fb f = true → f.Ok L) (hZ : SigOk L Z) (h : EX L X W k N sc) : ∀ (es : List ET) (xs : List Expr), AllE (Ent.Ok L k) (enETs es) → chkETs fb N es sc xs = true → DAT L.c X W xs (evETs Z es)
  | [], xs, en, c => by
    simp only [chkETs] at c
    split at c
    · exact at_nil
    · cases c
  | e :: es, xs, en, c => by
    simp only [chkETs] at c
    split at c
    · simp only [Bool.and_eq_true] at c
      exact at_cons (no_star c.1) (sET hfb hZ h e _ en.l c.2.1) (sETs hfb hZ h es _ en.r c.2.2)
    · cases c
theorem sEM (hfb : ∀ f, fb f = true → f.Ok L) (hZ : SigOk L Z) (h : EX L X W k N sc) : ∀ (e : EM) (x : Expr), AllE (Ent.Ok L k) (enEM e) → chkEM fb N e sc x = true → DEM L.c X W x (evEM Z e)
  | .s y, x, en, c => by
    simp only [chkEM] at c
    split at c
    · have c := of_decide_eq_true c
      subst c
      exact m_str
    · cases c
  | .add a b, x, en, c => by
    simp only [chkEM] at c
    split at c
    · simp only [Bool.and_eq_true] at c
      exact m_bin h.x.toXOw (sEM hfb hZ h a _ en.l c.1) (sE hfb hZ b X W sc _ h en.r c.2).2
    · cases c
theorem sEL (hfb : ∀ f, fb f = true → f.Ok L) (hZ : SigOk L Z) (h : EX L X W k N sc) : ∀ (e : EL) (xs : List Expr), AllE (Ent.Ok L k) (enEL e) → chkEL fb N e sc xs = true → DAM L.c X W xs (evEL Z e)
  | .p e r, xs, en, c => by
    simp only [chkEL] at c
    split at c
    · simp only [Bool.and_eq_true] at c
      exact am_later (no_star c.1) (sE hfb hZ e X W sc _ h en.l c.2.1).1 (sEL hfb hZ h r _ en.r c.2.2)
    · cases c
  | .m e r, xs, en, c => by
    simp only [chkEL] at c
    split at c
    · simp only [Bool.and_eq_true] at c
      exact am_here (no_star c.1) (sEM hfb hZ h e _ en.l c.2.1) (sETs hfb hZ h r _ en.r c.2.2)
    · cases c
theorem sFT (hfb : ∀ f, fb f = true → f.Ok L) (hZ : SigOk L Z) (h : EX L X W k N sc) : ∀ (f : FT) (x : Expr), AllE (Ent.Ok L k) (enFT f) → chkFT fb N f sc x = true → DFT L.c X W x (evFT Z f)
  | .lst as, x, en, c => by
    simp only [chkFT] at c
    split at c
    · exact t_lst (sETs hfb hZ h as _ en c)
    · cases c
  | .cat a as, x, en, c => by
    simp only [chkFT] at c
    split at c
    · simp only [Bool.and_eq_true] at c
      exact t_cat (sE hfb hZ a X W sc _ h en.l c.1).2 (t_lst (sETs hfb hZ h as _ en.r c.2))
    · cases c
theorem sFM (hfb : ∀ f, fb f = true → f.Ok L) (hZ : SigOk L Z) (h : EX L X W k N sc) : ∀ (f : FM) (x : Expr), AllE (Ent.Ok L k) (enFM f) → chkFM fb N f sc x = true → DFM L.c X W x (evFM Z f)
  | .lst as, x, en, c => by
    simp only [chkFM] at c
    split at c
    · exact m_lst (sEL hfb hZ h as _ en c)
    · cases c
  | .cat a as, x, en, c => by
    simp only [chkFM] at c
    split at c
    · simp only [Bool.and_eq_true] at c
      exact m_cat (sE hfb hZ a X W sc _ h en.l c.1).2 (m_lst (sEL hfb hZ h as _ en.r c.2))
    · cases c
theorem DFT.frz {e : Expr} {f : FR} (h : DFT L.c X W e f) : DET L.c X W e (frzF f) := fun g env σ st Q w ev p => by
  refine h g env σ st Q w ev (PostR.bind p fun cl s g1 v x1 w1 r q => ?_)
  obtain ⟨a, rfl, n0, nF, na, r⟩ := r
  obtain ⟨u, hu⟩ := r.th
  exact q (g1.frz a) (.ref a) (x1.frz n0) (w1.frz (by rw [hu]; exact fun z => by cases z) na) r.frz
theorem st_ret {e : Expr} {f : ER} {pos : Pos} (h : DET L.c X W e f) : DST L.c X W (.Return (some e) pos) (sRet f) := fun g0 g env σ st D t q => by
  intro pins s h0 I
  exact wpAny_Return_some (thn (h g env σ st (fun v H' => D.rt v H') t.wf t.ev (PostS.bind t q fun d s g1 v _ x1 t1 r q1 => q1 g1 v (LeS.refl g1) t1.ext t1.wf r) pins s h0 I) fun v s1 ⟨x, H1, I1, r1, q1⟩ => ⟨x, σ, H1, I1, r1, q1⟩)
theorem sTSs (hfb : ∀ f, fb f = true → f.Ok L) (hZ : SigOk L Z) (h : SX L X W k N sc) : ∀ (s : TSs) (xs : List Stmt), AllE (Ent.Ok L k) (enTSs s) → chkTSs fb N s sc xs = true → DSsT L.c X W xs (evTSs Z s)
  | .nil, xs, en, c => by
    simp only [chkTSs] at c
    split at c
    · exact ss_nil.t
    · cases c
  | .cons s r, xs, en, c => by
    simp only [chkTSs] at c
    split at c
    · simp only [Bool.and_eq_true] at c
      exact sst_cons (sS hfb hZ s X W sc _ h en.l c.1).t (sTSs hfb hZ h r _ en.r c.2)
    · cases c
  | .new i f r, xs, en, c => by
    simp only [chkTSs] at c
    split at c
    · simp only [Bool.and_eq_true, decide_eq_true_eq, Bool.not_eq_true'] at c
      obtain ⟨c1, c2, c3, c4, c5⟩ := c
      exact sst_cons (st_new h.so.x (by rw [h.N]; exact c1) (varL_of h c2) (by rw [swB_of (by rw [h.sc]; exact h.fk), h.sc, c3]) (sFT hfb hZ h.ex f _ en.l c4)) (sTSs hfb hZ h r _ en.r c5)
    · cases c
  | .app i e r, xs, en, c => by
    simp only [chkTSs] at c
    split at c
    · simp only [Bool.and_eq_true, decide_eq_true_eq] at c
      obtain ⟨rfl, c1, c2, c3, c4, c5⟩ := c
      obtain ⟨h1, h2, h3⟩ := nm_of h.ex c1
      exact sst_cons (st_append h.so.x.toXOw h1 h2 h3 c2 c3 (sET hfb hZ h.ex e _ en.l c4)) (sTSs hfb hZ h r _ en.r c5)
    · cases c
  | .ret f, xs, en, c => by
    simp only [chkTSs] at c
    split at c
    · exact sst_cons (st_ret (sFT hfb hZ h.ex f _ en c).frz) ss_nil.t
    · cases c
  | .frz i r, xs, en, c => sst_frz (sTSs hfb hZ h r xs en c)
  | .reg i r, xs, en, c => sst_reg (sTSs hfb hZ h r xs en c)
theorem sTs (hfb : ∀ f, fb f = true → f.Ok L) (hZ : SigOk L Z) (h : SX L X W k N sc) : ∀ (s : Ts) (xs : List Stmt), AllE (Ent.Ok L k) (enTs s) → chkTs fb N s sc xs = true → DSs L.c X W xs (evTs Z s)
  | .cons s r, xs, en, c => by
    simp only [chkTs] at c
    split at c
    · simp only [Bool.and_eq_true] at c
      exact ss_cons (sS hfb hZ s X W sc _ h en.l c.1) (sTs hfb hZ h r _ en.r c.2)
    · cases c
  | .ent i f r, xs, en, c => by
    simp only [chkTs] at c
    split at c
    · simp only [Bool.and_eq_true, decide_eq_true_eq, Bool.not_eq_true'] at c
      obtain ⟨c1, c2, c3, c4, c5⟩ := c
      exact ss_ent h.so.x (by rw [h.N]; exact c1) (varL_of h c2) (by rw [swB_of (by rw [h.sc]; exact h.fk), h.sc, c3]) (sFM hfb hZ h.ex f _ en.l c4) (sTSs hfb hZ h r _ en.r c5)
    · cases c
  | .frz i r, xs, en, c => ss_frz (sTs hfb hZ h r xs en c)
  | .reg i r, xs, en, c => ss_reg (sTs hfb hZ h r xs en c)
end
end DL
end
section
set_option Elab.async false
set_option linter.all false
set_option maxRecDepth 100000
set_option maxHeartbeats 2000000
set_option autoImplicit false
/-! DL: the head's facts, defs by their terms -/
namespace DL
open PySem PySem.Spec L2
open PyProof.Rows hiding St

/-! ### where a def stands -/
inductive Pth where
  | glo (x : Str) | me (C x : Str) | get (C x : Str)
def gAd (K : PySem.W.Frag) (p : Addr) : Addr := match PySem.W.recIn K p "property" with
  | some (.ref g :: _) => g
  | _ => 0
def Pth.at (K : PySem.W.Frag) : Pth → Addr
  | .glo x => He.ga K x
  | .me C x => He.ma K (He.ga K C) x
  | .get C x => gAd K (He.ma K (He.ga K C) x)
/-- a def of the text -/
structure Df where
  at_ : Pth
  name : Str
  qual : Str
  params : Arguments
  body : List Stmt
  scope : Scope
  dfl : List He.Dv := []
  kwd : List (Str × He.Dv) := []
def fnWa (K : PySem.W.Frag) (a : Addr) : He.FnW := match K.lookup a with
  | some ⟨_, _, .func fd, _⟩ => some (fd.name, fd.qualname, fd.params, fd.body, fd.scope, fd.globals, fd.closure, fd.builtins)
  | _ => none
def Df.val (d : Df) : He.FnW := some (d.name, d.qual, d.params, .stmts d.body, d.scope, mainGlobals, [], builtinsNs)
def Df.dvs (K : PySem.W.Frag) (d : Df) : List V := d.dfl.map (He.Dv.v K)
def Df.kws (K : PySem.W.Frag) (d : Df) : List (Str × V) := d.kwd.map fun q => (q.1, q.2.v K)
def Df.ok (K : PySem.W.Frag) (d : Df) : Bool := PySem.W.keepIn K (.ref (d.at_.at K)) && (match K.lookup (d.at_.at K) with
  | some ⟨_, _, .func fd, _⟩ => PySem.W.codeIn K fd.code d.qual && (He.dflB K fd.defaults (d.dvs K) && He.kwdB K fd.kwdefaults (d.kws K))
  | _ => false)
theorem Df.funD {K : PySem.W.Frag} {d : Df} (e : fnWa K (d.at_.at K) = d.val) (c : d.ok K = true) : ∃ fd, FunD K d.name d.qual d.params d.body d.scope (d.dvs K) (d.kws K) (d.at_.at K) fd := by
  obtain ⟨kp, c2⟩ := He.ba c
  unfold fnWa at e
  cases q : K.lookup (d.at_.at K) with
  | none =>
    rw [q] at c2
    cases c2
  | some o =>
    obtain ⟨oc, od, dt, osl⟩ := o
    rw [q] at c2 e
    cases dt with
    | func fd =>
      obtain ⟨n1, n2, n3, n4, n5, n6, n7, n8, n9, n10, n11, n12, n13, n14, n15⟩ := fd
      have e2 : (some (n1, n2, n3, n4, n5, n6, n7, n15) : He.FnW) = some (d.name, d.qual, d.params, .stmts d.body, d.scope, mainGlobals, [], builtinsNs) := e
      simp only [Option.some.injEq, Prod.mk.injEq] at e2
      obtain ⟨h1, h2, h3, h4, h5, h6, h7, h8⟩ := e2
      subst h1 h2 h3 h4 h5 h6 h7 h8
      have c3 : (PySem.W.codeIn K n13 d.qual && (He.dflB K n8 (d.dvs K) && He.kwdB K n9 (d.kws K))) = true := c2
      obtain ⟨k1, k2⟩ := He.ba c3
      obtain ⟨k3, k4⟩ := He.ba k2
      exact ⟨_, ⟨oc, od, n8, n9, n10, n11, n12, n13, n14, osl, rfl, q, k1, He.dflB_ok k3, He.kwdB_ok k4⟩, kp⟩
    | _ => cases c2
/-! ### an own exception class of one argument -/
inductive Bs where
  | ve | le | re | oe
def Bs.B : Bs → String
  | .ve => "ValueError" | .le => "LookupError" | .re => "RuntimeError" | .oe => "OverflowError"
def Bs.newId : Bs → String
  | .ve => "ValueError.__new__" | .le => "LookupError.__new__" | .re => "RuntimeError.__new__" | .oe => "OverflowError.__new__"
def Bs.initId : Bs → String
  | .ve => "ValueError.__init__" | .le => "LookupError.__init__" | .re => "RuntimeError.__init__" | .oe => "OverflowError.__init__"
def Bs.bm : Bs → List Value
  | .ve => [.type "ValueError", .type "Exception", .type "BaseException", .type "object"]
  | .le => [.type "LookupError", .type "Exception", .type "BaseException", .type "object"]
  | .re => [.type "RuntimeError", .type "Exception", .type "BaseException", .type "object"]
  | .oe => [.type "OverflowError", .type "ArithmeticError", .type "Exception", .type "BaseException", .type "object"]
theorem Bs.FB : ∀ b : Bs, PySem.ExcBaseFacts b.B b.newId b.initId b.bm
  | .ve => PySem.F.excBase_ValueError | .le => PySem.F.excBase_LookupError | .re => PySem.F.excBase_RuntimeError | .oe => PySem.F.excBase_OverflowError
theorem Bs.SF : ∀ b : Bs, PySem.StoreFacts b.B b.bm "object.__setattr__" "object"
  | .ve => PySem.F.store_ValueError | .le => PySem.F.store_LookupError | .re => PySem.F.store_RuntimeError | .oe => PySem.F.store_OverflowError
theorem Bs.KF : ∀ b : Bs, PySem.W.KxsFacts b.B b.initId
  | .ve => PySem.W.kxs_ValueError | .le => PySem.W.kxs_LookupError | .re => PySem.W.kxs_RuntimeError | .oe => PySem.W.kxs_OverflowError
structure Xc where
  C : Str
  p : Str
  b : Bs
  qual : Str
  params : Arguments
  body : List Stmt
  scope : Scope
def Xc.fI (K : PySem.W.Frag) (x : Xc) : Addr := He.ma K (He.ga K x.C) "__init__"
def fnWc (K : PySem.W.Frag) (a : Addr) : He.FnW := match K.lookup a with
  | some ⟨_, _, .func fd, _⟩ => some (fd.name, fd.qualname, fd.params, fd.body, fd.scope, fd.globals, fd.closure.map fun p => (p.1, 0), fd.builtins)
  | _ => none
def Xc.val (x : Xc) : He.FnW := some ("__init__", x.qual, x.params, .stmts x.body, x.scope, mainGlobals, [("__class__", 0)], builtinsNs)
def isNone : Value → Bool
  | .none => true
  | _ => false
theorem isNone_ok {v : Value} (h : isNone v = true) : v = .none := by
  cases v <;> first | rfl | cases h
def codeB (file : Str) (K : PySem.W.Frag) (qual : Str) : Value → Bool
  | .ref cda => PySem.W.codeIn K (.ref cda) qual && (match K.lookup cda with
    | some ⟨_, _, .fields vs, _⟩ => (match vs[2]? with
      | some (Value.str f _) => file == f
      | _ => false)
    | _ => false)
  | _ => false
def closB (K : PySem.W.Frag) (C : Addr) : List (Str × Addr) → Bool
  | [(_, cc)] => (match K.lookup cc with
    | some ⟨_, _, .cell (some (.ref c)), _⟩ => decide (c = C)
    | _ => false)
  | _ => false
def Xc.fnB (file : Str) (K : PySem.W.Frag) (x : Xc) : Bool := match K.lookup (x.fI K) with
  | some ⟨_, _, .func fd, _⟩ => isNone fd.defaults && (codeB file K x.qual fd.code && closB K (He.ga K x.C) fd.closure)
  | _ => false
def Xc.ok (file : Str) (K : PySem.W.Frag) (x : Xc) : Bool :=
  PySem.W.excInitIn K (He.ga K x.C) x.b.bm x.b.newId && (PySem.W.excOver K (He.ga K x.C) x.b.bm && (PySem.W.hasDictIn K (He.ga K x.C) && (He.eqO (PySem.W.findIn K (.ref (He.ga K x.C)) "__setattr__") (some (some (.builtin "object.__setattr__"))) &&
  (He.eqO (PySem.W.takerIn K (He.ga K x.C) x.p) (some none) && (He.eqO (PySem.W.findIn K (.ref (He.ga K x.C)) "__init__") (some (some (.ref (x.fI K)))) && (PySem.W.isFn K (.ref (x.fI K)) && (PySem.W.keepIn K (.ref (He.ga K x.C)) &&
  (decide (PySem.W.subIn K (.ref (He.ga K x.C)) (.type "BaseException") = some true) && (decide (PySem.W.typeIn K (.ref (He.ga K x.C)) = some (.type "type")) && (decide (PySem.W.subIn K (.ref (He.ga K x.C)) (.type x.b.B) = some true) &&
  (He.eqO (PySem.W.ks_superIn K (He.ga K x.C) (He.ga K x.C) "__init__") (some (some (.builtin x.b.initId))) && (decide (PySem.W.mroIn K (He.ga K x.C) (.ref (He.ga K x.C)) = some true) && (He.eqO (PySem.W.nsIn K cStatics "thirdparty.any") (some none) && (He.Fa.ok K (.free "super") && x.fnB file K))))))))))))))
/-- its text -/
structure Xc.Txt (P : Program) (x : Xc) : Prop where
  bx : DX.BindX x.p
  top : (P.main.scope.names.lookup ("super" : Str)).isSome = false
  np : (x.p == ("__debug__" : Str)) = false
  ps : x.p ≠ "self"
  par : ∃ p1 p2, x.params = DX.xA x.p p1 p2
  bod : ∃ (txt : Str) (j : Nat) (a1 a2 a3 a4 a5 a6 b1 b2 b3 b4 : Pos), x.body = DX.xB x.p txt j a1 a2 a3 a4 a5 a6 b1 b2 b3 b4 ∧ (a3.endLine == a5.line) = true
  kind : x.scope.kind = .function
  co : x.scope.isCoroutine = false
  gen : x.scope.isGenerator = false
  n1 : x.scope.names.lookup ("self" : Str) = some .local
  n2 : x.scope.names.lookup x.p = some .local
  n3 : x.scope.names.lookup ("super" : Str) = some .globalImplicit
  n4 : x.scope.names.lookup ("__class__" : Str) = some .free
  n5 : ∀ y ∈ x.scope.names, y.2 ≠ .cell
theorem Xc.exc {P : Program} {K : PySem.W.Frag} {h : Heap} {mg : Str → Option Value} (X : K.In h) (G : h.Ns mainGlobals mg) {x : Xc} (T : x.Txt P) (e : fnWc K (x.fI K) = x.val) (c : x.ok P.main.file K = true) :
    DX.ExcTxt P K mg (He.ga K x.C) (x.fI K) x.p x.b.B x.b.newId x.b.initId x.b.bm := by
  unfold Xc.ok at c
  simp only [Bool.and_eq_true, decide_eq_true_eq] at c
  obtain ⟨c1, c2, c3, c4, c5, c6, c7, c8, c9, c10, c11, c12, c13, c14, c15, c16⟩ := c
  refine ⟨T.bx, x.b.FB, x.b.SF, x.b.KF, c1, c2, c3, He.eqO_ok c4, He.eqO_ok c5, He.eqO_ok c6, c7, c8, c9, c10, c11, He.eqO_ok c12, c13, He.eqO_ok c14, He.free_ok X G c15, T.top, T.np, T.ps, ?_⟩
  unfold Xc.fnB at c16
  unfold fnWc at e
  cases q : K.lookup (x.fI K) with
  | none => rw [q] at c16; cases c16
  | some o =>
    obtain ⟨oc, od, dt, osl⟩ := o
    rw [q] at c16 e
    cases dt with
    | func fd =>
      obtain ⟨n1, n2, n3, n4, n5, n6, n7, n8, n9, n10, n11, n12, n13, n14, n15⟩ := fd
      have e2 : (some (n1, n2, n3, n4, n5, n6, n7.map (fun p => (p.1, 0)), n15) : He.FnW) = x.val := e
      unfold Xc.val at e2
      simp only [Option.some.injEq, Prod.mk.injEq] at e2
      obtain ⟨h1, h2, h3, h4, h5, h6, h7, h8⟩ := e2
      have c17 : (isNone n8 && (codeB P.main.file K x.qual n13 && closB K (He.ga K x.C) n7)) = true := c16
      simp only [Bool.and_eq_true] at c17
      obtain ⟨k1, k2, k3⟩ := c17
      have k1 := isNone_ok k1
      subst h1 h2 h3 h4 h5 h6 h8 k1
      obtain ⟨p1, p2, hp⟩ := T.par
      obtain ⟨txt, j, a1, a2, a3, a4, a5, a6, b1, b2, b3, b4, hb, hl⟩ := T.bod
      cases n7 with
      | nil => cases h7
      | cons z zs =>
        obtain ⟨z1, cc⟩ := z
        cases zs with
        | cons z2 zs => simp at h7
        | nil =>
          have hz : z1 = ("__class__" : Str) := by simpa using h7
          subst hz
          cases n13 with
          | ref cda =>
            unfold codeB at k2
            rw [Bool.and_eq_true] at k2
            obtain ⟨k4, k5⟩ := k2
            have k3 : (match K.lookup cc with
              | some ⟨_, _, .cell (some (.ref c)), _⟩ => decide (c = He.ga K x.C)
              | _ => false) = true := k3
            refine ⟨oc, od, n9, n10, n11, n12, cda, n14, osl, x.qual, x.scope, cc, p1, p2, a1, a2, a3, a4, a5, a6, b1, b2, b3, b4, txt, j, ?_, k4, ?_, ?_, T.kind, T.co, T.gen, T.n1, T.n2, T.n3, T.n4, T.n5, hl⟩
            · rw [hp, hb]
            · split at k5
              · rename_i ccl cdd vs ccs e1
                split at k5
                · rename_i f t e3
                  exact ⟨ccl, cdd, vs, ccs, f, t, e1, e3, k5⟩
                · cases k5
              · cases k5
            · split at k3
              · rename_i cl cld c csl e1
                have hc := of_decide_eq_true k3
                subst hc
                exact ⟨cl, cld, csl, e1⟩
              · cases k3
          | _ => cases k2
    | _ => cases c16
/-! ### the Hook: any Bool of the Frag, the defs, the exception classes -/
def obsX (ex : PySem.W.Frag → Bool) (file : Str) (fn : List Df) (xs : List Xc) (K : PySem.W.Frag) : He.AlD := (ex K && (fn.all (fun d => d.ok K) && xs.all fun x => x.ok file K), (fn.map fun d => fnWa K (d.at_.at K)) ++ xs.map fun x => fnWc K (x.fI K))
def valX (fn : List Df) (xs : List Xc) : He.AlD := (true, fn.map Df.val ++ xs.map Xc.val)
def SaysX (ex : PySem.W.Frag → Bool) (file : Str) (fn : List Df) (xs : List Xc) (K : PySem.W.Frag) : Prop := obsX ex file fn xs K = valX fn xs
def obsXG (n : Nat) (ex : PySem.W.Frag → Bool) (file : Str) (fn : List Df) (xs : List Xc) (g : Addr → Option Obj) : He.AlD := obsX ex file fn xs (He.frG g (cStatics :: He.asD g n))
def hookX (n : Nat) (ex : PySem.W.Frag → Bool) (file : Str) (fn : List Df) (xs : List Xc) : PySem.W.Hook where
  α := He.AlD
  obs := fun s => obsXG n ex file fn xs s.heap.get?
  val := fun _ => valX fn xs
  says := fun _ h => ∃ K : PySem.W.Frag, K.In h ∧ SaysX ex file fn xs K
  of := fun _ _ e => ⟨_, He.frG_in, e⟩
  keeps := fun _ _ _ ⟨K, hK, c⟩ k => ⟨K, PySem.W.Frag.In.keeps hK k, c⟩
theorem obsXG_eq {n : Nat} {ex : PySem.W.Frag → Bool} {file : Str} {fn : List Df} {xs : List Xc} {g : Addr → Option Obj} {s : Shared} (h : ∀ a, g a = s.heap.get? a) : obsXG n ex file fn xs g = (hookX n ex file fn xs).obs s := by
  have e : g = s.heap.get? := funext h
  rw [e] <;> rfl
section
variable {xb : PySem.W.Frag → Bool} {file : Str} {fn : List Df} {xs : List Xc} {K : PySem.W.Frag}
theorem SaysX.b (c : SaysX xb file fn xs K) : (xb K && (fn.all (fun d => d.ok K) && xs.all fun x => x.ok file K)) = true := congrArg (fun z : He.AlD => z.1) c
theorem SaysX.ex (c : SaysX xb file fn xs K) : xb K = true := (He.ba c.b).1
theorem SaysX.l (c : SaysX xb file fn xs K) : (fn.map fun d => fnWa K (d.at_.at K)) = fn.map Df.val ∧ (xs.map fun x => fnWc K (x.fI K)) = xs.map Xc.val :=
  List.append_inj (show (fn.map fun d => fnWa K (d.at_.at K)) ++ (xs.map fun x => fnWc K (x.fI K)) = fn.map Df.val ++ xs.map Xc.val from congrArg (fun z : He.AlD => z.2) c) (by simp)
theorem SaysX.def_ (c : SaysX xb file fn xs K) (i : Nat) {d : Df} (h : fn[i]? = some d := by rfl) : ∃ fd, FunD K d.name d.qual d.params d.body d.scope (d.dvs K) (d.kws K) (d.at_.at K) fd := by
  have c2 := (He.ba (He.ba c.b).2).1
  have e2 : (fn.map fun d => fnWa K (d.at_.at K))[i]? = (fn.map Df.val)[i]? := by rw [c.l.1]
  rw [List.getElem?_map, List.getElem?_map, h] at e2
  exact Df.funD (Option.some.inj e2) (List.all_eq_true.mp c2 d (List.mem_of_getElem? h))
theorem SaysX.exc_ (c : SaysX xb file fn xs K) {x : Xc} (h : x ∈ xs) : fnWc K (x.fI K) = x.val ∧ x.ok file K = true := by
  refine ⟨?_, List.all_eq_true.mp (He.ba (He.ba c.b).2).2 x h⟩
  obtain ⟨i, hi, e⟩ := List.mem_iff_getElem.mp h
  have e2 : (xs.map fun x => fnWc K (x.fI K))[i]? = (xs.map Xc.val)[i]? := by rw [c.l.2]
  rw [List.getElem?_map, List.getElem?_map, List.getElem?_eq_getElem hi, e] at e2
  exact Option.some.inj e2
end

/-! ### facts as Bools -/
def dB (K : PySem.W.Frag) (x : Str) : D → Bool
  | .str z => He.Fa.ok K (.str x z)
  | .int i => He.Fa.ok K (.int x i)
  | .ob y => decide (x = y) && He.Fa.ok K (.glo x)
  | _ => false
def excCB (K : PySem.W.Frag) (D : Addr) : Bool :=
  He.eqO (PySem.W.findIn K (.ref D) "__getattribute__") (some (some (.builtin "BaseException.__getattribute__"))) && (He.eqO (PySem.W.findIn K (.ref D) "__getattr__") (some none) && (decide (PySem.W.subIn K (.ref D) (.type "BaseException") = some true) && (PySem.W.hasDictIn K D &&
  (He.eqO (PySem.W.findIn K (.ref D) "__class__") (some (some (.builtin "object.__class__"))) && (He.eqO (PySem.W.specialIn K (.builtin "object.__class__") "__get__") (some (some (.builtin "getset_descriptor.__get__"))) && (decide (PySem.W.takesIn K (.builtin "object.__class__") = some true) && decide (PySem.W.mroIn K D (.type "object") = some true)))))))
theorem excCB_ok {K : PySem.W.Frag} {D : Addr} (h : excCB K D = true) : ExcC K D := by
  unfold excCB at h
  simp only [Bool.and_eq_true, decide_eq_true_eq] at h
  obtain ⟨c1, c2, c3, c4, c5, c6, c7, c8⟩ := h
  exact ⟨He.eqO_ok c1, He.eqO_ok c2, c3, c4, He.eqO_ok c5, He.eqO_ok c6, c7, c8⟩
def nmK (K : PySem.W.Frag) : Nm → Value
  | .own x => .ref (He.ga K x)
  | .ty _ n => .type n
def Fct.okB (K : PySem.W.Frag) : Fct → Bool
  | .glob x d => dB K x d
  | .free x => He.Fa.ok K (.free x)
  | .nm x => He.Fa.ok K (.glo x)
  | .fld C x => He.Fa.ok K (.cls C) && He.Fa.ok K (.noat C x)
  | .exc _ _ => true
  | .exm C l => l.all fun p => He.Fa.ok K (.exm p.1 C p.2)
  | .xf y f => xfB K (He.ga K y) && He.Fa.ok K (.noat y f)
  | .xc y => excCB K (He.ga K y)
  | .kit y C b => decide (PySem.W.kitOne K (.ref (He.ga K y)) (nmK K C) = some b)
/-- the law's constants at K -/
def lawOf (P : Program) (w : World) (K : PySem.W.Frag) (mg : Str → Option Value) (base : Heap) : Law := ⟨P, w, ⟨K, He.ga K⟩, mg, base⟩
section
variable {P : Program} {w : World} {K : PySem.W.Frag} {mg : Str → Option Value} {base h : Heap}
theorem look_mem {l : List (Str × Bool)} {y : Str} {b : Bool} (e : l.lookup y = some b) : (y, b) ∈ l := PySem.mem_of_lookup e
theorem Fct.ok_of (X : K.In h) (G : h.Ns mainGlobals mg) (xc : ∀ C p, ExcOk (lawOf P w K mg base) C p ∨ ¬ ExcOk (lawOf P w K mg base) C p) : ∀ {f : Fct}, (∀ C p, f = .exc C p → ExcOk (lawOf P w K mg base) C p) → f.okB K = true → f.Ok (lawOf P w K mg base)
  | .glob x d, _, c => by
    cases d with
    | str z =>
      obtain ⟨t, e⟩ := He.str_ok X G c
      exact ⟨.str z, _, e, ⟨t, rfl⟩, fun _ => rfl⟩
    | int i =>
      obtain ⟨t, e⟩ := He.int_ok X G c
      exact ⟨.int i, _, e, ⟨t, rfl⟩, fun _ => rfl⟩
    | ob y =>
      have c : (decide (x = y) && He.Fa.ok K (.glo x)) = true := c
      obtain ⟨c1, c2⟩ := He.ba c
      have c1 := of_decide_eq_true c1
      subst c1
      exact ⟨.ref (He.ga K x), _, He.glo_ok X G c2, rfl, fun _ => rfl⟩
    | _ => cases c
  | .free x, _, c => He.free_ok X G c
  | .nm x, _, c => He.glo_ok X G c
  | .fld C x, _, c => by
    obtain ⟨c1, c2⟩ := He.ba (show (He.Fa.ok K (.cls C) && He.Fa.ok K (.noat C x)) = true from c)
    exact ⟨He.cls_ok c1, He.noat_ok c2⟩
  | .exc C p, he, c => he C p rfl
  | .exm C l, _, c => fun y b e => He.exm_ok (List.all_eq_true.mp (show (l.all fun p => He.Fa.ok K (.exm p.1 C p.2)) = true from c) (y, b) (look_mem e))
  | .xf y f, _, c => by
    obtain ⟨c1, c2⟩ := He.ba (show (xfB K (He.ga K y) && He.Fa.ok K (.noat y f)) = true from c)
    exact ⟨xfB_ok c1, He.noat_ok c2⟩
  | .xc y, _, c => excCB_ok c
  | .kit y C b, _, c => by
    have c : decide (PySem.W.kitOne K (.ref (He.ga K y)) (nmK K C) = some b) = true := c
    have e : nmC (lawOf P w K mg base) C = nmK K C := by cases C <;> rfl
    show PySem.W.kitOne K (.ref (He.ga K y)) (nmC (lawOf P w K mg base) C) = some b
    rw [e]
    exact of_decide_eq_true c
end
/-! a list of facts -/
def Nm.beq : Nm → Nm → Bool
  | .own x, .own y => decide (x = y)
  | .ty x n, .ty y m => decide (x = y) && decide (n = m)
  | _, _ => false
theorem Nm.beq_eq {a b : Nm} (h : Nm.beq a b = true) : a = b := by
  cases a <;> cases b <;> first | (cases h; done) | (simp only [Nm.beq, Bool.and_eq_true, decide_eq_true_eq] at h; first | (obtain ⟨rfl, rfl⟩ := h; rfl) | (cases h; rfl))
def Fct.beq : Fct → Fct → Bool
  | .glob x d, .glob y e => decide (x = y) && D.beq d e
  | .free x, .free y => decide (x = y)
  | .nm x, .nm y => decide (x = y)
  | .fld C x, .fld D y => decide (C = D) && decide (x = y)
  | .exc C x, .exc D y => decide (C = D) && decide (x = y)
  | .exm C l, .exm D m => decide (C = D) && decide (l = m)
  | .xf C x, .xf D y => decide (C = D) && decide (x = y)
  | .xc x, .xc y => decide (x = y)
  | .kit x C b, .kit y D c => decide (x = y) && (Nm.beq C D && decide (b = c))
  | _, _ => false
theorem Fct.beq_eq {a b : Fct} (h : Fct.beq a b = true) : a = b := by
  cases a <;> cases b <;> first | (cases h; done) | skip
  · simp only [Fct.beq, Bool.and_eq_true, decide_eq_true_eq] at h
    obtain ⟨rfl, h2⟩ := h
    rw [D.beq_eq _ _ h2]
  · have h := of_decide_eq_true h
    rw [h]
  · have h := of_decide_eq_true h
    rw [h]
  · simp only [Fct.beq, Bool.and_eq_true, decide_eq_true_eq] at h
    rw [h.1, h.2]
  · simp only [Fct.beq, Bool.and_eq_true, decide_eq_true_eq] at h
    rw [h.1, h.2]
  · simp only [Fct.beq, Bool.and_eq_true, decide_eq_true_eq] at h
    rw [h.1, h.2]
  · simp only [Fct.beq, Bool.and_eq_true, decide_eq_true_eq] at h
    rw [h.1, h.2]
  · have h := of_decide_eq_true h
    rw [h]
  · simp only [Fct.beq, Bool.and_eq_true, decide_eq_true_eq] at h
    rw [h.1, Nm.beq_eq h.2.1, h.2.2]
def fbOf (FS : List Fct) (f : Fct) : Bool := FS.any fun g => Fct.beq f g
theorem fb_ok {L : Law} {FS : List Fct} (h : ∀ f ∈ FS, f.Ok L) : ∀ f, fbOf FS f = true → f.Ok L := fun f c => by
  obtain ⟨g, hg, e⟩ := List.any_eq_true.mp c
  rw [Fct.beq_eq e]
  exact h g hg
def excsB (FS : List Fct) (xs : List Xc) : Bool := FS.all fun f => match f with
  | .exc C p => xs.any fun x => decide (x.C = C) && decide (x.p = p)
  | _ => true
section
variable {P : Program} {w : World} {K : PySem.W.Frag} {mg : Str → Option Value} {base h : Heap} {xb : PySem.W.Frag → Bool} {fn : List Df} {xs : List Xc} {FS : List Fct}
theorem facts_ok (X : K.In h) (G : h.Ns mainGlobals mg) (c : SaysX xb P.main.file fn xs K) (T : ∀ x ∈ xs, x.Txt P) (hx : excsB FS xs = true) (hb : FS.all (Fct.okB K) = true) : ∀ f ∈ FS, f.Ok (lawOf P w K mg base) := fun f hf => by
  refine Fct.ok_of X G (fun _ _ => Classical.em _) (fun C p e => ?_) (List.all_eq_true.mp hb f hf)
  subst e
  have := List.all_eq_true.mp hx _ hf
  obtain ⟨x, hxx, e⟩ := List.any_eq_true.mp (show (xs.any fun x => decide (x.C = C) && decide (x.p = p)) = true from this)
  rw [Bool.and_eq_true, decide_eq_true_eq, decide_eq_true_eq] at e
  obtain ⟨rfl, rfl⟩ := e
  obtain ⟨e1, e2⟩ := c.exc_ hxx
  exact ⟨_, _, _, _, _, Xc.exc X G (T x hxx) e1 e2⟩
end
/-! isinstance -/
def insB (K : PySem.W.Frag) (x : Str) : Bool := He.Fa.ok K (.cls x) && (He.eqO (PySem.W.findIn K (.ref (He.ga K x)) "__class__") (some (some (.builtin "object.__class__"))) && (He.eqO (PySem.W.specialIn K (.builtin "object.__class__") "__get__") (some (some (.builtin "getset_descriptor.__get__"))) &&
  (decide (PySem.W.takesIn K (.builtin "object.__class__") = some true) && decide (PySem.W.mroIn K (He.ga K x) (.type "object") = some true))))
theorem insB_ok {K : PySem.W.Frag} {x : Str} (h : insB K x = true) : InsFacts K (He.ga K x) := by
  obtain ⟨h1, h⟩ := He.ba h
  obtain ⟨h2, h⟩ := He.ba h
  obtain ⟨h3, h⟩ := He.ba h
  obtain ⟨h4, h5⟩ := He.ba h
  exact ⟨He.cls_ok h1, He.eqO_ok h2, He.eqO_ok h3, of_decide_eq_true h4, of_decide_eq_true h5⟩
abbrev IsaL := List ((Tag × Tag) × Bool)
def sigOf (l : IsaL) : Sig := ⟨fun t u => l.lookup (t, u)⟩
def tagK (K : PySem.W.Frag) : Tag → Value
  | .bi n => .type n
  | .own x => .ref (He.ga K x)
def sigB (K : PySem.W.Frag) (l : IsaL) : Bool := l.all fun q => decide (PySem.W.kitOne K (tagK K q.1.1) (tagK K q.1.2) = some q.2) && (match q.1.1 with
  | .own x => insB K x
  | _ => true)
theorem lookup_mem {α β : Type} [BEq α] [LawfulBEq α] {l : List (α × β)} {a : α} {b : β} (e : l.lookup a = some b) : (a, b) ∈ l := by
  induction l with
  | nil => cases e
  | cons p l ih =>
    obtain ⟨x, y⟩ := p
    rw [List.lookup_cons] at e
    split at e
    · rename_i hx
      have hx : a = x := by simpa using hx
      cases e
      rw [hx]
      exact List.mem_cons_self
    · exact List.mem_cons_of_mem _ (ih e)
theorem sigB_ok {P : Program} {w : World} {K : PySem.W.Frag} {mg : Str → Option Value} {base : Heap} {l : IsaL} (h : sigB K l = true) : SigOk (lawOf P w K mg base) (sigOf l) := by
  have all := List.all_eq_true.mp h
  have tk : ∀ t, tagV (lawOf P w K mg base).c t = tagK K t := fun t => by cases t <;> rfl
  refine ⟨fun t u b e => ?_, fun x u b e => ?_⟩
  · obtain ⟨h1, _⟩ := He.ba (all _ (lookup_mem (show l.lookup (t, u) = some b from e)))
    rw [tk, tk]
    exact of_decide_eq_true h1
  · obtain ⟨_, h2⟩ := He.ba (all _ (lookup_mem (show l.lookup (Tag.own x, u) = some b from e)))
    exact insB_ok h2
/-! properties -/
def propB (K : PySem.W.Frag) (C x : Str) : Bool := He.Fa.ok K (.cls C) && (He.eqO (PySem.W.findIn K (.ref (He.ga K C)) x) (some (some (.ref (He.ma K (He.ga K C) x)))) && (He.eqO (PySem.W.specialIn K (.ref (He.ma K (He.ga K C) x)) "__get__") (some (some (.builtin "property.__get__"))) &&
  (decide (PySem.W.takesIn K (.ref (He.ma K (He.ga K C) x)) = some true) && (match PySem.W.recIn K (He.ma K (He.ga K C) x) "property" with
    | some (.ref _ :: _) => true
    | _ => false))))
theorem propB_ok {K : PySem.W.Frag} {C x : Str} (h : propB K C x = true) : Cls K (He.ga K C) ∧ PropOf K (He.ga K C) x (He.ma K (He.ga K C) x) ((Pth.get C x).at K) := by
  obtain ⟨h1, h⟩ := He.ba h
  obtain ⟨h2, h⟩ := He.ba h
  obtain ⟨h3, h⟩ := He.ba h
  obtain ⟨h4, h5⟩ := He.ba h
  refine ⟨He.cls_ok h1, He.eqO_ok h2, He.eqO_ok h3, of_decide_eq_true h4, ?_⟩
  show ∃ rest, PySem.W.recIn K (He.ma K (He.ga K C) x) "property" = some (.ref (gAd K (He.ma K (He.ga K C) x)) :: rest)
  unfold gAd
  split at h5
  · rename_i g rest e
    exact ⟨rest, e⟩
  · cases h5
/-! != by an own == -/
def neB (K : PySem.W.Frag) (C : Str) : Bool := He.eqO (PySem.W.findIn K (.ref (He.ga K C)) "__ne__") (some (some (.builtin "object.__ne__"))) && decide (PySem.W.subIn K (.ref (He.ga K C)) (.type "object") = some true)
theorem neB_ok {P : Program} {w : World} {K : PySem.W.Frag} {mg : Str → Option Value} {base : Heap} {C : Str} (h : neB K C = true) : NeOk (lawOf P w K mg base) C := by
  obtain ⟨h1, h2⟩ := He.ba h
  exact ⟨He.eqO_ok h1, of_decide_eq_true h2⟩
end DL
end
section
set_option Elab.async false
set_option linter.all false
set_option maxRecDepth 100000
set_option maxHeartbeats 2000000
set_option autoImplicit false
/-! DL: defs by their terms -/
namespace DL
open PySem PySem.Spec L2
open PyProof.Rows hiding St
/-! ### names of a def -/
def scB (N ps : List Str) (sc : Scope) : Bool := decide (sc.kind = .function) && (!sc.isCoroutine && (!sc.isGenerator && (decide N.Nodup && (decide (N.take ps.length = ps) && ((ps.all fun x => varB sc x) && (sc.names.all fun y => !decide (y.2 = .free)))))))
theorem scB_ok {N ps : List Str} {sc : Scope} (h : scB N ps sc = true) : FnScope N ps sc := by
  unfold scB at h
  simp only [Bool.and_eq_true, decide_eq_true_eq, Bool.not_eq_true', List.all_eq_true, decide_eq_false_iff_not] at h
  obtain ⟨h1, h2, h3, h4, h5, h6, h7⟩ := h
  refine ⟨h1, h2, h3, h4, h5, fun x hx => ?_, fun y hy => h7 y hy⟩
  have := h6 x hx
  unfold varB at this
  split at this
  · rename_i e; exact .inl e
  · rename_i e; exact .inr e
  · cases this
section
variable {L : Law} {k : Nat} {N ps : List Str} {Z : Sig} {fb : Fct → Bool} {x qual C : Str} {params : Arguments} {body : List Stmt} {scope : Scope} {dvs : List V} {kws : List (Str × V)} {f : Addr} {fd : FuncData} {b : Ss}
theorem fn_chk (hfb : ∀ f, fb f = true → f.Ok L) (hZ : SigOk L Z) (F : FunD L.c.K x qual params body scope dvs kws f fd) (hs : scB N ps scope = true) (en : AllE (Ent.Ok L k) (enSs b)) (c : chkSs fb N b scope body = true) :
    FnOk L.P L.w L.c.K L.mg L.base (CX L.P L.w) (k + 1) f fd ps (DSp L ps.length (fnM N.length (evSs Z b))) :=
  fnOk F (scB_ok hs) fun X W so d => sSs hfb hZ b X W scope body ⟨so, (scB_ok hs).kind, d.N, d.sc, d.fn⟩ en c
theorem init_chk {froz : Bool} (hfb : ∀ f, fb f = true → f.Ok L) (hZ : SigOk L Z) (F : FunD L.c.K x qual params body scope dvs kws f fd) (hs : scB N ps scope = true) (en : AllE (Ent.Ok L k) (enSs b)) (c : chkSs fb N b scope body = true) :
    FnOk L.P L.w L.c.K L.mg L.base (CX L.P L.w) (k + 1) f fd ps (ISp L C ps.length N.length froz (evSs Z b)) :=
  initOk F (scB_ok hs) fun X W so d => sSs hfb hZ b X W scope body ⟨so, (scB_ok hs).kind, d.N, d.sc, d.fn⟩ en c
/-- parameters without defaults -/
theorem kbn_all (F : FunD L.c.K x qual params body scope [] kws f fd) (h : ∀ (kV doc pm : Value) (an : Option Addr) (cdv ct : Value) (us : List Value), us.length = ps.length → bindArgs (PySem.W.fnOf x qual params body scope .none kV doc pm an cdv ct) ⟨us, []⟩ = pure (ps.zip us)) :
    KBn L.c.K fd ps ps.length [] (fun us _ => us) (fun vs _ => vs) := by
  refine ⟨fun s us ws X l1 l2 => ?_, fun r _ => r⟩
  have e : ws = [] := List.eq_nil_of_length_eq_zero l2
  subst e
  exact FunD.bindsA F h s us l1
theorem call_all' {m : FnM} {j : Nat} (kp : PySem.W.keepIn L.c.K (.ref f) = true) (F : FnOk L.P L.w L.c.K L.mg L.base (CX L.P L.w) j f fd ps (DSp L ps.length m)) (hb : KBn L.c.K fd ps ps.length [] (fun us _ => us) (fun vs _ => vs)) : CallOk L j f ps.length [] m :=
  callOk_fn (gD := fun ds => ds) F kp hb (fun vs zs h _ => h) fun g ds vs zs _ l2 r => by
    have e : zs = [] := List.eq_nil_of_length_eq_zero l2
    subst e
    simpa using r
/-- a def without defaults -/
theorem fn_call (hfb : ∀ f, fb f = true → f.Ok L) (hZ : SigOk L Z) (F : FunD L.c.K x qual params body scope [] kws f fd) (h : ∀ (kV doc pm : Value) (an : Option Addr) (cdv ct : Value) (us : List Value), us.length = ps.length → bindArgs (PySem.W.fnOf x qual params body scope .none kV doc pm an cdv ct) ⟨us, []⟩ = pure (ps.zip us))
    (hs : scB N ps scope = true) (en : AllE (Ent.Ok L k) (enSs b)) (c : chkSs fb N b scope body = true) : CallOk L (k + 1) f ps.length [] (fnM N.length (evSs Z b)) :=
  call_all' F.kp (fn_chk hfb hZ F hs en c) (kbn_all F h)
/-- a getter -/
theorem pr_call (hc : Cls L.c.K (L.c.ad C)) {y : Str} {p : Addr} (hp : PropOf L.c.K (L.c.ad C) y p f) (hfb : ∀ f, fb f = true → f.Ok L) (hZ : SigOk L Z) (F : FunD L.c.K x qual params body scope [] kws f fd) (hl : ps.length = 1) (h : ∀ (kV doc pm : Value) (an : Option Addr) (cdv ct : Value) (us : List Value), us.length = ps.length → bindArgs (PySem.W.fnOf x qual params body scope .none kV doc pm an cdv ct) ⟨us, []⟩ = pure (ps.zip us))
    (hs : scB N ps scope = true) (en : AllE (Ent.Ok L k) (enSs b)) (c : chkSs fb N b scope body = true) : PropOk L (k + 1) C y (fnM N.length (evSs Z b)) := by
  have F1 := fn_chk hfb hZ F hs en c
  rw [hl] at F1
  exact ⟨hc, p, f, fd, ps, hp, F1, F.bindsN h⟩
end
end DL
end
section
set_option Elab.async false
set_option linter.all false
set_option maxRecDepth 100000
set_option maxHeartbeats 2000000
set_option autoImplicit false
/-! DL: defs of the other kinds; the law's end -/
namespace DL
open PySem PySem.Spec L2
open PyProof.Rows hiding St
section
variable {L : Law} {k : Nat} {N ps : List Str} {Z : Sig} {fb : Fct → Bool} {x qual C : Str} {params : Arguments} {body : List Stmt} {scope : Scope} {dvs : List V} {kws : List (Str × V)} {f : Addr} {fd : FuncData}
theorem fn_chkT {b : Ts} (hfb : ∀ f, fb f = true → f.Ok L) (hZ : SigOk L Z) (F : FunD L.c.K x qual params body scope dvs kws f fd) (hs : scB N ps scope = true) (en : AllE (Ent.Ok L k) (enTs b)) (c : chkTs fb N b scope body = true) :
    FnOk L.P L.w L.c.K L.mg L.base (CX L.P L.w) (k + 1) f fd ps (DSp L ps.length (fnM N.length (evTs Z b))) :=
  fnOk F (scB_ok hs) fun X W so d => sTs hfb hZ ⟨so, (scB_ok hs).kind, d.N, d.sc, d.fn⟩ b body en c
theorem fn_callT {b : Ts} (hfb : ∀ f, fb f = true → f.Ok L) (hZ : SigOk L Z) (F : FunD L.c.K x qual params body scope [] kws f fd) (h : ∀ (kV doc pm : Value) (an : Option Addr) (cdv ct : Value) (us : List Value), us.length = ps.length → bindArgs (PySem.W.fnOf x qual params body scope .none kV doc pm an cdv ct) ⟨us, []⟩ = pure (ps.zip us))
    (hs : scB N ps scope = true) (en : AllE (Ent.Ok L k) (enTs b)) (c : chkTs fb N b scope body = true) : CallOk L (k + 1) f ps.length [] (fnM N.length (evTs Z b)) :=
  call_all' F.kp (fn_chkT hfb hZ F hs en c) (kbn_all F h)
/-- a method by its def -/
theorem me_of {K : PySem.W.Frag} {m : FnM} {n : Nat} {ks : List Str} (hK : L.c.K = K) (had : L.c.ad = He.ga K) (hc : He.Fa.ok K (.cls C) = true) (hm : He.Fa.ok K (.meth C x) = true) (c : CallOk L k (He.ma K (He.ga K C) x) (n + 1) ks m) : MethOk L k C x n ks m := by
  refine ⟨?_, He.ma K (He.ga K C) x, ?_, c⟩
  · rw [hK, had]; exact He.cls_ok hc
  · rw [hK, had]; exact He.meth_ok hm
end
/-! ### instances with keyword-only parameters -/
section
variable {L : Law} {C : Str} {f : Addr} {fd : FuncData} {ps : List Str} {N : Nat} {froz : Bool} {fb : SR} {k : Nat} {x qual : Str} {params : Arguments} {body : List Stmt} {scope : Scope} {kws : List (Str × V)}
/-- C(e, .., k = v, ..): n positional values; ms: the keyword-only parameters that lack, behind the given ones -/
theorem call_mkK (M : Mk L.c.K (L.c.ad C) f) (F : FnOk L.P L.w L.c.K L.mg L.base (CX L.P L.w) k f fd ps (ISp L C ps.length N froz fb)) (FD : FunD L.c.K x qual params body scope [] kws f fd) (hk : kws ≠ [])
    (n : Nat) (ks : List Str) (ms : List (Str × D)) (dv : List (Str × V)) (hdv : dv.map (·.1) = ms.map (·.1)) (hr : ∀ g, Reps L.c g (ms.map (·.2)) (dv.map (·.2))) (hms : ∀ q ∈ dv, q ∈ kws) (hl : n + 1 + ks.length + ms.length = ps.length)
    (h : ∀ (D : Addr) (doc pm : Value) (an : Option Addr) (cdv ct : Value) (us mv ws : List Value), us.length = n + 1 → mv.length = dv.length → ws.length = ks.length →
      KwChain D ((dv.map (·.1)).zip mv) (bindArgs (PySem.W.fnOf x qual params body scope .none (.ref D) doc pm an cdv ct) ⟨us, ks.zip ws⟩) (ps.zip (us ++ (ws ++ mv)))) :
    CallOk L (k + 1) (L.c.ad C) n ks (fun ds => mkM C N froz fb (ds ++ ms.map (·.2))) := by
  obtain ⟨mv, hb⟩ := FD.kbinds0 (ps := ps) (n + 1) ks dv (fun us mv ws => us ++ (ws ++ mv)) hk hms (fun r1 r2 r3 => r1.append (r3.append r2)) h
  refine callOk_mk (gD := fun ds => ds ++ ms.map (·.2)) M F hb fun a vs zs l1 l2 => ⟨vs ++ (zs ++ dv.map (·.2)), rfl, ?_, fun g ds r => ?_⟩
  · have e : dv.length = ms.length := by have := congrArg List.length hdv; simpa using this
    rw [List.length_append, List.length_append, List.length_map, l1, l2, e]
    omega
  · rw [← List.append_assoc]
    exact r.append (hr g)
/-- C(e, ..) without defaults -/
theorem call_mk0 (M : Mk L.c.K (L.c.ad C) f) (F : FnOk L.P L.w L.c.K L.mg L.base (CX L.P L.w) k f fd ps (ISp L C ps.length N froz fb)) (FD : FunD L.c.K x qual params body scope [] kws f fd) (n : Nat) (hl : n + 1 = ps.length)
    (h : ∀ (kV doc pm : Value) (an : Option Addr) (cdv ct : Value) (us : List Value), us.length = ps.length → bindArgs (PySem.W.fnOf x qual params body scope .none kV doc pm an cdv ct) ⟨us, []⟩ = pure (ps.zip us)) :
    CallOk L (k + 1) (L.c.ad C) n [] (fun ds => mkM C N froz fb ds) := by
  have hb := kbn_all FD h
  rw [← hl] at hb
  refine callOk_mk (gD := fun ds => ds) M F hb fun a vs zs l1 l2 => ⟨vs, rfl, by rw [l1]; exact hl, fun g ds r => ?_⟩
  have e : zs = [] := List.eq_nil_of_length_eq_zero l2
  subst e
  simpa using r
end
/-! ### the end -/
theorem walk_ofX {l : PySem.W.OpenLaw} {n k : Nat} {q : Program} {loose : List Str} {XP : (Str → Option Value) → Heap → Prop} {YP : World → Heap → Prop} {d : DefRec} {CX : World → CXT} {x : Str}
    (hn : l.most = some n) (hn2 : n ≤ sizeLine) (hdf : d.params.defaults = []) (hr : Room k callerA)
    (F : ∀ (w : World) (mg : Str → Option Value) (fa : Addr) (h : Heap), YP w h → h.Ns mainGlobals mg → mg d.name = some (.ref fa) →
      ∃ (K : PySem.W.Frag) (fd : FuncData) (sp : Sp), K.In h ∧ (∀ (s : Shared) (u : Value), BindsTo s fd ⟨[u], []⟩ [(x, u)]) ∧
        (∀ (H : Hp) (a : Addr) (ns : List Int), ns.length ≤ n → (∀ z ∈ ns, Builtin.Int.intBits z ≤ 1048576) → Only H → SqL K H a (ns.map V.int) → sp [.ref a] H (fun v _ => v = .bl true) fun _ _ _ => False) ∧
        ∀ base : Heap, K.In base → base.Ns mainGlobals mg → FnOk l.prog w K mg base (CX w) k fa fd [x] sp)
    (hCX : ∀ (w : World) (H : Hp) (s : Shared) (e : Value) (s' : Shared), CX w [] H s (fun _ _ _ => False) e s' → False) :
    PySem.W.WalkO q loose XP YP l.row.toRowW d [] (fun f vs => PySem.call f vs) := by
  refine Att.attach_callB hn hdf fun w s₀ s₁ mg mb fa o pm cd doc a vs ns G Y ho hd hcd hmg hobj hints hlen hbits hg => ?_
  obtain ⟨K, fd, sp, KX, hb, hsp, hF⟩ := F w mg fa _ Y G.T.g hmg
  exact law_call KX G.T.g G.T.b G.T.builtins G.T.nolimit hg hobj hints (Nat.le_trans hlen hn2) hr hF hb (fun H hO hS => hsp H a ns hlen hbits hO hS) fun H e s' => hCX w H s₁ e s'
theorem cx_no {P : Program} (w : World) (H : Hp) (s : Shared) (e : Value) (s' : Shared) (h : CX P w [] H s (fun _ _ _ => False) e s') : False := by
  obtain ⟨_, _, _, _, _, _, _, _, _, _, _, _, z⟩ := h
  exact z
/-- the law's promise from its mirror -/
theorem law_says {L : Law} {m : FnM} {H : Hp} {a : Addr} {ns : List Int} (hS : SqL L.c.K H a (ns.map V.int)) (h : ∃ st, m [.scr ns] [] = .ok (.bl true) st) : DSp L 1 m [.ref a] H (fun v _ => v = .bl true) fun _ _ _ => False := by
  obtain ⟨st, h⟩ := h
  refine ⟨⟨fun b => b = a ∧ H b ≠ none, [], H, none⟩, [.scr ns], [], rfl, rfl, ⟨fun b hb => hb.2, fun b hb => by simp at hb, List.nodup_nil, rfl, fun i o b e => by simp at e⟩, ⟨_, [], rfl, ⟨a, rfl, ?_⟩, rfl⟩, ?_⟩
  · rcases hS with hS | hS
    · exact .inl ⟨⟨rfl, by rcases hS with e | ⟨o, e⟩ <;> (show H a ≠ none; rw [e]; exact fun z => by cases z)⟩, hS⟩
    · exact .inr hS
  · unfold PostX
    rw [h]
    exact fun g' v _ _ r => r
end DL
end
section
set_option Elab.async false
set_option linter.all false
set_option maxRecDepth 100000
set_option maxHeartbeats 4000000
namespace T78
open PySem PySem.Spec L2 DL

def top (i : Nat) : Stmt := PySem.Challenge.pw_gaplesskeys_k78_texts_of_contents.main.body.getD i (.Pass ⟨0, 0, 0, 0⟩)
def sub (s : Stmt) (j : Nat) : Stmt := match s with
  | .ClassDef _ _ _ b _ _ _ _ _ _ _ => b.getD j (.Pass ⟨0, 0, 0, 0⟩)
  | _ => .Pass ⟨0, 0, 0, 0⟩
def IS : IsaL := [((.bi "NoneType", .bi "bool"), false), ((.bi "bool", .bi "bool"), true), ((.bi "int", .bi "bool"), false), ((.bi "str", .bi "bool"), false), ((.bi "list", .bi "bool"), false), ((.bi "tuple", .bi "bool"), false), ((.bi "dict", .bi "bool"), false), ((.own "Contents", .bi "bool"), false), ((.bi "NoneType", .bi "int"), false), ((.bi "bool", .bi "int"), true), ((.bi "int", .bi "int"), true), ((.bi "str", .bi "int"), false), ((.bi "list", .bi "int"), false), ((.bi "tuple", .bi "int"), false), ((.bi "dict", .bi "int"), false), ((.own "Contents", .bi "int"), false), ((.bi "NoneType", .bi "str"), false), ((.bi "bool", .bi "str"), false), ((.bi "int", .bi "str"), false), ((.bi "str", .bi "str"), true), ((.bi "list", .bi "str"), false), ((.bi "tuple", .bi "str"), false), ((.bi "dict", .bi "str"), false), ((.own "Contents", .bi "str"), false), ((.bi "NoneType", .bi "list"), false), ((.bi "bool", .bi "list"), false), ((.bi "int", .bi "list"), false), ((.bi "str", .bi "list"), false), ((.bi "list", .bi "list"), true), ((.bi "tuple", .bi "list"), false), ((.bi "dict", .bi "list"), false), ((.own "Contents", .bi "list"), false), ((.bi "NoneType", .bi "tuple"), false), ((.bi "bool", .bi "tuple"), false), ((.bi "int", .bi "tuple"), false), ((.bi "str", .bi "tuple"), false), ((.bi "list", .bi "tuple"), false), ((.bi "tuple", .bi "tuple"), true), ((.bi "dict", .bi "tuple"), false), ((.own "Contents", .bi "tuple"), false), ((.bi "NoneType", .bi "dict"), false), ((.bi "bool", .bi "dict"), false), ((.bi "int", .bi "dict"), false), ((.bi "str", .bi "dict"), false), ((.bi "list", .bi "dict"), false), ((.bi "tuple", .bi "dict"), false), ((.bi "dict", .bi "dict"), true), ((.own "Contents", .bi "dict"), false), ((.bi "NoneType", .own "Contents"), false), ((.bi "bool", .own "Contents"), false), ((.bi "int", .own "Contents"), false), ((.bi "str", .own "Contents"), false), ((.bi "list", .own "Contents"), false), ((.bi "tuple", .own "Contents"), false), ((.bi "dict", .own "Contents"), false), ((.own "Contents", .own "Contents"), true)]
def Zs : Sig := sigOf IS
def FS : List Fct := [.free "len", .free "max", .free "int", .nm "_law_draw", .nm "_law_choose", .free "range", .nm "_law_some", .glob "MOST_LETTERS" (.int 8), .free "isinstance", .free "str", .free "all", .glob "LETTERS" (.str "abcdefghijklmnopqrstuvwxyz"), .free "list", .free "tuple", .nm "is_word", .nm "are_keys", .glob "MOST_ACCEPTED" (.int 8), .glob "MOST_ROLES" (.int 3), .free "dict", .nm "is_role", .free "bool", .nm "are_roles", .nm "InvalidContents", .exc "InvalidContents" "part", .glob "MOST_VOUCHERS" (.int 4), .nm "is_between", .free "sorted", .fld "Contents" "own_vouchers", .nm "Contents", .fld "Contents" "own_roles", .nm "UnknownName", .exc "UnknownName" "name", .fld "Contents" "own_needed", .fld "Contents" "own_signers", .nm "format_keys", .nm "_law_keys_line", .glob "DIGITS" (.str "0123456789"), .glob "MOST_DIGITS" (.int 60), .nm "integer_of", .nm "keys_of", .nm "GapError", .exm "GapError" [("GapError", true), ("InvalidContents", true), ("ParseError", true), ("UnknownName", false)], .nm "number_of", .nm "format_contents", .nm "read_contents", .nm "ParseError", .exc "ParseError" "line", .glob "Contents" (.ob "Contents"), .nm "_law_line", .exm "ParseError" [("GapError", false), ("InvalidContents", false), ("ParseError", true), ("UnknownName", false)], .free "repr", .xf "ParseError" "line", .kit "ParseError" (.own "GapError") true, .xc "ParseError", .kit "ParseError" (.own "InvalidContents") false, .nm "parse_contents", .free "min", .nm "_law_stream", .nm "_law_words", .nm "_law_told", .nm "_law_contents", .nm "_law_bad_texts", .nm "_law_wrong"]

def N__law_stream : List Str := ["_law_script", "_law_k", "_law_cell", "_law_size", "_law_mixed"]
def t__law_stream : Ss := (.cons (.set 2 (.int 0)) (.cons (.ite (.cmp .Lt (.var 1) (.bc .len (.cons (.var 0) .nil))) (.cons (.set 2 (.sub (.var 0) (.var 1))) .nil) .nil) (.cons (.set 3 (.bc .max (.cons (.var 2) (.cons (.bin .Sub (.neg (.int 1)) (.var 2)) .nil)))) (.cons (.set 4 (.bin .Mod (.bin .Mult (.bin .Add (.bin .Add (.bin .Add (.bin .Mod (.var 3) (.int 2147483629)) (.bin .Mult (.bin .Mult (.int 7919) (.var 1)) (.var 1))) (.bin .Mult (.int 31) (.var 1))) (.int 17)) (.int 48271)) (.int 2147483647))) (.cons (.ret (.reg (.lst (.cons (.bin .Mult (.var 3) (.bc .int (.cons (.cmp .GtE (.var 3) (.bin .Pow (.int 10) (.int 18))) .nil))) (.cons (.var 4) .nil))))) .nil)))))
def m__law_stream : FnM := fnM 5 (evSs Zs t__law_stream)
theorem c__law_stream : chkSs (fbOf FS) N__law_stream t__law_stream (defScope (top 30)) (defBody (top 30)) = true := by decide +kernel
theorem s__law_stream : scB N__law_stream ["_law_script", "_law_k"] (defScope (top 30)) = true := by decide +kernel
def N__law_draw : List Str := ["_law_stream_here", "_law_count", "_law_result"]
def t__law_draw : Ss := (.cons (.ite (.cmp .Gt (.sub (.var 0) (.int 0)) (.int 0)) (.cons (.set 2 (.bin .Mod (.sub (.var 0) (.int 0)) (.var 1))) (.cons (.putC (.var 0) (.int 0) (.bin .FloorDiv (.sub (.var 0) (.int 0)) (.var 1))) (.cons (.ret (.var 2)) .nil))) .nil) (.cons (.putC (.var 0) (.int 1) (.bin .Mod (.bin .Add (.bin .Mult (.sub (.var 0) (.int 1)) (.int 39373)) (.int 7)) (.int 2147483647))) (.cons (.ret (.bin .Mod (.bin .FloorDiv (.bin .Mod (.bin .Mult (.sub (.var 0) (.int 1)) (.sub (.var 0) (.int 1))) (.int 2147483629)) (.int 32)) (.var 1))) .nil)))
def m__law_draw : FnM := fnM 3 (evSs Zs t__law_draw)
theorem c__law_draw : chkSs (fbOf FS) N__law_draw t__law_draw (defScope (top 31)) (defBody (top 31)) = true := by decide +kernel
theorem s__law_draw : scB N__law_draw ["_law_stream_here", "_law_count"] (defScope (top 31)) = true := by decide +kernel
def N__law_choose : List Str := ["_law_stream_here", "_law_items"]
def t__law_choose : Ss := (.cons (.ret (.sub (.var 1) (.app "_law_draw" 2 [] m__law_draw (.cons (.var 0) (.cons (.bc .len (.cons (.var 1) .nil)) .nil)) .nil))) .nil)
def m__law_choose : FnM := fnM 2 (evSs Zs t__law_choose)
theorem c__law_choose : chkSs (fbOf FS) N__law_choose t__law_choose (defScope (top 32)) (defBody (top 32)) = true := by decide +kernel
theorem s__law_choose : scB N__law_choose ["_law_stream_here", "_law_items"] (defScope (top 32)) = true := by decide +kernel
def N__law_words : List Str := ["_law_stream_here", "_law_count", "_law_letters", "_law_first", "_law_step", "_law_head", "_law_turn", "_law_tail", "_law_at"]
def t__law_words : Ss := (.cons (.set 2 (.str "abcdefghijklmnopqrstuvwxyz")) (.cons (.asg (.t (.cons (.v 3) (.cons (.v 4) .nil))) (.tup (.cons (.app "_law_draw" 2 [] m__law_draw (.cons (.var 0) (.cons (.int 26) .nil)) .nil) (.cons (.app "_law_choose" 2 [] m__law_choose (.cons (.var 0) (.cons (.frz (.lst (.cons (.int 1) (.cons (.int 3) (.cons (.int 5) (.cons (.int 7) (.cons (.int 9) (.cons (.int 11) (.cons (.int 15) (.cons (.int 17) (.cons (.int 19) (.cons (.int 21) (.cons (.int 23) (.cons (.int 25) .nil)))))))))))))) .nil)) .nil) .nil)))) (.cons (.set 5 (.mth .join (.str "") (.cons (.frz (.lc [("_law_turn", 6)] (.r1 (.app "_law_draw" 2 [] m__law_draw (.cons (.var 0) (.cons (.int 4) .nil)) .nil)) (.v 6) .yes (.app "_law_choose" 2 [] m__law_choose (.cons (.var 0) (.cons (.var 2) .nil)) .nil))) .nil))) (.cons (.set 7 (.mth .join (.str "") (.cons (.frz (.lc [("_law_turn", 6)] (.r1 (.app "_law_draw" 2 [] m__law_draw (.cons (.var 0) (.cons (.int 4) .nil)) .nil)) (.v 6) .yes (.app "_law_choose" 2 [] m__law_choose (.cons (.var 0) (.cons (.var 2) .nil)) .nil))) .nil))) (.cons (.ret (.frz (.lc [("_law_at", 8)] (.r1 (.var 1)) (.v 8) .yes (.bin .Add (.bin .Add (.var 5) (.sub (.var 2) (.bin .Mod (.bin .Add (.var 3) (.bin .Mult (.var 4) (.var 8))) (.int 26)))) (.var 7))))) .nil)))))
def m__law_words : FnM := fnM 9 (evSs Zs t__law_words)
theorem c__law_words : chkSs (fbOf FS) N__law_words t__law_words (defScope (top 34)) (defBody (top 34)) = true := by decide +kernel
theorem s__law_words : scB N__law_words ["_law_stream_here", "_law_count"] (defScope (top 34)) = true := by decide +kernel
def N__law_some : List Str := ["_law_stream_here", "_law_items", "_law_item"]
def t__law_some : Ss := (.cons (.ret (.frz (.lc [("_law_item", 2)] (.seq (.var 1)) (.v 2) (.one (.cmp .Eq (.app "_law_draw" 2 [] m__law_draw (.cons (.var 0) (.cons (.int 2) .nil)) .nil) (.int 0))) (.var 2)))) .nil)
def m__law_some : FnM := fnM 3 (evSs Zs t__law_some)
theorem c__law_some : chkSs (fbOf FS) N__law_some t__law_some (defScope (top 33)) (defBody (top 33)) = true := by decide +kernel
theorem s__law_some : scB N__law_some ["_law_stream_here", "_law_items"] (defScope (top 33)) = true := by decide +kernel
def N__law_told : List Str := ["_law_stream_here", "_law_parts", "_law_keys", "_law_hands", "_law_rows", "_law_part", "_law_likes", "_law_own", "_law_vouch", "_law_least", "_law_signing"]
def t__law_told : Ss := (.cons (.new 4 (.lst .nil)) (.cons (.fo (.seq (.var 1)) (.v 5) (.cons (.par [6, 7] (.cons (.app "_law_some" 2 [] m__law_some (.cons (.var 0) (.cons (.var 2) .nil)) .nil) (.cons (.app "_law_choose" 2 [] m__law_choose (.cons (.var 0) (.cons (.var 2) .nil)) .nil) .nil))) (.cons (.ite (.w (.an (.cmp .NotIn (.var 7) (.var 6)) (.one (.cmp .Gt (.app "_law_draw" 2 [] m__law_draw (.cons (.var 0) (.cons (.int 6) .nil)) .nil) (.int 0))))) (.cons (.set 6 (.bin .Add (.var 6) (.frz (.lst (.cons (.var 7) .nil))))) .nil) .nil) (.cons (.app 4 (.tup (.cons (.var 5) (.cons (.var 6) (.cons (.var 7) .nil))))) .nil)))) (.cons (.par [8, 9] (.cons (.app "_law_some" 2 [] m__law_some (.cons (.var 0) (.cons (.var 3) .nil)) .nil) (.cons (.app "_law_draw" 2 [] m__law_draw (.cons (.var 0) (.cons (.int 3) .nil)) .nil) .nil))) (.cons (.set 10 (.ife (.cmp .Gt (.app "_law_draw" 2 [] m__law_draw (.cons (.var 0) (.cons (.int 3) .nil)) .nil) (.int 0)) .non (.app "_law_some" 2 [] m__law_some (.cons (.var 0) (.cons (.var 3) .nil)) .nil))) (.frz 4 (.cons (.ret (.tup (.cons (.var 4) (.cons (.var 8) (.cons (.var 9) (.cons (.var 10) .nil)))))) .nil))))))
def m__law_told : FnM := fnM 11 (evSs Zs t__law_told)
theorem c__law_told : chkSs (fbOf FS) N__law_told t__law_told (defScope (top 35)) (defBody (top 35)) = true := by decide +kernel
theorem s__law_told : scB N__law_told ["_law_stream_here", "_law_parts", "_law_keys", "_law_hands"] (defScope (top 35)) = true := by decide +kernel
def N_is_word : List Str := ["value", "letter"]
def t_is_word : Ss := (.cons (.ite (.w (.orr (.not (.val (.bc .isi (.cons (.var 0) (.cons (.blt "str" "str") .nil))))) (.one (.not (.chn .LtE .LtE (.int 1) (.bc .len (.cons (.var 0) .nil)) (.glob "MOST_LETTERS" (.int 8))))))) (.cons (.ret (.bl false)) .nil) .nil) (.cons (.ret (.bc .all (.cons (.frz (.lc [("letter", 1)] (.seq (.var 0)) (.v 1) .yes (.cmp .In (.var 1) (.glob "LETTERS" (.str "abcdefghijklmnopqrstuvwxyz"))))) .nil))) .nil))
def m_is_word : FnM := fnM 2 (evSs Zs t_is_word)
theorem c_is_word : chkSs (fbOf FS) N_is_word t_is_word (defScope (top 7)) (defBody (top 7)) = true := by decide +kernel
theorem s_is_word : scB N_is_word ["value"] (defScope (top 7)) = true := by decide +kernel
def N_are_keys : List Str := ["value", "most", "key"]
def t_are_keys : Ss := (.cons (.ite (.w (.orr (.not (.val (.bc .isi (.cons (.var 0) (.cons (.tup (.cons (.blt "list" "list") (.cons (.blt "tuple" "tuple") .nil))) .nil))))) (.one (.cmp .Gt (.bc .len (.cons (.var 0) .nil)) (.var 1))))) (.cons (.ret (.bl false)) .nil) .nil) (.cons (.ret (.an (.bc .all (.cons (.frz (.lc [("key", 2)] (.seq (.var 0)) (.v 2) .yes (.app "is_word" 1 [] m_is_word (.cons (.var 2) .nil) .nil))) .nil)) (.one (.cmp .Eq (.lsc [("key", 2)] (.var 0) (.v 2) .yes (.var 2)) (.bc .len (.cons (.var 0) .nil)))))) .nil))
def m_are_keys : FnM := fnM 3 (evSs Zs t_are_keys)
theorem c_are_keys : chkSs (fbOf FS) N_are_keys t_are_keys (defScope (top 8)) (defBody (top 8)) = true := by decide +kernel
theorem s_are_keys : scB N_are_keys ["value", "most"] (defScope (top 8)) = true := by decide +kernel
def N_is_role : List Str := ["value"]
def t_is_role : Ss := (.cons (.ret (.an (.bc .isi (.cons (.var 0) (.cons (.blt "tuple" "tuple") .nil))) (.an (.cmp .Eq (.bc .len (.cons (.var 0) .nil)) (.int 2)) (.an (.app "are_keys" 2 [] m_are_keys (.cons (.sub (.var 0) (.int 0)) (.cons (.glob "MOST_ACCEPTED" (.int 8)) .nil)) .nil) (.one (.app "is_word" 1 [] m_is_word (.cons (.sub (.var 0) (.int 1)) .nil) .nil)))))) .nil)
def m_is_role : FnM := fnM 1 (evSs Zs t_is_role)
theorem c_is_role : chkSs (fbOf FS) N_is_role t_is_role (defScope (top 20)) (defBody (top 20)) = true := by decide +kernel
theorem s_is_role : scB N_is_role ["value"] (defScope (top 20)) = true := by decide +kernel
def N_are_roles : List Str := ["value", "role", "part"]
def t_are_roles : Ss := (.cons (.ite (.w (.orr (.not (.val (.bc .isi (.cons (.var 0) (.cons (.blt "dict" "dict") .nil))))) (.one (.not (.chn .LtE .LtE (.int 1) (.bc .len (.cons (.var 0) .nil)) (.glob "MOST_ROLES" (.int 3))))))) (.cons (.ret (.bl false)) .nil) .nil) (.cons (.ret (.bc .all (.cons (.frz (.lc [("role", 1), ("part", 2)] (.items (.v 0)) (.t (.cons (.v 1) (.cons (.v 2) .nil))) .yes (.an (.app "is_word" 1 [] m_is_word (.cons (.var 1) .nil) .nil) (.one (.app "is_role" 1 [] m_is_role (.cons (.var 2) .nil) .nil))))) .nil))) .nil))
def m_are_roles : FnM := fnM 3 (evSs Zs t_are_roles)
theorem c_are_roles : chkSs (fbOf FS) N_are_roles t_are_roles (defScope (top 21)) (defBody (top 21)) = true := by decide +kernel
theorem s_are_roles : scB N_are_roles ["value"] (defScope (top 21)) = true := by decide +kernel
def N_is_between : List Str := ["value", "least", "most"]
def t_is_between : Ss := (.cons (.ret (.an (.bc .isi (.cons (.var 0) (.cons (.blt "int" "int") .nil))) (.an (.not (.bc .isi (.cons (.var 0) (.cons (.blt "bool" "bool") .nil)))) (.one (.chn .LtE .LtE (.var 1) (.var 0) (.var 2)))))) .nil)
def m_is_between : FnM := fnM 3 (evSs Zs t_is_between)
theorem c_is_between : chkSs (fbOf FS) N_is_between t_is_between (defScope (top 6)) (defBody (top 6)) = true := by decide +kernel
theorem s_is_between : scB N_is_between ["value", "least", "most"] (defScope (top 6)) = true := by decide +kernel
def N_Contents___init__ : List Str := ["self", "roles", "vouchers", "needed", "signers", "role"]
def t_Contents___init__ : Ss := (.cons (.ite (.not (.val (.app "are_roles" 1 [] m_are_roles (.cons (.var 1) .nil) .nil))) (.cons (.raise "InvalidContents" "part" (.str "roles")) .nil) .nil) (.cons (.ite (.not (.val (.app "are_keys" 2 [] m_are_keys (.cons (.var 2) (.cons (.glob "MOST_VOUCHERS" (.int 4)) .nil)) .nil))) (.cons (.raise "InvalidContents" "part" (.str "vouchers")) .nil) .nil) (.cons (.ite (.not (.val (.app "is_between" 3 [] m_is_between (.cons (.var 3) (.cons (.int 0) (.cons (.glob "MOST_VOUCHERS" (.int 4)) .nil))) .nil))) (.cons (.raise "InvalidContents" "part" (.str "needed")) .nil) .nil) (.cons (.ite (.w (.an (.cmp .IsNot (.var 4) .non) (.one (.not (.val (.app "are_keys" 2 [] m_are_keys (.cons (.var 4) (.cons (.glob "MOST_VOUCHERS" (.int 4)) .nil)) .nil)))))) (.cons (.raise "InvalidContents" "part" (.str "signers")) .nil) .nil) (.cons (.attO 0 "Contents" "own_roles" (.frz (.dc [("role", 5)] (.seq (.bc .sorted (.cons (.var 1) .nil))) (.v 5) .yes (.var 5) (.tup (.cons (.bc .tuple (.cons (.bc .sorted (.cons (.sub (.sub (.var 1) (.var 5)) (.int 0)) .nil)) .nil)) (.cons (.sub (.sub (.var 1) (.var 5)) (.int 1)) .nil)))))) (.cons (.attO 0 "Contents" "own_vouchers" (.bc .tuple (.cons (.bc .sorted (.cons (.var 2) .nil)) .nil))) (.cons (.attO 0 "Contents" "own_needed" (.var 3)) (.cons (.attO 0 "Contents" "own_signers" (.ife (.cmp .Is (.var 4) .non) (.fld "Contents" "own_vouchers" (.own 0)) (.bc .tuple (.cons (.bc .sorted (.cons (.var 4) .nil)) .nil)))) .nil))))))))
def m_Contents_2 : FnM := fun ds => mkM "Contents" 6 true (evSs Zs t_Contents___init__) (ds ++ [(.int 1), .non])
def m_Contents_needed_2 : FnM := fun ds => mkM "Contents" 6 true (evSs Zs t_Contents___init__) (ds ++ [.non])
def m_Contents_needed_signers_2 : FnM := fun ds => mkM "Contents" 6 true (evSs Zs t_Contents___init__) (ds ++ [])
theorem c_Contents___init__ : chkSs (fbOf FS) N_Contents___init__ t_Contents___init__ (defScope (sub (top 22) 0)) (defBody (sub (top 22) 0)) = true := by decide +kernel
theorem s_Contents___init__ : scB N_Contents___init__ ["self", "roles", "vouchers", "needed", "signers"] (defScope (sub (top 22) 0)) = true := by decide +kernel
def N__law_contents : List Str := ["_law_told_here", "_law_rows", "_law_vouch", "_law_least", "_law_signing", "_law_part", "_law_likes", "_law_own"]
def t__law_contents : Ss := (.cons (.asg (.t (.cons (.v 1) (.cons (.v 2) (.cons (.v 3) (.cons (.v 4) .nil))))) (.var 0)) (.cons (.ret (.app "Contents" 2 ["needed", "signers"] m_Contents_needed_signers_2 (.cons (.bc .dict (.cons (.frz (.lc [("_law_part", 5), ("_law_likes", 6), ("_law_own", 7)] (.seq (.var 1)) (.t (.cons (.v 5) (.cons (.v 6) (.cons (.v 7) .nil)))) .yes (.tup (.cons (.var 5) (.cons (.tup (.cons (.var 6) (.cons (.var 7) .nil))) .nil))))) .nil)) (.cons (.var 2) .nil)) (.cons (.var 3) (.cons (.var 4) .nil)))) .nil))
def m__law_contents : FnM := fnM 8 (evSs Zs t__law_contents)
theorem c__law_contents : chkSs (fbOf FS) N__law_contents t__law_contents (defScope (top 36)) (defBody (top 36)) = true := by decide +kernel
theorem s__law_contents : scB N__law_contents ["_law_told_here"] (defScope (top 36)) = true := by decide +kernel
def N_Contents_roles : List Str := ["self"]
def t_Contents_roles : Ss := (.cons (.ret (.bc .list (.cons (.fld "Contents" "own_roles" (.var 0)) .nil))) .nil)
def m_Contents_roles : FnM := fnM 1 (evSs Zs t_Contents_roles)
theorem c_Contents_roles : chkSs (fbOf FS) N_Contents_roles t_Contents_roles (defScope (sub (top 22) 1)) (defBody (sub (top 22) 1)) = true := by decide +kernel
theorem s_Contents_roles : scB N_Contents_roles ["self"] (defScope (sub (top 22) 1)) = true := by decide +kernel
def N_format_keys : List Str := ["keys"]
def t_format_keys : Ss := (.cons (.ret (.ife (.val (.var 0)) (.mth .join (.str ",") (.cons (.var 0) .nil)) (.str "-"))) .nil)
def m_format_keys : FnM := fnM 1 (evSs Zs t_format_keys)
theorem c_format_keys : chkSs (fbOf FS) N_format_keys t_format_keys (defScope (top 24)) (defBody (top 24)) = true := by decide +kernel
theorem s_format_keys : scB N_format_keys ["keys"] (defScope (top 24)) = true := by decide +kernel
def N_Contents_part_of : List Str := ["self", "role"]
def t_Contents_part_of : Ss := (.cons (.ite (.w (.orr (.not (.val (.app "is_word" 1 [] m_is_word (.cons (.var 1) .nil) .nil))) (.one (.cmp .NotIn (.var 1) (.fld "Contents" "own_roles" (.var 0)))))) (.cons (.raise "UnknownName" "name" (.var 1)) .nil) .nil) (.cons (.ret (.sub (.fld "Contents" "own_roles" (.var 0)) (.var 1))) .nil))
def m_Contents_part_of : FnM := fnM 2 (evSs Zs t_Contents_part_of)
theorem c_Contents_part_of : chkSs (fbOf FS) N_Contents_part_of t_Contents_part_of (defScope (sub (top 22) 5)) (defBody (sub (top 22) 5)) = true := by decide +kernel
theorem s_Contents_part_of : scB N_Contents_part_of ["self", "role"] (defScope (sub (top 22) 5)) = true := by decide +kernel
def N_Contents_accepted : List Str := ["self", "role"]
def t_Contents_accepted : Ss := (.cons (.ret (.bc .list (.cons (.sub (.me "Contents" "part_of" 1 [] m_Contents_part_of (.var 0) (.cons (.var 1) .nil) .nil) (.int 0)) .nil))) .nil)
def m_Contents_accepted : FnM := fnM 2 (evSs Zs t_Contents_accepted)
theorem c_Contents_accepted : chkSs (fbOf FS) N_Contents_accepted t_Contents_accepted (defScope (sub (top 22) 6)) (defBody (sub (top 22) 6)) = true := by decide +kernel
theorem s_Contents_accepted : scB N_Contents_accepted ["self", "role"] (defScope (sub (top 22) 6)) = true := by decide +kernel
def N_Contents_used : List Str := ["self", "role"]
def t_Contents_used : Ss := (.cons (.ret (.sub (.me "Contents" "part_of" 1 [] m_Contents_part_of (.var 0) (.cons (.var 1) .nil) .nil) (.int 1))) .nil)
def m_Contents_used : FnM := fnM 2 (evSs Zs t_Contents_used)
theorem c_Contents_used : chkSs (fbOf FS) N_Contents_used t_Contents_used (defScope (sub (top 22) 7)) (defBody (sub (top 22) 7)) = true := by decide +kernel
theorem s_Contents_used : scB N_Contents_used ["self", "role"] (defScope (sub (top 22) 7)) = true := by decide +kernel
def N_Contents_vouchers : List Str := ["self"]
def t_Contents_vouchers : Ss := (.cons (.ret (.bc .list (.cons (.fld "Contents" "own_vouchers" (.var 0)) .nil))) .nil)
def m_Contents_vouchers : FnM := fnM 1 (evSs Zs t_Contents_vouchers)
theorem c_Contents_vouchers : chkSs (fbOf FS) N_Contents_vouchers t_Contents_vouchers (defScope (sub (top 22) 2)) (defBody (sub (top 22) 2)) = true := by decide +kernel
theorem s_Contents_vouchers : scB N_Contents_vouchers ["self"] (defScope (sub (top 22) 2)) = true := by decide +kernel
def N_Contents_needed : List Str := ["self"]
def t_Contents_needed : Ss := (.cons (.ret (.fld "Contents" "own_needed" (.var 0))) .nil)
def m_Contents_needed : FnM := fnM 1 (evSs Zs t_Contents_needed)
theorem c_Contents_needed : chkSs (fbOf FS) N_Contents_needed t_Contents_needed (defScope (sub (top 22) 4)) (defBody (sub (top 22) 4)) = true := by decide +kernel
theorem s_Contents_needed : scB N_Contents_needed ["self"] (defScope (sub (top 22) 4)) = true := by decide +kernel
def N_Contents_signers : List Str := ["self"]
def t_Contents_signers : Ss := (.cons (.ret (.bc .list (.cons (.fld "Contents" "own_signers" (.var 0)) .nil))) .nil)
def m_Contents_signers : FnM := fnM 1 (evSs Zs t_Contents_signers)
theorem c_Contents_signers : chkSs (fbOf FS) N_Contents_signers t_Contents_signers (defScope (sub (top 22) 3)) (defBody (sub (top 22) 3)) = true := by decide +kernel
theorem s_Contents_signers : scB N_Contents_signers ["self"] (defScope (sub (top 22) 3)) = true := by decide +kernel
def N_format_contents : List Str := ["contents", "parts", "role", "vouched"]
def t_format_contents : Ss := (.cons (.slc 1 [("role", 2)] (.seq (.pr "Contents" "roles" m_Contents_roles (.var 0))) (.v 2) .yes (.fs (.cons (.fmt (.var 2)) (.cons (.str " ") (.cons (.fmt (.app "format_keys" 1 [] m_format_keys (.cons (.me "Contents" "accepted" 1 [] m_Contents_accepted (.var 0) (.cons (.var 2) .nil) .nil) .nil) .nil)) (.cons (.str " ") (.cons (.fmt (.me "Contents" "used" 1 [] m_Contents_used (.var 0) (.cons (.var 2) .nil) .nil)) .nil))))))) (.frz 1 (.cons (.set 3 (.fs (.cons (.fmt (.app "format_keys" 1 [] m_format_keys (.cons (.pr "Contents" "vouchers" m_Contents_vouchers (.var 0)) .nil) .nil)) (.cons (.str " ") (.cons (.fmt (.pr "Contents" "needed" m_Contents_needed (.var 0))) (.cons (.str " ") (.cons (.fmt (.app "format_keys" 1 [] m_format_keys (.cons (.pr "Contents" "signers" m_Contents_signers (.var 0)) .nil) .nil)) .nil))))))) (.cons (.ret (.fs (.cons (.fmt (.mth .join (.str " / ") (.cons (.var 1) .nil))) (.cons (.str " | ") (.cons (.fmt (.var 3)) .nil))))) .nil))))
def m_format_contents : FnM := fnM 4 (evSs Zs t_format_contents)
theorem c_format_contents : chkSs (fbOf FS) N_format_contents t_format_contents (defScope (top 25)) (defBody (top 25)) = true := by decide +kernel
theorem s_format_contents : scB N_format_contents ["contents"] (defScope (top 25)) = true := by decide +kernel
def N__law_keys_line : List Str := ["_law_keys", "_law_key"]
def t__law_keys_line : Ss := (.cons (.ret (.ife (.cmp .NotEq (.var 0) (.frz (.lst .nil))) (.mth .join (.str ",") (.cons (.bc .sorted (.cons (.frz (.lc [("_law_key", 1)] (.seq (.var 0)) (.v 1) .yes (.bc .str (.cons (.var 1) .nil)))) .nil)) .nil)) (.str "-"))) .nil)
def m__law_keys_line : FnM := fnM 2 (evSs Zs t__law_keys_line)
theorem c__law_keys_line : chkSs (fbOf FS) N__law_keys_line t__law_keys_line (defScope (top 37)) (defBody (top 37)) = true := by decide +kernel
theorem s__law_keys_line : scB N__law_keys_line ["_law_keys"] (defScope (top 37)) = true := by decide +kernel
def N__law_line : List Str := ["_law_told_here", "_law_rows", "_law_vouch", "_law_least", "_law_signing", "_law_parts", "_law_part", "_law_likes", "_law_own", "_law_hands"]
def t__law_line : Ss := (.cons (.asg (.t (.cons (.v 1) (.cons (.v 2) (.cons (.v 3) (.cons (.v 4) .nil))))) (.var 0)) (.cons (.slc 5 [("_law_part", 6), ("_law_likes", 7), ("_law_own", 8)] (.seq (.bc .sorted (.cons (.var 1) .nil))) (.t (.cons (.v 6) (.cons (.v 7) (.cons (.v 8) .nil)))) .yes (.mth .join (.str " ") (.cons (.frz (.lst (.cons (.var 6) (.cons (.app "_law_keys_line" 1 [] m__law_keys_line (.cons (.var 7) .nil) .nil) (.cons (.var 8) .nil))))) .nil))) (.frz 5 (.cons (.set 9 (.ife (.cmp .Is (.var 4) .non) (.var 2) (.var 4))) (.cons (.ret (.bin .Add (.bin .Add (.mth .join (.str " / ") (.cons (.var 5) .nil)) (.str " | ")) (.mth .join (.str " ") (.cons (.frz (.lst (.cons (.app "_law_keys_line" 1 [] m__law_keys_line (.cons (.var 2) .nil) .nil) (.cons (.bc .str (.cons (.var 3) .nil)) (.cons (.app "_law_keys_line" 1 [] m__law_keys_line (.cons (.var 9) .nil) .nil) .nil))))) .nil)))) .nil)))))
def m__law_line : FnM := fnM 10 (evSs Zs t__law_line)
theorem c__law_line : chkSs (fbOf FS) N__law_line t__law_line (defScope (top 38)) (defBody (top 38)) = true := by decide +kernel
theorem s__law_line : scB N__law_line ["_law_told_here"] (defScope (top 38)) = true := by decide +kernel
def N_keys_of : List Str := ["word"]
def t_keys_of : Ss := (.cons (.ret (.ife (.cmp .Eq (.var 0) (.str "-")) (.frz (.lst .nil)) (.mth .split (.var 0) (.cons (.str ",") .nil)))) .nil)
def m_keys_of : FnM := fnM 1 (evSs Zs t_keys_of)
theorem c_keys_of : chkSs (fbOf FS) N_keys_of t_keys_of (defScope (top 26)) (defBody (top 26)) = true := by decide +kernel
theorem s_keys_of : scB N_keys_of ["word"] (defScope (top 26)) = true := by decide +kernel
def N_integer_of : List Str := ["word", "digits", "digit"]
def t_integer_of : Ss := (.cons (.set 1 (.ife (.val (.mth .starts (.var 0) (.cons (.str "-") .nil))) (.sli (.var 0) (.som (.int 1)) .no) (.var 0))) (.cons (.ite (.w (.orr (.not (.chn .LtE .LtE (.int 1) (.bc .len (.cons (.var 1) .nil)) (.glob "MOST_DIGITS" (.int 60)))) (.one (.not (.val (.bc .all (.cons (.frz (.lc [("digit", 2)] (.seq (.var 1)) (.v 2) .yes (.cmp .In (.var 2) (.glob "DIGITS" (.str "0123456789"))))) .nil))))))) (.cons (.ret .non) .nil) .nil) (.cons (.ite (.w (.an (.cmp .Eq (.sub (.var 1) (.int 0)) (.str "0")) (.one (.cmp .NotEq (.var 0) (.str "0"))))) (.cons (.ret .non) .nil) .nil) (.cons (.ret (.bc .int (.cons (.var 0) .nil))) .nil))))
def m_integer_of : FnM := fnM 3 (evSs Zs t_integer_of)
theorem c_integer_of : chkSs (fbOf FS) N_integer_of t_integer_of (defScope (top 9)) (defBody (top 9)) = true := by decide +kernel
theorem s_integer_of : scB N_integer_of ["word"] (defScope (top 9)) = true := by decide +kernel
def N_number_of : List Str := ["word"]
def t_number_of : Ss := (.cons (.ret (.ife (.val (.mth .starts (.var 0) (.cons (.str "-") .nil))) .non (.app "integer_of" 1 [] m_integer_of (.cons (.var 0) .nil) .nil))) .nil)
def m_number_of : FnM := fnM 1 (evSs Zs t_number_of)
theorem c_number_of : chkSs (fbOf FS) N_number_of t_number_of (defScope (top 10)) (defBody (top 10)) = true := by decide +kernel
theorem s_number_of : scB N_number_of ["word"] (defScope (top 10)) = true := by decide +kernel
def N_read_contents : List Str := ["line", "halves", "half", "words", "vouchers", "needed", "signers", "roles", "at", "made"]
def t_read_contents : Ss := (.cons (.slc 1 [("half", 2)] (.seq (.mth .split (.var 0) (.cons (.str " | ") .nil))) (.v 2) .yes (.mth .split (.var 2) (.cons (.str " ") .nil))) (.frz 1 (.cons (.ite (.w (.orr (.cmp .NotEq (.bc .len (.cons (.var 1) .nil)) (.int 2)) (.orr (.cmp .NotEq (.bc .len (.cons (.sub (.var 1) (.int 1)) .nil)) (.int 3)) (.one (.cmp .NotEq (.bin .Mod (.bc .len (.cons (.sub (.var 1) (.int 0)) .nil)) (.int 4)) (.int 3)))))) (.cons (.ret .non) .nil) .nil) (.cons (.asg (.t (.cons (.v 3) (.cons (.t (.cons (.v 4) (.cons (.v 5) (.cons (.v 6) .nil)))) .nil))) (.var 1)) (.cons (.new 7 .dnew) (.cons (.fo (.r3 (.int 0) (.bc .len (.cons (.var 3) .nil)) (.int 4)) (.v 8) (.cons (.putO 7 (.sub (.var 3) (.var 8)) (.tup (.cons (.app "keys_of" 1 [] m_keys_of (.cons (.sub (.var 3) (.bin .Add (.var 8) (.int 1))) .nil) .nil) (.cons (.sub (.var 3) (.bin .Add (.var 8) (.int 2))) .nil)))) .nil)) (.frz 7 (.cons (.tr "GapError" [("GapError", true), ("InvalidContents", true), ("ParseError", true), ("UnknownName", false)] (.cons (.set 9 (.app "Contents" 2 ["needed", "signers"] m_Contents_needed_signers_2 (.cons (.var 7) (.cons (.app "keys_of" 1 [] m_keys_of (.cons (.var 4) .nil) .nil) .nil)) (.cons (.app "number_of" 1 [] m_number_of (.cons (.var 5) .nil) .nil) (.cons (.app "keys_of" 1 [] m_keys_of (.cons (.var 6) .nil) .nil) .nil)))) .nil) (.cons (.ret .non) .nil)) (.cons (.ret (.ife (.cmp .Eq (.app "format_contents" 1 [] m_format_contents (.cons (.var 9) .nil) .nil) (.var 0)) (.var 9) .non)) .nil)))))))))
def m_read_contents : FnM := fnM 10 (evSs Zs t_read_contents)
theorem c_read_contents : chkSs (fbOf FS) N_read_contents t_read_contents (defScope (top 27)) (defBody (top 27)) = true := by decide +kernel
theorem s_read_contents : scB N_read_contents ["line"] (defScope (top 27)) = true := by decide +kernel
def N_parse_contents : List Str := ["text", "made"]
def t_parse_contents : Ss := (.cons (.set 1 (.ife (.val (.bc .isi (.cons (.var 0) (.cons (.blt "str" "str") .nil)))) (.app "read_contents" 1 [] m_read_contents (.cons (.var 0) .nil) .nil) .non)) (.cons (.ite (.cmp .Is (.var 1) .non) (.cons (.raise "ParseError" "line" (.int 0)) .nil) .nil) (.cons (.ret (.var 1)) .nil)))
def m_parse_contents : FnM := fnM 2 (evSs Zs t_parse_contents)
theorem c_parse_contents : chkSs (fbOf FS) N_parse_contents t_parse_contents (defScope (top 28)) (defBody (top 28)) = true := by decide +kernel
theorem s_parse_contents : scB N_parse_contents ["text"] (defScope (top 28)) = true := by decide +kernel
def N_Contents_state : List Str := ["self"]
def t_Contents_state : Ss := (.cons (.ret (.tup (.cons (.fld "Contents" "own_roles" (.var 0)) (.cons (.fld "Contents" "own_vouchers" (.var 0)) (.cons (.fld "Contents" "own_needed" (.var 0)) (.cons (.fld "Contents" "own_signers" (.var 0)) .nil)))))) .nil)
def m_Contents_state : FnM := fnM 1 (evSs Zs t_Contents_state)
theorem c_Contents_state : chkSs (fbOf FS) N_Contents_state t_Contents_state (defScope (sub (top 22) 8)) (defBody (sub (top 22) 8)) = true := by decide +kernel
theorem s_Contents_state : scB N_Contents_state ["self"] (defScope (sub (top 22) 8)) = true := by decide +kernel
def N_Contents___eq__ : List Str := ["self", "other"]
def t_Contents___eq__ : Ss := (.cons (.ret (.an (.bc .isi (.cons (.var 1) (.cons (.glob "Contents" (.ob "Contents")) .nil))) (.one (.cmp .Eq (.me "Contents" "state" 0 [] m_Contents_state (.var 0) .nil .nil) (.me "Contents" "state" 0 [] m_Contents_state (.var 1) .nil .nil))))) .nil)
def m_Contents___eq__ : FnM := fnM 2 (evSs Zs t_Contents___eq__)
theorem c_Contents___eq__ : chkSs (fbOf FS) N_Contents___eq__ t_Contents___eq__ (defScope (sub (top 22) 9)) (defBody (sub (top 22) 9)) = true := by decide +kernel
theorem s_Contents___eq__ : scB N_Contents___eq__ ["self", "other"] (defScope (sub (top 22) 9)) = true := by decide +kernel
def N__law_bad_texts : List Str := ["_law_told_here", "_law_line_here", "_law_rows", "_law_first", "_law_rest", "_law_found", "_law_odd"]
def t__law_bad_texts : Ts := (.cons (.par [1, 2] (.cons (.app "_law_line" 1 [] m__law_line (.cons (.var 0) .nil) .nil) (.cons (.bc .sorted (.cons (.sub (.var 0) (.int 0)) .nil)) .nil))) (.cons (.par [3, 4] (.cons (.sub (.mth .split (.var 1) (.cons (.str " | ") .nil)) (.int 0)) (.cons (.sub (.mth .split (.var 1) (.cons (.str " | ") .nil)) (.int 1)) .nil))) (.ent 5 (.lst (.m (.s "") [(.p (.str " ")), (.p (.str "|")), (.p (.str " | ")), (.p (.bin .Add (.var 1) (.str " "))), (.p (.bin .Add (.str " ") (.var 1))), (.p (.bin .Add (.var 1) (.str "\n"))), (.rep (.var 1) " " "  ")])) (.app 5 (.rep (.var 1) " | " "|") (.new 5 (.cat (.own 5) [(.p (.var 3)), (.p (.var 4)), (.p (.bin .Add (.bin .Add (.bin .Add (.bin .Add (.var 3) (.str " | ")) (.var 4)) (.str " | ")) (.var 4))), (.p (.bin .Add (.bin .Add (.var 3) (.str " / | ")) (.var 4))), (.rep (.var 3) " " "\t")]) (.cons (.new 5 (.cat (.own 5) (.frz (.lst (.cons (.mth0 .upper (.var 1)) (.cons (.bin .Add (.var 1) (.str " x")) (.cons (.bin .Add (.str "x ") (.var 1)) (.cons (.bin .Add (.bin .Add (.var 3) (.str " x | ")) (.var 4)) (.cons (.mth .join (.str " | ") (.cons (.frz (.lst (.cons (.var 4) (.cons (.var 3) .nil)))) .nil)) .nil))))))))) (.new 5 (.cat (.own 5) [(.p (.bin .Add (.bin .Add (.bin .Add (.bin .Add (.var 3) (.str " / ")) (.var 3)) (.str " | ")) (.var 4))), (.p (.bin .Add (.var 1) (.str ","))), (.add (.bin .Add (.var 3) (.str " | ")) (.repN (.var 4) " " " 0" 1))]) (.cons (.fo (.seq (.frz (.lst (.cons (.str "5") (.cons (.str "-1") (.cons (.str "x") (.cons (.str "") (.cons (.str "00") (.cons (.str "01") (.cons (.str "+1") (.cons (.str "1.0") (.cons (.str "10") .nil)))))))))))) (.v 6) (.cons (.app 5 (.bin .Add (.bin .Add (.bin .Add (.var 3) (.str " | - ")) (.var 6)) (.str " -"))) .nil)) (.cons (.fo (.seq (.frz (.lst (.cons (.str "a,a") (.cons (.str "b,a") (.cons (.str "a,,b") (.cons (.str ",a") (.cons (.str "a,") (.cons (.str "A") (.cons (.str "a1") (.cons (.str "abcdefghi") (.cons (.str "a,b,c,d,e") (.cons (.str "") (.cons (.str "a b") (.cons (.str "--") (.cons (.str "a,-") .nil)))))))))))))))) (.v 6) (.cons (.new 5 (.cat (.own 5) (.frz (.lst (.cons (.bin .Add (.bin .Add (.bin .Add (.var 3) (.str " | ")) (.var 6)) (.str " 1 -")) (.cons (.bin .Add (.bin .Add (.var 3) (.str " | - 1 ")) (.var 6)) .nil)))))) .nil)) (.cons (.fo (.seq (.frz (.lst (.cons (.str "a,a") (.cons (.str "b,a") (.cons (.str ",a") (.cons (.str "a,") (.cons (.str "A") (.cons (.str "abcdefghi") (.cons (.str "a,b,c,d,e,f,g,h,i") (.cons (.str "") (.cons (.str "a,-") .nil)))))))))))) (.v 6) (.cons (.app 5 (.bin .Add (.bin .Add (.bin .Add (.bin .Add (.sub (.sub (.var 2) (.int 0)) (.int 0)) (.str " ")) (.var 6)) (.str " a | ")) (.var 4))) .nil)) (.cons (.fo (.seq (.frz (.lst (.cons (.str "") (.cons (.str "A") (.cons (.str "-") (.cons (.str "a,b") (.cons (.str "abcdefghi") .nil)))))))) (.v 6) (.cons (.new 5 (.cat (.own 5) (.frz (.lst (.cons (.bin .Add (.bin .Add (.bin .Add (.bin .Add (.sub (.sub (.var 2) (.int 0)) (.int 0)) (.str " - ")) (.var 6)) (.str " | ")) (.var 4)) (.cons (.bin .Add (.bin .Add (.var 6) (.str " - a | ")) (.var 4)) .nil)))))) .nil)) (.cons (.ret (.bin .Add (.own 5) (.frz (.lst (.cons (.str "b - a / a - a | - 0 -") (.cons (.str "a - a / a - b | - 0 -") (.cons (.str "a - a / b - a / c - a / d - a | - 0 -") .nil))))))) .nil))))))))))))
def m__law_bad_texts : FnM := fnM 7 (evTs Zs t__law_bad_texts)
theorem c__law_bad_texts : chkTs (fbOf FS) N__law_bad_texts t__law_bad_texts (defScope (top 40)) (defBody (top 40)) = true := by decide +kernel
theorem s__law_bad_texts : scB N__law_bad_texts ["_law_told_here"] (defScope (top 40)) = true := by decide +kernel
def N__law_wrong : List Str := ["_law_text", "e"]
def t__law_wrong : Ss := (.cons (.trA 1 "ParseError" [("GapError", false), ("InvalidContents", false), ("ParseError", true), ("UnknownName", false)] [.fld "line", .isaN (.own "GapError") (.own "InvalidContents") [("ParseError", true)] [("ParseError", false)]] (.cons (.drop (.app "parse_contents" 1 [] m_parse_contents (.cons (.var 0) .nil) .nil)) .nil)) (.cons (.ret (.str "none")) .nil))
def m__law_wrong : FnM := fnM 2 (evSs Zs t__law_wrong)
theorem c__law_wrong : chkSs (fbOf FS) N__law_wrong t__law_wrong (defScope (top 39)) (defBody (top 39)) = true := by decide +kernel
theorem s__law_wrong : scB N__law_wrong ["_law_text"] (defScope (top 39)) = true := by decide +kernel
def N_law : List Str := ["_law_script", "_law_k", "_law_stream_here", "_law_parts", "_law_keys", "_law_hands", "_law_told_here", "_law_contents_here", "_law_line_here", "_law_again", "_law_bent", "_law_odd", "_law_plain"]
def t_law : Ss := (.cons (.fo (.r1 (.bc .max (.cons (.int 1) (.cons (.bc .min (.cons (.int 8) (.cons (.bc .len (.cons (.var 0) .nil)) .nil))) .nil)))) (.v 1) (.cons (.set 2 (.app "_law_stream" 2 [] m__law_stream (.cons (.var 0) (.cons (.var 1) .nil)) .nil)) (.cons (.par [3, 4, 5] (.cons (.app "_law_words" 2 [] m__law_words (.cons (.var 2) (.cons (.bin .Add (.int 1) (.app "_law_draw" 2 [] m__law_draw (.cons (.var 2) (.cons (.int 3) .nil)) .nil)) .nil)) .nil) (.cons (.app "_law_words" 2 [] m__law_words (.cons (.var 2) (.cons (.int 8) .nil)) .nil) (.cons (.app "_law_words" 2 [] m__law_words (.cons (.var 2) (.cons (.int 4) .nil)) .nil) .nil)))) (.cons (.set 6 (.app "_law_told" 4 [] m__law_told (.cons (.var 2) (.cons (.var 3) (.cons (.var 4) (.cons (.var 5) .nil)))) .nil)) (.cons (.set 6 (.tup (.cons (.sub (.var 6) (.int 0)) (.cons (.sub (.var 6) (.int 1)) (.cons (.app "_law_draw" 2 [] m__law_draw (.cons (.var 2) (.cons (.int 5) .nil)) .nil) (.cons (.sub (.var 6) (.int 3)) .nil)))))) (.cons (.set 7 (.app "_law_contents" 1 [] m__law_contents (.cons (.var 6) .nil) .nil)) (.cons (.set 8 (.app "format_contents" 1 [] m_format_contents (.cons (.var 7) .nil) .nil)) (.cons (.ite (.cmp .NotEq (.bc .repr (.cons (.var 8) .nil)) (.bc .repr (.cons (.app "_law_line" 1 [] m__law_line (.cons (.var 6) .nil) .nil) .nil))) (.cons (.ret (.bl false)) .nil) .nil) (.cons (.set 9 (.app "parse_contents" 1 [] m_parse_contents (.cons (.var 8) .nil) .nil)) (.cons (.ite (.w (.orr (.oeq true "Contents" m_Contents___eq__ (.var 9) (.var 7)) (.orr (.cmp .NotEq (.app "format_contents" 1 [] m_format_contents (.cons (.var 9) .nil) .nil) (.var 8)) (.one (.oeq true "Contents" m_Contents___eq__ (.var 7) (.app "_law_contents" 1 [] m__law_contents (.cons (.var 6) .nil) .nil)))))) (.cons (.ret (.bl false)) .nil) .nil) (.cons (.fo (.seq (.app "_law_bad_texts" 1 [] m__law_bad_texts (.cons (.var 6) .nil) .nil)) (.v 10) (.cons (.ite (.cmp .NotEq (.app "_law_wrong" 1 [] m__law_wrong (.cons (.var 10) .nil) .nil) (.frz (.lst (.cons (.str "0") (.cons (.bl true) .nil))))) (.cons (.ret (.bl false)) .nil) .nil) .nil)) (.cons (.fo (.seq (.frz (.lst (.cons .non (.cons (.int 5) (.cons (.bl true) (.cons (.frz (.lst (.cons (.var 8) .nil))) (.cons (.tup (.cons (.var 8) .nil)) (.cons (.frz (.dsp (.cons (.var 8) (.int 1) .nil))) (.cons (.var 7) .nil)))))))))) (.v 11) (.cons (.ite (.cmp .NotEq (.app "_law_wrong" 1 [] m__law_wrong (.cons (.var 11) .nil) .nil) (.frz (.lst (.cons (.str "0") (.cons (.bl true) .nil))))) (.cons (.ret (.bl false)) .nil) .nil) .nil)) .nil)))))))))))) (.cons (.set 12 (.app "Contents" 2 [] m_Contents_2 (.cons (.frz (.dsp (.cons (.str "web") (.tup (.cons (.frz (.lst (.cons (.str "c") .nil))) (.cons (.str "c") .nil))) (.cons (.str "app") (.tup (.cons (.frz (.lst (.cons (.str "b") (.cons (.str "a") .nil)))) (.cons (.str "a") .nil))) .nil)))) (.cons (.frz (.lst (.cons (.str "v") .nil))) .nil)) .nil)) (.cons (.ite (.cmp .NotEq (.app "format_contents" 1 [] m_format_contents (.cons (.var 12) .nil) .nil) (.str "app a,b a / web c c | v 1 v")) (.cons (.ret (.bl false)) .nil) .nil) (.cons (.ret (.cmp .Eq (.app "format_contents" 1 [] m_format_contents (.cons (.app "Contents" 2 ["needed"] m_Contents_needed_2 (.cons (.frz (.dsp (.cons (.str "a") (.tup (.cons (.frz (.lst .nil)) (.cons (.str "b") .nil))) .nil))) (.cons (.frz (.lst .nil)) .nil)) (.cons (.int 0) .nil)) .nil) .nil) (.str "a - b | - 0 -"))) .nil))))
def m_law : FnM := fnM 13 (evSs Zs t_law)
theorem c_law : chkSs (fbOf FS) N_law t_law (defScope (top 41)) (defBody (top 41)) = true := by decide +kernel
theorem s_law : scB N_law ["_law_script"] (defScope (top 41)) = true := by decide +kernel
end T78
end
section
set_option Elab.async false
set_option linter.all false
set_option maxRecDepth 100000
set_option maxHeartbeats 4000000
namespace T78
open PySem PySem.Spec L2 DL

abbrev P : Program := (PySem.Challenge.rw_gaplesskeys_k78_texts_of_contents).prog
def d__law_stream : Df := ⟨.glo "_law_stream", "_law_stream", "_law_stream", defArgs (top 30), defBody (top 30), defScope (top 30), [], []⟩
def d__law_draw : Df := ⟨.glo "_law_draw", "_law_draw", "_law_draw", defArgs (top 31), defBody (top 31), defScope (top 31), [], []⟩
def d__law_choose : Df := ⟨.glo "_law_choose", "_law_choose", "_law_choose", defArgs (top 32), defBody (top 32), defScope (top 32), [], []⟩
def d__law_words : Df := ⟨.glo "_law_words", "_law_words", "_law_words", defArgs (top 34), defBody (top 34), defScope (top 34), [], []⟩
def d__law_some : Df := ⟨.glo "_law_some", "_law_some", "_law_some", defArgs (top 33), defBody (top 33), defScope (top 33), [], []⟩
def d__law_told : Df := ⟨.glo "_law_told", "_law_told", "_law_told", defArgs (top 35), defBody (top 35), defScope (top 35), [], []⟩
def d_is_word : Df := ⟨.glo "is_word", "is_word", "is_word", defArgs (top 7), defBody (top 7), defScope (top 7), [], []⟩
def d_are_keys : Df := ⟨.glo "are_keys", "are_keys", "are_keys", defArgs (top 8), defBody (top 8), defScope (top 8), [], []⟩
def d_is_role : Df := ⟨.glo "is_role", "is_role", "is_role", defArgs (top 20), defBody (top 20), defScope (top 20), [], []⟩
def d_are_roles : Df := ⟨.glo "are_roles", "are_roles", "are_roles", defArgs (top 21), defBody (top 21), defScope (top 21), [], []⟩
def d_is_between : Df := ⟨.glo "is_between", "is_between", "is_between", defArgs (top 6), defBody (top 6), defScope (top 6), [], []⟩
def d_Contents___init__ : Df := ⟨.me "Contents" "__init__", "__init__", "Contents.__init__", defArgs (sub (top 22) 0), defBody (sub (top 22) 0), defScope (sub (top 22) 0), [], [("needed", (.int 1)), ("signers", .non)]⟩
def d__law_contents : Df := ⟨.glo "_law_contents", "_law_contents", "_law_contents", defArgs (top 36), defBody (top 36), defScope (top 36), [], []⟩
def d_Contents_roles : Df := ⟨.get "Contents" "roles", "roles", "Contents.roles", defArgs (sub (top 22) 1), defBody (sub (top 22) 1), defScope (sub (top 22) 1), [], []⟩
def d_format_keys : Df := ⟨.glo "format_keys", "format_keys", "format_keys", defArgs (top 24), defBody (top 24), defScope (top 24), [], []⟩
def d_Contents_part_of : Df := ⟨.me "Contents" "part_of", "part_of", "Contents.part_of", defArgs (sub (top 22) 5), defBody (sub (top 22) 5), defScope (sub (top 22) 5), [], []⟩
def d_Contents_accepted : Df := ⟨.me "Contents" "accepted", "accepted", "Contents.accepted", defArgs (sub (top 22) 6), defBody (sub (top 22) 6), defScope (sub (top 22) 6), [], []⟩
def d_Contents_used : Df := ⟨.me "Contents" "used", "used", "Contents.used", defArgs (sub (top 22) 7), defBody (sub (top 22) 7), defScope (sub (top 22) 7), [], []⟩
def d_Contents_vouchers : Df := ⟨.get "Contents" "vouchers", "vouchers", "Contents.vouchers", defArgs (sub (top 22) 2), defBody (sub (top 22) 2), defScope (sub (top 22) 2), [], []⟩
def d_Contents_needed : Df := ⟨.get "Contents" "needed", "needed", "Contents.needed", defArgs (sub (top 22) 4), defBody (sub (top 22) 4), defScope (sub (top 22) 4), [], []⟩
def d_Contents_signers : Df := ⟨.get "Contents" "signers", "signers", "Contents.signers", defArgs (sub (top 22) 3), defBody (sub (top 22) 3), defScope (sub (top 22) 3), [], []⟩
def d_format_contents : Df := ⟨.glo "format_contents", "format_contents", "format_contents", defArgs (top 25), defBody (top 25), defScope (top 25), [], []⟩
def d__law_keys_line : Df := ⟨.glo "_law_keys_line", "_law_keys_line", "_law_keys_line", defArgs (top 37), defBody (top 37), defScope (top 37), [], []⟩
def d__law_line : Df := ⟨.glo "_law_line", "_law_line", "_law_line", defArgs (top 38), defBody (top 38), defScope (top 38), [], []⟩
def d_keys_of : Df := ⟨.glo "keys_of", "keys_of", "keys_of", defArgs (top 26), defBody (top 26), defScope (top 26), [], []⟩
def d_integer_of : Df := ⟨.glo "integer_of", "integer_of", "integer_of", defArgs (top 9), defBody (top 9), defScope (top 9), [], []⟩
def d_number_of : Df := ⟨.glo "number_of", "number_of", "number_of", defArgs (top 10), defBody (top 10), defScope (top 10), [], []⟩
def d_read_contents : Df := ⟨.glo "read_contents", "read_contents", "read_contents", defArgs (top 27), defBody (top 27), defScope (top 27), [], []⟩
def d_parse_contents : Df := ⟨.glo "parse_contents", "parse_contents", "parse_contents", defArgs (top 28), defBody (top 28), defScope (top 28), [], []⟩
def d_Contents_state : Df := ⟨.me "Contents" "state", "state", "Contents.state", defArgs (sub (top 22) 8), defBody (sub (top 22) 8), defScope (sub (top 22) 8), [], []⟩
def d_Contents___eq__ : Df := ⟨.me "Contents" "__eq__", "__eq__", "Contents.__eq__", defArgs (sub (top 22) 9), defBody (sub (top 22) 9), defScope (sub (top 22) 9), [], []⟩
def d__law_bad_texts : Df := ⟨.glo "_law_bad_texts", "_law_bad_texts", "_law_bad_texts", defArgs (top 40), defBody (top 40), defScope (top 40), [], []⟩
def d__law_wrong : Df := ⟨.glo "_law_wrong", "_law_wrong", "_law_wrong", defArgs (top 39), defBody (top 39), defScope (top 39), [], []⟩
def d_law : Df := ⟨.glo "law", "law", "law", defArgs (top 41), defBody (top 41), defScope (top 41), [], []⟩
def fn : List Df := [d__law_stream, d__law_draw, d__law_choose, d__law_words, d__law_some, d__law_told, d_is_word, d_are_keys, d_is_role, d_are_roles, d_is_between, d_Contents___init__, d__law_contents, d_Contents_roles, d_format_keys, d_Contents_part_of, d_Contents_accepted, d_Contents_used, d_Contents_vouchers, d_Contents_needed, d_Contents_signers, d_format_contents, d__law_keys_line, d__law_line, d_keys_of, d_integer_of, d_number_of, d_read_contents, d_parse_contents, d_Contents_state, d_Contents___eq__, d__law_bad_texts, d__law_wrong, d_law]
def x_InvalidContents : Xc := ⟨"InvalidContents", "part", .ve, "InvalidContents.__init__", defArgs (sub (top 13) 0), defBody (sub (top 13) 0), defScope (sub (top 13) 0)⟩
def x_UnknownName : Xc := ⟨"UnknownName", "name", .le, "UnknownName.__init__", defArgs (sub (top 15) 0), defBody (sub (top 15) 0), defScope (sub (top 15) 0)⟩
def x_ParseError : Xc := ⟨"ParseError", "line", .ve, "ParseError.__init__", defArgs (sub (top 14) 0), defBody (sub (top 14) 0), defScope (sub (top 14) 0)⟩
def xs : List Xc := [x_InvalidContents, x_UnknownName, x_ParseError]
theorem xt_InvalidContents : x_InvalidContents.Txt P := ⟨fun _ _ _ _ _ _ _ _ _ _ _ _ _ _ => rfl, by decide +kernel, by decide +kernel, by decide +kernel, ⟨_, _, rfl⟩, ⟨_, _, _, _, _, _, _, _, _, _, _, _, rfl, by decide +kernel⟩, by decide +kernel, by decide +kernel, by decide +kernel, by decide +kernel, by decide +kernel, by decide +kernel, by decide +kernel, by decide +kernel⟩
theorem xt_UnknownName : x_UnknownName.Txt P := ⟨fun _ _ _ _ _ _ _ _ _ _ _ _ _ _ => rfl, by decide +kernel, by decide +kernel, by decide +kernel, ⟨_, _, rfl⟩, ⟨_, _, _, _, _, _, _, _, _, _, _, _, rfl, by decide +kernel⟩, by decide +kernel, by decide +kernel, by decide +kernel, by decide +kernel, by decide +kernel, by decide +kernel, by decide +kernel, by decide +kernel⟩
theorem xt_ParseError : x_ParseError.Txt P := ⟨fun _ _ _ _ _ _ _ _ _ _ _ _ _ _ => rfl, by decide +kernel, by decide +kernel, by decide +kernel, ⟨_, _, rfl⟩, ⟨_, _, _, _, _, _, _, _, _, _, _, _, rfl, by decide +kernel⟩, by decide +kernel, by decide +kernel, by decide +kernel, by decide +kernel, by decide +kernel, by decide +kernel, by decide +kernel, by decide +kernel⟩
theorem xts : ∀ x ∈ xs, x.Txt P := by
  intro x hx
  simp only [xs, List.mem_cons, List.not_mem_nil, or_false] at hx
  rcases hx with rfl | rfl | rfl
  · exact xt_InvalidContents
  · exact xt_UnknownName
  · exact xt_ParseError
def ML : List (Str × Str) := [("Contents", "__eq__"), ("Contents", "accepted"), ("Contents", "part_of"), ("Contents", "state"), ("Contents", "used")]
def PL : List (Str × Str) := [("Contents", "needed"), ("Contents", "roles"), ("Contents", "signers"), ("Contents", "vouchers")]
def CL : List Str := ["Contents"]
def QL : List Str := ["Contents"]
def mB (K : PySem.W.Frag) (p : Str × Str) : Bool := He.Fa.ok K (.cls p.1) && He.Fa.ok K (.meth p.1 p.2)
def exB (K : PySem.W.Frag) : Bool := FS.all (Fct.okB K) && (sigB K IS && (ML.all (mB K) && (PL.all (fun p => propB K p.1 p.2) && (CL.all (fun x => He.Fa.ok K (.mkr x)) && (QL.all (neB K) && He.Fa.ok K (.glo "law"))))))
section
variable {w : World} {K : PySem.W.Frag} {mg : Str → Option Value} {base : Heap}
theorem ex_f (c : SaysX exB P.main.file fn xs K) : FS.all (Fct.okB K) = true := (He.ba c.ex).1
theorem ex_s (c : SaysX exB P.main.file fn xs K) : sigB K IS = true := (He.ba (He.ba c.ex).2).1
theorem ex_m (c : SaysX exB P.main.file fn xs K) (p : Str × Str) (h : p ∈ ML) : He.Fa.ok K (.cls p.1) = true ∧ He.Fa.ok K (.meth p.1 p.2) = true := He.ba (List.all_eq_true.mp (He.ba (He.ba (He.ba c.ex).2).2).1 p h)
theorem ex_p (c : SaysX exB P.main.file fn xs K) (p : Str × Str) (h : p ∈ PL) : propB K p.1 p.2 = true := List.all_eq_true.mp (He.ba (He.ba (He.ba (He.ba c.ex).2).2).2).1 p h
theorem ex_c (c : SaysX exB P.main.file fn xs K) (x : Str) (h : x ∈ CL) : He.Fa.ok K (.mkr x) = true := List.all_eq_true.mp (He.ba (He.ba (He.ba (He.ba (He.ba c.ex).2).2).2).2).1 x h
theorem ex_q (c : SaysX exB P.main.file fn xs K) (x : Str) (h : x ∈ QL) : neB K x = true := List.all_eq_true.mp (He.ba (He.ba (He.ba (He.ba (He.ba (He.ba c.ex).2).2).2).2).2).1 x h
theorem ex_l (c : SaysX exB P.main.file fn xs K) : He.Fa.ok K (.glo "law") = true := (He.ba (He.ba (He.ba (He.ba (He.ba (He.ba c.ex).2).2).2).2).2).2

theorem e__law_stream : enSs t__law_stream = [] := rfl
theorem a__law_stream (c : SaysX exB P.main.file fn xs K) (hfb : ∀ f, fbOf FS f = true → f.Ok (lawOf P w K mg base)) (hZ : SigOk (lawOf P w K mg base) Zs) : AllE (Ent.Ok (lawOf P w K mg base) 0) (enSs t__law_stream) := by
  rw [e__law_stream]
  exact AllE.nil
theorem k__law_stream (c : SaysX exB P.main.file fn xs K) (hfb : ∀ f, fbOf FS f = true → f.Ok (lawOf P w K mg base)) (hZ : SigOk (lawOf P w K mg base) Zs) : CallOk (lawOf P w K mg base) 1 (He.ga K "_law_stream") 2 [] m__law_stream := by
  obtain ⟨fd, F⟩ := c.def_ 0 (d := d__law_stream) rfl
  exact fn_call hfb hZ F (fun _ _ _ _ _ _ us hl => match us, hl with | [_, _], _ => rfl) s__law_stream (a__law_stream c hfb hZ) c__law_stream
theorem e__law_draw : enSs t__law_draw = [] := rfl
theorem a__law_draw (c : SaysX exB P.main.file fn xs K) (hfb : ∀ f, fbOf FS f = true → f.Ok (lawOf P w K mg base)) (hZ : SigOk (lawOf P w K mg base) Zs) : AllE (Ent.Ok (lawOf P w K mg base) 0) (enSs t__law_draw) := by
  rw [e__law_draw]
  exact AllE.nil
theorem k__law_draw (c : SaysX exB P.main.file fn xs K) (hfb : ∀ f, fbOf FS f = true → f.Ok (lawOf P w K mg base)) (hZ : SigOk (lawOf P w K mg base) Zs) : CallOk (lawOf P w K mg base) 1 (He.ga K "_law_draw") 2 [] m__law_draw := by
  obtain ⟨fd, F⟩ := c.def_ 1 (d := d__law_draw) rfl
  exact fn_call hfb hZ F (fun _ _ _ _ _ _ us hl => match us, hl with | [_, _], _ => rfl) s__law_draw (a__law_draw c hfb hZ) c__law_draw
theorem e__law_choose : enSs t__law_choose = [.fn "_law_draw" 2 [] m__law_draw] := rfl
theorem a__law_choose (c : SaysX exB P.main.file fn xs K) (hfb : ∀ f, fbOf FS f = true → f.Ok (lawOf P w K mg base)) (hZ : SigOk (lawOf P w K mg base) Zs) : AllE (Ent.Ok (lawOf P w K mg base) 1) (enSs t__law_choose) := by
  rw [e__law_choose]
  exact AllE.cons (CallOk.mono (k__law_draw c hfb hZ) (by decide)) (AllE.nil)
theorem k__law_choose (c : SaysX exB P.main.file fn xs K) (hfb : ∀ f, fbOf FS f = true → f.Ok (lawOf P w K mg base)) (hZ : SigOk (lawOf P w K mg base) Zs) : CallOk (lawOf P w K mg base) 2 (He.ga K "_law_choose") 2 [] m__law_choose := by
  obtain ⟨fd, F⟩ := c.def_ 2 (d := d__law_choose) rfl
  exact fn_call hfb hZ F (fun _ _ _ _ _ _ us hl => match us, hl with | [_, _], _ => rfl) s__law_choose (a__law_choose c hfb hZ) c__law_choose
theorem e__law_words : enSs t__law_words = [.fn "_law_draw" 2 [] m__law_draw, .fn "_law_choose" 2 [] m__law_choose, .fn "_law_draw" 2 [] m__law_draw, .fn "_law_choose" 2 [] m__law_choose, .fn "_law_draw" 2 [] m__law_draw, .fn "_law_choose" 2 [] m__law_choose] := rfl
theorem a__law_words (c : SaysX exB P.main.file fn xs K) (hfb : ∀ f, fbOf FS f = true → f.Ok (lawOf P w K mg base)) (hZ : SigOk (lawOf P w K mg base) Zs) : AllE (Ent.Ok (lawOf P w K mg base) 2) (enSs t__law_words) := by
  rw [e__law_words]
  exact AllE.cons (CallOk.mono (k__law_draw c hfb hZ) (by decide)) (AllE.cons (CallOk.mono (k__law_choose c hfb hZ) (by decide)) (AllE.cons (CallOk.mono (k__law_draw c hfb hZ) (by decide)) (AllE.cons (CallOk.mono (k__law_choose c hfb hZ) (by decide)) (AllE.cons (CallOk.mono (k__law_draw c hfb hZ) (by decide)) (AllE.cons (CallOk.mono (k__law_choose c hfb hZ) (by decide)) (AllE.nil))))))
theorem k__law_words (c : SaysX exB P.main.file fn xs K) (hfb : ∀ f, fbOf FS f = true → f.Ok (lawOf P w K mg base)) (hZ : SigOk (lawOf P w K mg base) Zs) : CallOk (lawOf P w K mg base) 3 (He.ga K "_law_words") 2 [] m__law_words := by
  obtain ⟨fd, F⟩ := c.def_ 3 (d := d__law_words) rfl
  exact fn_call hfb hZ F (fun _ _ _ _ _ _ us hl => match us, hl with | [_, _], _ => rfl) s__law_words (a__law_words c hfb hZ) c__law_words
theorem e__law_some : enSs t__law_some = [.fn "_law_draw" 2 [] m__law_draw] := rfl
theorem a__law_some (c : SaysX exB P.main.file fn xs K) (hfb : ∀ f, fbOf FS f = true → f.Ok (lawOf P w K mg base)) (hZ : SigOk (lawOf P w K mg base) Zs) : AllE (Ent.Ok (lawOf P w K mg base) 1) (enSs t__law_some) := by
  rw [e__law_some]
  exact AllE.cons (CallOk.mono (k__law_draw c hfb hZ) (by decide)) (AllE.nil)
theorem k__law_some (c : SaysX exB P.main.file fn xs K) (hfb : ∀ f, fbOf FS f = true → f.Ok (lawOf P w K mg base)) (hZ : SigOk (lawOf P w K mg base) Zs) : CallOk (lawOf P w K mg base) 2 (He.ga K "_law_some") 2 [] m__law_some := by
  obtain ⟨fd, F⟩ := c.def_ 4 (d := d__law_some) rfl
  exact fn_call hfb hZ F (fun _ _ _ _ _ _ us hl => match us, hl with | [_, _], _ => rfl) s__law_some (a__law_some c hfb hZ) c__law_some
theorem e__law_told : enSs t__law_told = [.fn "_law_some" 2 [] m__law_some, .fn "_law_choose" 2 [] m__law_choose, .fn "_law_draw" 2 [] m__law_draw, .fn "_law_some" 2 [] m__law_some, .fn "_law_draw" 2 [] m__law_draw, .fn "_law_draw" 2 [] m__law_draw, .fn "_law_some" 2 [] m__law_some] := rfl
theorem a__law_told (c : SaysX exB P.main.file fn xs K) (hfb : ∀ f, fbOf FS f = true → f.Ok (lawOf P w K mg base)) (hZ : SigOk (lawOf P w K mg base) Zs) : AllE (Ent.Ok (lawOf P w K mg base) 2) (enSs t__law_told) := by
  rw [e__law_told]
  exact AllE.cons (CallOk.mono (k__law_some c hfb hZ) (by decide)) (AllE.cons (CallOk.mono (k__law_choose c hfb hZ) (by decide)) (AllE.cons (CallOk.mono (k__law_draw c hfb hZ) (by decide)) (AllE.cons (CallOk.mono (k__law_some c hfb hZ) (by decide)) (AllE.cons (CallOk.mono (k__law_draw c hfb hZ) (by decide)) (AllE.cons (CallOk.mono (k__law_draw c hfb hZ) (by decide)) (AllE.cons (CallOk.mono (k__law_some c hfb hZ) (by decide)) (AllE.nil)))))))
theorem k__law_told (c : SaysX exB P.main.file fn xs K) (hfb : ∀ f, fbOf FS f = true → f.Ok (lawOf P w K mg base)) (hZ : SigOk (lawOf P w K mg base) Zs) : CallOk (lawOf P w K mg base) 3 (He.ga K "_law_told") 4 [] m__law_told := by
  obtain ⟨fd, F⟩ := c.def_ 5 (d := d__law_told) rfl
  exact fn_call hfb hZ F (fun _ _ _ _ _ _ us hl => match us, hl with | [_, _, _, _], _ => rfl) s__law_told (a__law_told c hfb hZ) c__law_told
theorem e_is_word : enSs t_is_word = [] := rfl
theorem a_is_word (c : SaysX exB P.main.file fn xs K) (hfb : ∀ f, fbOf FS f = true → f.Ok (lawOf P w K mg base)) (hZ : SigOk (lawOf P w K mg base) Zs) : AllE (Ent.Ok (lawOf P w K mg base) 0) (enSs t_is_word) := by
  rw [e_is_word]
  exact AllE.nil
theorem k_is_word (c : SaysX exB P.main.file fn xs K) (hfb : ∀ f, fbOf FS f = true → f.Ok (lawOf P w K mg base)) (hZ : SigOk (lawOf P w K mg base) Zs) : CallOk (lawOf P w K mg base) 1 (He.ga K "is_word") 1 [] m_is_word := by
  obtain ⟨fd, F⟩ := c.def_ 6 (d := d_is_word) rfl
  exact fn_call hfb hZ F (fun _ _ _ _ _ _ us hl => match us, hl with | [_], _ => rfl) s_is_word (a_is_word c hfb hZ) c_is_word
theorem e_are_keys : enSs t_are_keys = [.fn "is_word" 1 [] m_is_word] := rfl
theorem a_are_keys (c : SaysX exB P.main.file fn xs K) (hfb : ∀ f, fbOf FS f = true → f.Ok (lawOf P w K mg base)) (hZ : SigOk (lawOf P w K mg base) Zs) : AllE (Ent.Ok (lawOf P w K mg base) 1) (enSs t_are_keys) := by
  rw [e_are_keys]
  exact AllE.cons (CallOk.mono (k_is_word c hfb hZ) (by decide)) (AllE.nil)
theorem k_are_keys (c : SaysX exB P.main.file fn xs K) (hfb : ∀ f, fbOf FS f = true → f.Ok (lawOf P w K mg base)) (hZ : SigOk (lawOf P w K mg base) Zs) : CallOk (lawOf P w K mg base) 2 (He.ga K "are_keys") 2 [] m_are_keys := by
  obtain ⟨fd, F⟩ := c.def_ 7 (d := d_are_keys) rfl
  exact fn_call hfb hZ F (fun _ _ _ _ _ _ us hl => match us, hl with | [_, _], _ => rfl) s_are_keys (a_are_keys c hfb hZ) c_are_keys
theorem e_is_role : enSs t_is_role = [.fn "are_keys" 2 [] m_are_keys, .fn "is_word" 1 [] m_is_word] := rfl
theorem a_is_role (c : SaysX exB P.main.file fn xs K) (hfb : ∀ f, fbOf FS f = true → f.Ok (lawOf P w K mg base)) (hZ : SigOk (lawOf P w K mg base) Zs) : AllE (Ent.Ok (lawOf P w K mg base) 2) (enSs t_is_role) := by
  rw [e_is_role]
  exact AllE.cons (CallOk.mono (k_are_keys c hfb hZ) (by decide)) (AllE.cons (CallOk.mono (k_is_word c hfb hZ) (by decide)) (AllE.nil))
theorem k_is_role (c : SaysX exB P.main.file fn xs K) (hfb : ∀ f, fbOf FS f = true → f.Ok (lawOf P w K mg base)) (hZ : SigOk (lawOf P w K mg base) Zs) : CallOk (lawOf P w K mg base) 3 (He.ga K "is_role") 1 [] m_is_role := by
  obtain ⟨fd, F⟩ := c.def_ 8 (d := d_is_role) rfl
  exact fn_call hfb hZ F (fun _ _ _ _ _ _ us hl => match us, hl with | [_], _ => rfl) s_is_role (a_is_role c hfb hZ) c_is_role
theorem e_are_roles : enSs t_are_roles = [.fn "is_word" 1 [] m_is_word, .fn "is_role" 1 [] m_is_role] := rfl
theorem a_are_roles (c : SaysX exB P.main.file fn xs K) (hfb : ∀ f, fbOf FS f = true → f.Ok (lawOf P w K mg base)) (hZ : SigOk (lawOf P w K mg base) Zs) : AllE (Ent.Ok (lawOf P w K mg base) 3) (enSs t_are_roles) := by
  rw [e_are_roles]
  exact AllE.cons (CallOk.mono (k_is_word c hfb hZ) (by decide)) (AllE.cons (CallOk.mono (k_is_role c hfb hZ) (by decide)) (AllE.nil))
theorem k_are_roles (c : SaysX exB P.main.file fn xs K) (hfb : ∀ f, fbOf FS f = true → f.Ok (lawOf P w K mg base)) (hZ : SigOk (lawOf P w K mg base) Zs) : CallOk (lawOf P w K mg base) 4 (He.ga K "are_roles") 1 [] m_are_roles := by
  obtain ⟨fd, F⟩ := c.def_ 9 (d := d_are_roles) rfl
  exact fn_call hfb hZ F (fun _ _ _ _ _ _ us hl => match us, hl with | [_], _ => rfl) s_are_roles (a_are_roles c hfb hZ) c_are_roles
theorem e_is_between : enSs t_is_between = [] := rfl
theorem a_is_between (c : SaysX exB P.main.file fn xs K) (hfb : ∀ f, fbOf FS f = true → f.Ok (lawOf P w K mg base)) (hZ : SigOk (lawOf P w K mg base) Zs) : AllE (Ent.Ok (lawOf P w K mg base) 0) (enSs t_is_between) := by
  rw [e_is_between]
  exact AllE.nil
theorem k_is_between (c : SaysX exB P.main.file fn xs K) (hfb : ∀ f, fbOf FS f = true → f.Ok (lawOf P w K mg base)) (hZ : SigOk (lawOf P w K mg base) Zs) : CallOk (lawOf P w K mg base) 1 (He.ga K "is_between") 3 [] m_is_between := by
  obtain ⟨fd, F⟩ := c.def_ 10 (d := d_is_between) rfl
  exact fn_call hfb hZ F (fun _ _ _ _ _ _ us hl => match us, hl with | [_, _, _], _ => rfl) s_is_between (a_is_between c hfb hZ) c_is_between
theorem e_Contents___init__ : enSs t_Contents___init__ = [.fn "are_roles" 1 [] m_are_roles, .fn "are_keys" 2 [] m_are_keys, .fn "is_between" 3 [] m_is_between, .fn "are_keys" 2 [] m_are_keys] := rfl
theorem a_Contents___init__ (c : SaysX exB P.main.file fn xs K) (hfb : ∀ f, fbOf FS f = true → f.Ok (lawOf P w K mg base)) (hZ : SigOk (lawOf P w K mg base) Zs) : AllE (Ent.Ok (lawOf P w K mg base) 4) (enSs t_Contents___init__) := by
  rw [e_Contents___init__]
  exact AllE.cons (CallOk.mono (k_are_roles c hfb hZ) (by decide)) (AllE.cons (CallOk.mono (k_are_keys c hfb hZ) (by decide)) (AllE.cons (CallOk.mono (k_is_between c hfb hZ) (by decide)) (AllE.cons (CallOk.mono (k_are_keys c hfb hZ) (by decide)) (AllE.nil))))
theorem k_m_Contents_2 (c : SaysX exB P.main.file fn xs K) (hfb : ∀ f, fbOf FS f = true → f.Ok (lawOf P w K mg base)) (hZ : SigOk (lawOf P w K mg base) Zs) : CallOk (lawOf P w K mg base) 6 (He.ga K "Contents") 2 [] m_Contents_2 := by
  obtain ⟨fd, F⟩ := c.def_ 11 (d := d_Contents___init__) rfl
  have M := He.mkr_ok (ex_c c "Contents" (by decide))
  have I := init_chk (C := "Contents") (froz := true) hfb hZ F s_Contents___init__ (a_Contents___init__ c hfb hZ) c_Contents___init__
  exact call_mkK (L := lawOf P w K mg base) (ps := ["self", "roles", "vouchers", "needed", "signers"]) (kws := [("needed", (.int 1)), ("signers", .non)]) M I F (by simp) 2 [] [("needed", (.int 1)), ("signers", .non)] [("needed", (.int 1)), ("signers", .non)] rfl (fun _ => ⟨_, _, rfl, rfl, ⟨_, _, rfl, rfl, rfl⟩⟩) (by simp) rfl (fun _ _ _ _ _ _ us mv ws h1 h2 h3 => match us, mv, ws, h1, h2, h3 with | [_, _, _], [_, _], [], _, _, _ => ⟨_, _, _, _, _, _, rfl, rfl, ⟨_, _, _, _, _, _, rfl, rfl, rfl⟩⟩)
theorem k_m_Contents_needed_2 (c : SaysX exB P.main.file fn xs K) (hfb : ∀ f, fbOf FS f = true → f.Ok (lawOf P w K mg base)) (hZ : SigOk (lawOf P w K mg base) Zs) : CallOk (lawOf P w K mg base) 6 (He.ga K "Contents") 2 ["needed"] m_Contents_needed_2 := by
  obtain ⟨fd, F⟩ := c.def_ 11 (d := d_Contents___init__) rfl
  have M := He.mkr_ok (ex_c c "Contents" (by decide))
  have I := init_chk (C := "Contents") (froz := true) hfb hZ F s_Contents___init__ (a_Contents___init__ c hfb hZ) c_Contents___init__
  exact call_mkK (L := lawOf P w K mg base) (ps := ["self", "roles", "vouchers", "needed", "signers"]) (kws := [("needed", (.int 1)), ("signers", .non)]) M I F (by simp) 2 ["needed"] [("signers", .non)] [("signers", .non)] rfl (fun _ => ⟨_, _, rfl, rfl, rfl⟩) (by simp) rfl (fun _ _ _ _ _ _ us mv ws h1 h2 h3 => match us, mv, ws, h1, h2, h3 with | [_, _, _], [_], [_], _, _, _ => ⟨_, _, _, _, _, _, rfl, rfl, rfl⟩)
theorem k_m_Contents_needed_signers_2 (c : SaysX exB P.main.file fn xs K) (hfb : ∀ f, fbOf FS f = true → f.Ok (lawOf P w K mg base)) (hZ : SigOk (lawOf P w K mg base) Zs) : CallOk (lawOf P w K mg base) 6 (He.ga K "Contents") 2 ["needed", "signers"] m_Contents_needed_signers_2 := by
  obtain ⟨fd, F⟩ := c.def_ 11 (d := d_Contents___init__) rfl
  have M := He.mkr_ok (ex_c c "Contents" (by decide))
  have I := init_chk (C := "Contents") (froz := true) hfb hZ F s_Contents___init__ (a_Contents___init__ c hfb hZ) c_Contents___init__
  exact call_mkK (L := lawOf P w K mg base) (ps := ["self", "roles", "vouchers", "needed", "signers"]) (kws := [("needed", (.int 1)), ("signers", .non)]) M I F (by simp) 2 ["needed", "signers"] [] [] rfl (fun _ => rfl) (by simp) rfl (fun _ _ _ _ _ _ us mv ws h1 h2 h3 => match us, mv, ws, h1, h2, h3 with | [_, _, _], [], [_, _], _, _, _ => rfl)
theorem e__law_contents : enSs t__law_contents = [.fn "Contents" 2 ["needed", "signers"] m_Contents_needed_signers_2] := rfl
theorem a__law_contents (c : SaysX exB P.main.file fn xs K) (hfb : ∀ f, fbOf FS f = true → f.Ok (lawOf P w K mg base)) (hZ : SigOk (lawOf P w K mg base) Zs) : AllE (Ent.Ok (lawOf P w K mg base) 6) (enSs t__law_contents) := by
  rw [e__law_contents]
  exact AllE.cons (CallOk.mono (k_m_Contents_needed_signers_2 c hfb hZ) (by decide)) (AllE.nil)
theorem k__law_contents (c : SaysX exB P.main.file fn xs K) (hfb : ∀ f, fbOf FS f = true → f.Ok (lawOf P w K mg base)) (hZ : SigOk (lawOf P w K mg base) Zs) : CallOk (lawOf P w K mg base) 7 (He.ga K "_law_contents") 1 [] m__law_contents := by
  obtain ⟨fd, F⟩ := c.def_ 12 (d := d__law_contents) rfl
  exact fn_call hfb hZ F (fun _ _ _ _ _ _ us hl => match us, hl with | [_], _ => rfl) s__law_contents (a__law_contents c hfb hZ) c__law_contents
theorem e_Contents_roles : enSs t_Contents_roles = [] := rfl
theorem a_Contents_roles (c : SaysX exB P.main.file fn xs K) (hfb : ∀ f, fbOf FS f = true → f.Ok (lawOf P w K mg base)) (hZ : SigOk (lawOf P w K mg base) Zs) : AllE (Ent.Ok (lawOf P w K mg base) 0) (enSs t_Contents_roles) := by
  rw [e_Contents_roles]
  exact AllE.nil
theorem k_Contents_roles (c : SaysX exB P.main.file fn xs K) (hfb : ∀ f, fbOf FS f = true → f.Ok (lawOf P w K mg base)) (hZ : SigOk (lawOf P w K mg base) Zs) : PropOk (lawOf P w K mg base) 1 "Contents" "roles" m_Contents_roles := by
  obtain ⟨fd, F⟩ := c.def_ 13 (d := d_Contents_roles) rfl
  obtain ⟨h1, h2⟩ := propB_ok (ex_p c ("Contents", "roles") (by decide))
  exact pr_call (L := lawOf P w K mg base) (C := "Contents") h1 h2 hfb hZ F rfl (fun _ _ _ _ _ _ us hl => match us, hl with | [_], _ => rfl) s_Contents_roles (a_Contents_roles c hfb hZ) c_Contents_roles
theorem e_format_keys : enSs t_format_keys = [] := rfl
theorem a_format_keys (c : SaysX exB P.main.file fn xs K) (hfb : ∀ f, fbOf FS f = true → f.Ok (lawOf P w K mg base)) (hZ : SigOk (lawOf P w K mg base) Zs) : AllE (Ent.Ok (lawOf P w K mg base) 0) (enSs t_format_keys) := by
  rw [e_format_keys]
  exact AllE.nil
theorem k_format_keys (c : SaysX exB P.main.file fn xs K) (hfb : ∀ f, fbOf FS f = true → f.Ok (lawOf P w K mg base)) (hZ : SigOk (lawOf P w K mg base) Zs) : CallOk (lawOf P w K mg base) 1 (He.ga K "format_keys") 1 [] m_format_keys := by
  obtain ⟨fd, F⟩ := c.def_ 14 (d := d_format_keys) rfl
  exact fn_call hfb hZ F (fun _ _ _ _ _ _ us hl => match us, hl with | [_], _ => rfl) s_format_keys (a_format_keys c hfb hZ) c_format_keys
theorem e_Contents_part_of : enSs t_Contents_part_of = [.fn "is_word" 1 [] m_is_word] := rfl
theorem a_Contents_part_of (c : SaysX exB P.main.file fn xs K) (hfb : ∀ f, fbOf FS f = true → f.Ok (lawOf P w K mg base)) (hZ : SigOk (lawOf P w K mg base) Zs) : AllE (Ent.Ok (lawOf P w K mg base) 1) (enSs t_Contents_part_of) := by
  rw [e_Contents_part_of]
  exact AllE.cons (CallOk.mono (k_is_word c hfb hZ) (by decide)) (AllE.nil)
theorem k_Contents_part_of (c : SaysX exB P.main.file fn xs K) (hfb : ∀ f, fbOf FS f = true → f.Ok (lawOf P w K mg base)) (hZ : SigOk (lawOf P w K mg base) Zs) : CallOk (lawOf P w K mg base) 2 (He.ma K (He.ga K "Contents") "part_of") 2 [] m_Contents_part_of := by
  obtain ⟨fd, F⟩ := c.def_ 15 (d := d_Contents_part_of) rfl
  exact fn_call hfb hZ F (fun _ _ _ _ _ _ us hl => match us, hl with | [_, _], _ => rfl) s_Contents_part_of (a_Contents_part_of c hfb hZ) c_Contents_part_of
theorem e_Contents_accepted : enSs t_Contents_accepted = [.me "Contents" "part_of" 1 [] m_Contents_part_of] := rfl
theorem a_Contents_accepted (c : SaysX exB P.main.file fn xs K) (hfb : ∀ f, fbOf FS f = true → f.Ok (lawOf P w K mg base)) (hZ : SigOk (lawOf P w K mg base) Zs) : AllE (Ent.Ok (lawOf P w K mg base) 2) (enSs t_Contents_accepted) := by
  rw [e_Contents_accepted]
  exact AllE.cons (MethOk.mono (me_of (C := "Contents") (x := "part_of") rfl rfl (ex_m c ("Contents", "part_of") (by decide)).1 (ex_m c ("Contents", "part_of") (by decide)).2 (k_Contents_part_of c hfb hZ)) (by decide)) (AllE.nil)
theorem k_Contents_accepted (c : SaysX exB P.main.file fn xs K) (hfb : ∀ f, fbOf FS f = true → f.Ok (lawOf P w K mg base)) (hZ : SigOk (lawOf P w K mg base) Zs) : CallOk (lawOf P w K mg base) 3 (He.ma K (He.ga K "Contents") "accepted") 2 [] m_Contents_accepted := by
  obtain ⟨fd, F⟩ := c.def_ 16 (d := d_Contents_accepted) rfl
  exact fn_call hfb hZ F (fun _ _ _ _ _ _ us hl => match us, hl with | [_, _], _ => rfl) s_Contents_accepted (a_Contents_accepted c hfb hZ) c_Contents_accepted
theorem e_Contents_used : enSs t_Contents_used = [.me "Contents" "part_of" 1 [] m_Contents_part_of] := rfl
theorem a_Contents_used (c : SaysX exB P.main.file fn xs K) (hfb : ∀ f, fbOf FS f = true → f.Ok (lawOf P w K mg base)) (hZ : SigOk (lawOf P w K mg base) Zs) : AllE (Ent.Ok (lawOf P w K mg base) 2) (enSs t_Contents_used) := by
  rw [e_Contents_used]
  exact AllE.cons (MethOk.mono (me_of (C := "Contents") (x := "part_of") rfl rfl (ex_m c ("Contents", "part_of") (by decide)).1 (ex_m c ("Contents", "part_of") (by decide)).2 (k_Contents_part_of c hfb hZ)) (by decide)) (AllE.nil)
theorem k_Contents_used (c : SaysX exB P.main.file fn xs K) (hfb : ∀ f, fbOf FS f = true → f.Ok (lawOf P w K mg base)) (hZ : SigOk (lawOf P w K mg base) Zs) : CallOk (lawOf P w K mg base) 3 (He.ma K (He.ga K "Contents") "used") 2 [] m_Contents_used := by
  obtain ⟨fd, F⟩ := c.def_ 17 (d := d_Contents_used) rfl
  exact fn_call hfb hZ F (fun _ _ _ _ _ _ us hl => match us, hl with | [_, _], _ => rfl) s_Contents_used (a_Contents_used c hfb hZ) c_Contents_used
theorem e_Contents_vouchers : enSs t_Contents_vouchers = [] := rfl
theorem a_Contents_vouchers (c : SaysX exB P.main.file fn xs K) (hfb : ∀ f, fbOf FS f = true → f.Ok (lawOf P w K mg base)) (hZ : SigOk (lawOf P w K mg base) Zs) : AllE (Ent.Ok (lawOf P w K mg base) 0) (enSs t_Contents_vouchers) := by
  rw [e_Contents_vouchers]
  exact AllE.nil
theorem k_Contents_vouchers (c : SaysX exB P.main.file fn xs K) (hfb : ∀ f, fbOf FS f = true → f.Ok (lawOf P w K mg base)) (hZ : SigOk (lawOf P w K mg base) Zs) : PropOk (lawOf P w K mg base) 1 "Contents" "vouchers" m_Contents_vouchers := by
  obtain ⟨fd, F⟩ := c.def_ 18 (d := d_Contents_vouchers) rfl
  obtain ⟨h1, h2⟩ := propB_ok (ex_p c ("Contents", "vouchers") (by decide))
  exact pr_call (L := lawOf P w K mg base) (C := "Contents") h1 h2 hfb hZ F rfl (fun _ _ _ _ _ _ us hl => match us, hl with | [_], _ => rfl) s_Contents_vouchers (a_Contents_vouchers c hfb hZ) c_Contents_vouchers
theorem e_Contents_needed : enSs t_Contents_needed = [] := rfl
theorem a_Contents_needed (c : SaysX exB P.main.file fn xs K) (hfb : ∀ f, fbOf FS f = true → f.Ok (lawOf P w K mg base)) (hZ : SigOk (lawOf P w K mg base) Zs) : AllE (Ent.Ok (lawOf P w K mg base) 0) (enSs t_Contents_needed) := by
  rw [e_Contents_needed]
  exact AllE.nil
theorem k_Contents_needed (c : SaysX exB P.main.file fn xs K) (hfb : ∀ f, fbOf FS f = true → f.Ok (lawOf P w K mg base)) (hZ : SigOk (lawOf P w K mg base) Zs) : PropOk (lawOf P w K mg base) 1 "Contents" "needed" m_Contents_needed := by
  obtain ⟨fd, F⟩ := c.def_ 19 (d := d_Contents_needed) rfl
  obtain ⟨h1, h2⟩ := propB_ok (ex_p c ("Contents", "needed") (by decide))
  exact pr_call (L := lawOf P w K mg base) (C := "Contents") h1 h2 hfb hZ F rfl (fun _ _ _ _ _ _ us hl => match us, hl with | [_], _ => rfl) s_Contents_needed (a_Contents_needed c hfb hZ) c_Contents_needed
theorem e_Contents_signers : enSs t_Contents_signers = [] := rfl
theorem a_Contents_signers (c : SaysX exB P.main.file fn xs K) (hfb : ∀ f, fbOf FS f = true → f.Ok (lawOf P w K mg base)) (hZ : SigOk (lawOf P w K mg base) Zs) : AllE (Ent.Ok (lawOf P w K mg base) 0) (enSs t_Contents_signers) := by
  rw [e_Contents_signers]
  exact AllE.nil
theorem k_Contents_signers (c : SaysX exB P.main.file fn xs K) (hfb : ∀ f, fbOf FS f = true → f.Ok (lawOf P w K mg base)) (hZ : SigOk (lawOf P w K mg base) Zs) : PropOk (lawOf P w K mg base) 1 "Contents" "signers" m_Contents_signers := by
  obtain ⟨fd, F⟩ := c.def_ 20 (d := d_Contents_signers) rfl
  obtain ⟨h1, h2⟩ := propB_ok (ex_p c ("Contents", "signers") (by decide))
  exact pr_call (L := lawOf P w K mg base) (C := "Contents") h1 h2 hfb hZ F rfl (fun _ _ _ _ _ _ us hl => match us, hl with | [_], _ => rfl) s_Contents_signers (a_Contents_signers c hfb hZ) c_Contents_signers
theorem e_format_contents : enSs t_format_contents = [.pr "Contents" "roles" m_Contents_roles, .fn "format_keys" 1 [] m_format_keys, .me "Contents" "accepted" 1 [] m_Contents_accepted, .me "Contents" "used" 1 [] m_Contents_used, .fn "format_keys" 1 [] m_format_keys, .pr "Contents" "vouchers" m_Contents_vouchers, .pr "Contents" "needed" m_Contents_needed, .fn "format_keys" 1 [] m_format_keys, .pr "Contents" "signers" m_Contents_signers] := rfl
theorem a_format_contents (c : SaysX exB P.main.file fn xs K) (hfb : ∀ f, fbOf FS f = true → f.Ok (lawOf P w K mg base)) (hZ : SigOk (lawOf P w K mg base) Zs) : AllE (Ent.Ok (lawOf P w K mg base) 3) (enSs t_format_contents) := by
  rw [e_format_contents]
  exact AllE.cons ⟨1, by decide, k_Contents_roles c hfb hZ⟩ (AllE.cons (CallOk.mono (k_format_keys c hfb hZ) (by decide)) (AllE.cons (MethOk.mono (me_of (C := "Contents") (x := "accepted") rfl rfl (ex_m c ("Contents", "accepted") (by decide)).1 (ex_m c ("Contents", "accepted") (by decide)).2 (k_Contents_accepted c hfb hZ)) (by decide)) (AllE.cons (MethOk.mono (me_of (C := "Contents") (x := "used") rfl rfl (ex_m c ("Contents", "used") (by decide)).1 (ex_m c ("Contents", "used") (by decide)).2 (k_Contents_used c hfb hZ)) (by decide)) (AllE.cons (CallOk.mono (k_format_keys c hfb hZ) (by decide)) (AllE.cons ⟨1, by decide, k_Contents_vouchers c hfb hZ⟩ (AllE.cons ⟨1, by decide, k_Contents_needed c hfb hZ⟩ (AllE.cons (CallOk.mono (k_format_keys c hfb hZ) (by decide)) (AllE.cons ⟨1, by decide, k_Contents_signers c hfb hZ⟩ (AllE.nil)))))))))
theorem k_format_contents (c : SaysX exB P.main.file fn xs K) (hfb : ∀ f, fbOf FS f = true → f.Ok (lawOf P w K mg base)) (hZ : SigOk (lawOf P w K mg base) Zs) : CallOk (lawOf P w K mg base) 4 (He.ga K "format_contents") 1 [] m_format_contents := by
  obtain ⟨fd, F⟩ := c.def_ 21 (d := d_format_contents) rfl
  exact fn_call hfb hZ F (fun _ _ _ _ _ _ us hl => match us, hl with | [_], _ => rfl) s_format_contents (a_format_contents c hfb hZ) c_format_contents
theorem e__law_keys_line : enSs t__law_keys_line = [] := rfl
theorem a__law_keys_line (c : SaysX exB P.main.file fn xs K) (hfb : ∀ f, fbOf FS f = true → f.Ok (lawOf P w K mg base)) (hZ : SigOk (lawOf P w K mg base) Zs) : AllE (Ent.Ok (lawOf P w K mg base) 0) (enSs t__law_keys_line) := by
  rw [e__law_keys_line]
  exact AllE.nil
theorem k__law_keys_line (c : SaysX exB P.main.file fn xs K) (hfb : ∀ f, fbOf FS f = true → f.Ok (lawOf P w K mg base)) (hZ : SigOk (lawOf P w K mg base) Zs) : CallOk (lawOf P w K mg base) 1 (He.ga K "_law_keys_line") 1 [] m__law_keys_line := by
  obtain ⟨fd, F⟩ := c.def_ 22 (d := d__law_keys_line) rfl
  exact fn_call hfb hZ F (fun _ _ _ _ _ _ us hl => match us, hl with | [_], _ => rfl) s__law_keys_line (a__law_keys_line c hfb hZ) c__law_keys_line
theorem e__law_line : enSs t__law_line = [.fn "_law_keys_line" 1 [] m__law_keys_line, .fn "_law_keys_line" 1 [] m__law_keys_line, .fn "_law_keys_line" 1 [] m__law_keys_line] := rfl
theorem a__law_line (c : SaysX exB P.main.file fn xs K) (hfb : ∀ f, fbOf FS f = true → f.Ok (lawOf P w K mg base)) (hZ : SigOk (lawOf P w K mg base) Zs) : AllE (Ent.Ok (lawOf P w K mg base) 1) (enSs t__law_line) := by
  rw [e__law_line]
  exact AllE.cons (CallOk.mono (k__law_keys_line c hfb hZ) (by decide)) (AllE.cons (CallOk.mono (k__law_keys_line c hfb hZ) (by decide)) (AllE.cons (CallOk.mono (k__law_keys_line c hfb hZ) (by decide)) (AllE.nil)))
theorem k__law_line (c : SaysX exB P.main.file fn xs K) (hfb : ∀ f, fbOf FS f = true → f.Ok (lawOf P w K mg base)) (hZ : SigOk (lawOf P w K mg base) Zs) : CallOk (lawOf P w K mg base) 2 (He.ga K "_law_line") 1 [] m__law_line := by
  obtain ⟨fd, F⟩ := c.def_ 23 (d := d__law_line) rfl
  exact fn_call hfb hZ F (fun _ _ _ _ _ _ us hl => match us, hl with | [_], _ => rfl) s__law_line (a__law_line c hfb hZ) c__law_line
theorem e_keys_of : enSs t_keys_of = [] := rfl
theorem a_keys_of (c : SaysX exB P.main.file fn xs K) (hfb : ∀ f, fbOf FS f = true → f.Ok (lawOf P w K mg base)) (hZ : SigOk (lawOf P w K mg base) Zs) : AllE (Ent.Ok (lawOf P w K mg base) 0) (enSs t_keys_of) := by
  rw [e_keys_of]
  exact AllE.nil
theorem k_keys_of (c : SaysX exB P.main.file fn xs K) (hfb : ∀ f, fbOf FS f = true → f.Ok (lawOf P w K mg base)) (hZ : SigOk (lawOf P w K mg base) Zs) : CallOk (lawOf P w K mg base) 1 (He.ga K "keys_of") 1 [] m_keys_of := by
  obtain ⟨fd, F⟩ := c.def_ 24 (d := d_keys_of) rfl
  exact fn_call hfb hZ F (fun _ _ _ _ _ _ us hl => match us, hl with | [_], _ => rfl) s_keys_of (a_keys_of c hfb hZ) c_keys_of
theorem e_integer_of : enSs t_integer_of = [] := rfl
theorem a_integer_of (c : SaysX exB P.main.file fn xs K) (hfb : ∀ f, fbOf FS f = true → f.Ok (lawOf P w K mg base)) (hZ : SigOk (lawOf P w K mg base) Zs) : AllE (Ent.Ok (lawOf P w K mg base) 0) (enSs t_integer_of) := by
  rw [e_integer_of]
  exact AllE.nil
theorem k_integer_of (c : SaysX exB P.main.file fn xs K) (hfb : ∀ f, fbOf FS f = true → f.Ok (lawOf P w K mg base)) (hZ : SigOk (lawOf P w K mg base) Zs) : CallOk (lawOf P w K mg base) 1 (He.ga K "integer_of") 1 [] m_integer_of := by
  obtain ⟨fd, F⟩ := c.def_ 25 (d := d_integer_of) rfl
  exact fn_call hfb hZ F (fun _ _ _ _ _ _ us hl => match us, hl with | [_], _ => rfl) s_integer_of (a_integer_of c hfb hZ) c_integer_of
theorem e_number_of : enSs t_number_of = [.fn "integer_of" 1 [] m_integer_of] := rfl
theorem a_number_of (c : SaysX exB P.main.file fn xs K) (hfb : ∀ f, fbOf FS f = true → f.Ok (lawOf P w K mg base)) (hZ : SigOk (lawOf P w K mg base) Zs) : AllE (Ent.Ok (lawOf P w K mg base) 1) (enSs t_number_of) := by
  rw [e_number_of]
  exact AllE.cons (CallOk.mono (k_integer_of c hfb hZ) (by decide)) (AllE.nil)
theorem k_number_of (c : SaysX exB P.main.file fn xs K) (hfb : ∀ f, fbOf FS f = true → f.Ok (lawOf P w K mg base)) (hZ : SigOk (lawOf P w K mg base) Zs) : CallOk (lawOf P w K mg base) 2 (He.ga K "number_of") 1 [] m_number_of := by
  obtain ⟨fd, F⟩ := c.def_ 26 (d := d_number_of) rfl
  exact fn_call hfb hZ F (fun _ _ _ _ _ _ us hl => match us, hl with | [_], _ => rfl) s_number_of (a_number_of c hfb hZ) c_number_of
theorem e_read_contents : enSs t_read_contents = [.fn "keys_of" 1 [] m_keys_of, .fn "Contents" 2 ["needed", "signers"] m_Contents_needed_signers_2, .fn "keys_of" 1 [] m_keys_of, .fn "number_of" 1 [] m_number_of, .fn "keys_of" 1 [] m_keys_of, .fn "format_contents" 1 [] m_format_contents] := rfl
theorem a_read_contents (c : SaysX exB P.main.file fn xs K) (hfb : ∀ f, fbOf FS f = true → f.Ok (lawOf P w K mg base)) (hZ : SigOk (lawOf P w K mg base) Zs) : AllE (Ent.Ok (lawOf P w K mg base) 6) (enSs t_read_contents) := by
  rw [e_read_contents]
  exact AllE.cons (CallOk.mono (k_keys_of c hfb hZ) (by decide)) (AllE.cons (CallOk.mono (k_m_Contents_needed_signers_2 c hfb hZ) (by decide)) (AllE.cons (CallOk.mono (k_keys_of c hfb hZ) (by decide)) (AllE.cons (CallOk.mono (k_number_of c hfb hZ) (by decide)) (AllE.cons (CallOk.mono (k_keys_of c hfb hZ) (by decide)) (AllE.cons (CallOk.mono (k_format_contents c hfb hZ) (by decide)) (AllE.nil))))))
theorem k_read_contents (c : SaysX exB P.main.file fn xs K) (hfb : ∀ f, fbOf FS f = true → f.Ok (lawOf P w K mg base)) (hZ : SigOk (lawOf P w K mg base) Zs) : CallOk (lawOf P w K mg base) 7 (He.ga K "read_contents") 1 [] m_read_contents := by
  obtain ⟨fd, F⟩ := c.def_ 27 (d := d_read_contents) rfl
  exact fn_call hfb hZ F (fun _ _ _ _ _ _ us hl => match us, hl with | [_], _ => rfl) s_read_contents (a_read_contents c hfb hZ) c_read_contents
theorem e_parse_contents : enSs t_parse_contents = [.fn "read_contents" 1 [] m_read_contents] := rfl
theorem a_parse_contents (c : SaysX exB P.main.file fn xs K) (hfb : ∀ f, fbOf FS f = true → f.Ok (lawOf P w K mg base)) (hZ : SigOk (lawOf P w K mg base) Zs) : AllE (Ent.Ok (lawOf P w K mg base) 7) (enSs t_parse_contents) := by
  rw [e_parse_contents]
  exact AllE.cons (CallOk.mono (k_read_contents c hfb hZ) (by decide)) (AllE.nil)
theorem k_parse_contents (c : SaysX exB P.main.file fn xs K) (hfb : ∀ f, fbOf FS f = true → f.Ok (lawOf P w K mg base)) (hZ : SigOk (lawOf P w K mg base) Zs) : CallOk (lawOf P w K mg base) 8 (He.ga K "parse_contents") 1 [] m_parse_contents := by
  obtain ⟨fd, F⟩ := c.def_ 28 (d := d_parse_contents) rfl
  exact fn_call hfb hZ F (fun _ _ _ _ _ _ us hl => match us, hl with | [_], _ => rfl) s_parse_contents (a_parse_contents c hfb hZ) c_parse_contents
theorem e_Contents_state : enSs t_Contents_state = [] := rfl
theorem a_Contents_state (c : SaysX exB P.main.file fn xs K) (hfb : ∀ f, fbOf FS f = true → f.Ok (lawOf P w K mg base)) (hZ : SigOk (lawOf P w K mg base) Zs) : AllE (Ent.Ok (lawOf P w K mg base) 0) (enSs t_Contents_state) := by
  rw [e_Contents_state]
  exact AllE.nil
theorem k_Contents_state (c : SaysX exB P.main.file fn xs K) (hfb : ∀ f, fbOf FS f = true → f.Ok (lawOf P w K mg base)) (hZ : SigOk (lawOf P w K mg base) Zs) : CallOk (lawOf P w K mg base) 1 (He.ma K (He.ga K "Contents") "state") 1 [] m_Contents_state := by
  obtain ⟨fd, F⟩ := c.def_ 29 (d := d_Contents_state) rfl
  exact fn_call hfb hZ F (fun _ _ _ _ _ _ us hl => match us, hl with | [_], _ => rfl) s_Contents_state (a_Contents_state c hfb hZ) c_Contents_state
theorem e_Contents___eq__ : enSs t_Contents___eq__ = [.me "Contents" "state" 0 [] m_Contents_state, .me "Contents" "state" 0 [] m_Contents_state] := rfl
theorem a_Contents___eq__ (c : SaysX exB P.main.file fn xs K) (hfb : ∀ f, fbOf FS f = true → f.Ok (lawOf P w K mg base)) (hZ : SigOk (lawOf P w K mg base) Zs) : AllE (Ent.Ok (lawOf P w K mg base) 1) (enSs t_Contents___eq__) := by
  rw [e_Contents___eq__]
  exact AllE.cons (MethOk.mono (me_of (C := "Contents") (x := "state") rfl rfl (ex_m c ("Contents", "state") (by decide)).1 (ex_m c ("Contents", "state") (by decide)).2 (k_Contents_state c hfb hZ)) (by decide)) (AllE.cons (MethOk.mono (me_of (C := "Contents") (x := "state") rfl rfl (ex_m c ("Contents", "state") (by decide)).1 (ex_m c ("Contents", "state") (by decide)).2 (k_Contents_state c hfb hZ)) (by decide)) (AllE.nil))
theorem k_Contents___eq__ (c : SaysX exB P.main.file fn xs K) (hfb : ∀ f, fbOf FS f = true → f.Ok (lawOf P w K mg base)) (hZ : SigOk (lawOf P w K mg base) Zs) : CallOk (lawOf P w K mg base) 2 (He.ma K (He.ga K "Contents") "__eq__") 2 [] m_Contents___eq__ := by
  obtain ⟨fd, F⟩ := c.def_ 30 (d := d_Contents___eq__) rfl
  exact fn_call hfb hZ F (fun _ _ _ _ _ _ us hl => match us, hl with | [_, _], _ => rfl) s_Contents___eq__ (a_Contents___eq__ c hfb hZ) c_Contents___eq__
theorem e__law_bad_texts : enTs t__law_bad_texts = [.fn "_law_line" 1 [] m__law_line] := rfl
theorem a__law_bad_texts (c : SaysX exB P.main.file fn xs K) (hfb : ∀ f, fbOf FS f = true → f.Ok (lawOf P w K mg base)) (hZ : SigOk (lawOf P w K mg base) Zs) : AllE (Ent.Ok (lawOf P w K mg base) 2) (enTs t__law_bad_texts) := by
  rw [e__law_bad_texts]
  exact AllE.cons (CallOk.mono (k__law_line c hfb hZ) (by decide)) (AllE.nil)
theorem k__law_bad_texts (c : SaysX exB P.main.file fn xs K) (hfb : ∀ f, fbOf FS f = true → f.Ok (lawOf P w K mg base)) (hZ : SigOk (lawOf P w K mg base) Zs) : CallOk (lawOf P w K mg base) 3 (He.ga K "_law_bad_texts") 1 [] m__law_bad_texts := by
  obtain ⟨fd, F⟩ := c.def_ 31 (d := d__law_bad_texts) rfl
  exact fn_callT hfb hZ F (fun _ _ _ _ _ _ us hl => match us, hl with | [_], _ => rfl) s__law_bad_texts (a__law_bad_texts c hfb hZ) c__law_bad_texts
theorem e__law_wrong : enSs t__law_wrong = [.fn "parse_contents" 1 [] m_parse_contents] := rfl
theorem a__law_wrong (c : SaysX exB P.main.file fn xs K) (hfb : ∀ f, fbOf FS f = true → f.Ok (lawOf P w K mg base)) (hZ : SigOk (lawOf P w K mg base) Zs) : AllE (Ent.Ok (lawOf P w K mg base) 8) (enSs t__law_wrong) := by
  rw [e__law_wrong]
  exact AllE.cons (CallOk.mono (k_parse_contents c hfb hZ) (by decide)) (AllE.nil)
theorem k__law_wrong (c : SaysX exB P.main.file fn xs K) (hfb : ∀ f, fbOf FS f = true → f.Ok (lawOf P w K mg base)) (hZ : SigOk (lawOf P w K mg base) Zs) : CallOk (lawOf P w K mg base) 9 (He.ga K "_law_wrong") 1 [] m__law_wrong := by
  obtain ⟨fd, F⟩ := c.def_ 32 (d := d__law_wrong) rfl
  exact fn_call hfb hZ F (fun _ _ _ _ _ _ us hl => match us, hl with | [_], _ => rfl) s__law_wrong (a__law_wrong c hfb hZ) c__law_wrong
theorem e_law : enSs t_law = [.fn "_law_stream" 2 [] m__law_stream, .fn "_law_words" 2 [] m__law_words, .fn "_law_draw" 2 [] m__law_draw, .fn "_law_words" 2 [] m__law_words, .fn "_law_words" 2 [] m__law_words, .fn "_law_told" 4 [] m__law_told, .fn "_law_draw" 2 [] m__law_draw, .fn "_law_contents" 1 [] m__law_contents, .fn "format_contents" 1 [] m_format_contents, .fn "_law_line" 1 [] m__law_line, .fn "parse_contents" 1 [] m_parse_contents, .oq "Contents" m_Contents___eq__, .fn "format_contents" 1 [] m_format_contents, .oq "Contents" m_Contents___eq__, .fn "_law_contents" 1 [] m__law_contents, .fn "_law_bad_texts" 1 [] m__law_bad_texts, .fn "_law_wrong" 1 [] m__law_wrong, .fn "_law_wrong" 1 [] m__law_wrong, .fn "Contents" 2 [] m_Contents_2, .fn "format_contents" 1 [] m_format_contents, .fn "format_contents" 1 [] m_format_contents, .fn "Contents" 2 ["needed"] m_Contents_needed_2] := rfl
theorem a_law (c : SaysX exB P.main.file fn xs K) (hfb : ∀ f, fbOf FS f = true → f.Ok (lawOf P w K mg base)) (hZ : SigOk (lawOf P w K mg base) Zs) : AllE (Ent.Ok (lawOf P w K mg base) 9) (enSs t_law) := by
  rw [e_law]
  exact AllE.cons (CallOk.mono (k__law_stream c hfb hZ) (by decide)) (AllE.cons (CallOk.mono (k__law_words c hfb hZ) (by decide)) (AllE.cons (CallOk.mono (k__law_draw c hfb hZ) (by decide)) (AllE.cons (CallOk.mono (k__law_words c hfb hZ) (by decide)) (AllE.cons (CallOk.mono (k__law_words c hfb hZ) (by decide)) (AllE.cons (CallOk.mono (k__law_told c hfb hZ) (by decide)) (AllE.cons (CallOk.mono (k__law_draw c hfb hZ) (by decide)) (AllE.cons (CallOk.mono (k__law_contents c hfb hZ) (by decide)) (AllE.cons (CallOk.mono (k_format_contents c hfb hZ) (by decide)) (AllE.cons (CallOk.mono (k__law_line c hfb hZ) (by decide)) (AllE.cons (CallOk.mono (k_parse_contents c hfb hZ) (by decide)) (AllE.cons ⟨2, by decide, me_of (C := "Contents") (x := "__eq__") rfl rfl (ex_m c ("Contents", "__eq__") (by decide)).1 (ex_m c ("Contents", "__eq__") (by decide)).2 (k_Contents___eq__ c hfb hZ), neB_ok (ex_q c "Contents" (by decide))⟩ (AllE.cons (CallOk.mono (k_format_contents c hfb hZ) (by decide)) (AllE.cons ⟨2, by decide, me_of (C := "Contents") (x := "__eq__") rfl rfl (ex_m c ("Contents", "__eq__") (by decide)).1 (ex_m c ("Contents", "__eq__") (by decide)).2 (k_Contents___eq__ c hfb hZ), neB_ok (ex_q c "Contents" (by decide))⟩ (AllE.cons (CallOk.mono (k__law_contents c hfb hZ) (by decide)) (AllE.cons (CallOk.mono (k__law_bad_texts c hfb hZ) (by decide)) (AllE.cons (CallOk.mono (k__law_wrong c hfb hZ) (by decide)) (AllE.cons (CallOk.mono (k__law_wrong c hfb hZ) (by decide)) (AllE.cons (CallOk.mono (k_m_Contents_2 c hfb hZ) (by decide)) (AllE.cons (CallOk.mono (k_format_contents c hfb hZ) (by decide)) (AllE.cons (CallOk.mono (k_format_contents c hfb hZ) (by decide)) (AllE.cons (CallOk.mono (k_m_Contents_needed_2 c hfb hZ) (by decide)) (AllE.nil))))))))))))))))))))))
theorem b_law {fd : FuncData} (F : FunD K "law" "law" d_law.params d_law.body d_law.scope [] [] (He.ga K "law") fd) (s : Shared) (v : Value) : BindsTo s fd ⟨[v], []⟩ [("_law_script", v)] :=
  FunD.bindsA (ps := ["_law_script"]) F (fun _ _ _ _ _ _ us hl => match us, hl with | [_], _ => rfl) s [v] rfl
theorem k_law (c : SaysX exB P.main.file fn xs K) (hfb : ∀ f, fbOf FS f = true → f.Ok (lawOf P w K mg base)) (hZ : SigOk (lawOf P w K mg base) Zs) {fd : FuncData} (F : FunD K "law" "law" d_law.params d_law.body d_law.scope [] [] (He.ga K "law") fd) : FnOk P w K mg base (CX P w) 10 (He.ga K "law") fd ["_law_script"] (DSp (lawOf P w K mg base) 1 m_law) :=
  fn_chk (L := lawOf P w K mg base) hfb hZ F s_law (a_law c hfb hZ) c_law
end
def names0 : List PySem.Str := [PySem.Str.ofString "_wall", PySem.Str.ofString "LETTERS", PySem.Str.ofString "DIGITS", PySem.Str.ofString "MOST_LETTERS", PySem.Str.ofString "MOST_DIGITS", PySem.Str.ofString "is_between", PySem.Str.ofString "is_word", PySem.Str.ofString "are_keys", PySem.Str.ofString "integer_of", PySem.Str.ofString "number_of", PySem.Str.ofString "GapError", PySem.Str.ofString "InvalidContents", PySem.Str.ofString "ParseError", PySem.Str.ofString "UnknownName", PySem.Str.ofString "MOST_ROLES", PySem.Str.ofString "MOST_ACCEPTED", PySem.Str.ofString "MOST_VOUCHERS", PySem.Str.ofString "is_role", PySem.Str.ofString "are_roles", PySem.Str.ofString "Contents", PySem.Str.ofString "format_keys", PySem.Str.ofString "format_contents", PySem.Str.ofString "keys_of", PySem.Str.ofString "read_contents", PySem.Str.ofString "parse_contents", PySem.Str.ofString "_law_stream", PySem.Str.ofString "_law_draw", PySem.Str.ofString "_law_choose", PySem.Str.ofString "_law_some", PySem.Str.ofString "_law_words", PySem.Str.ofString "_law_told", PySem.Str.ofString "_law_contents", PySem.Str.ofString "_law_keys_line", PySem.Str.ofString "_law_line", PySem.Str.ofString "_law_wrong", PySem.Str.ofString "_law_bad_texts"]
def names : List PySem.Str := names0
abbrev R : PySem.W.OpenRow := PySem.W.OpenLaw.row PySem.Challenge.rw_gaplesskeys_k78_texts_of_contents
abbrev hk : PySem.W.Hook := hookX 6 exB P.main.file fn xs
def ob (s : PySem.W.SharedT) : He.AlD := obsXG 6 exB P.main.file fn xs (HandSHeadRun.getT s)
theorem ob_eq (s : PySem.W.SharedT) : ob s = hk.obs s.abs := obsXG_eq (HandSHeadRun.getT_eq s)
set_option maxHeartbeats 0 in
theorem run (w : World) : HandSHeadRun.RunEq R (PySem.W.view R.prog [41]) hk ob 4000 names w := by
  intro os
  kernel_rfl
end T78
open PySem PySem.W PySem.Calls PyProof.Rows
set_option maxHeartbeats 0 in
theorem T78.holds (H : ∀ ns : List Int, ns.length ≤ 63 → (∀ z ∈ ns, Builtin.Int.intBits z ≤ 1048576) → ∃ st, T78.m_law [.scr ns] [] = .ok (.bl true) st) : PySem.Challenge.rw_gaplesskeys_k78_texts_of_contents.Holds := by
  w_on; o_law
  refine HandSHeadRun.head_any (r := OpenLaw.row PySem.Challenge.rw_gaplesskeys_k78_texts_of_contents) (q := view (OpenLaw.row PySem.Challenge.rw_gaplesskeys_k78_texts_of_contents).prog [41]) (H := T78.hk) (ob := T78.ob) (M := 4000) (loose := T78.names) (d := HandSHeadRun.topDef (OpenLaw.row PySem.Challenge.rw_gaplesskeys_k78_texts_of_contents).prog 41) (kwd := []) T78.ob_eq
    (by kernel_rfl) (fun s => by kernel_rfl) T78.run (by kernel_rfl) (by kernel_rfl) (by kernel_rfl) (by rfl) (by first | assumption | decide +kernel) (by decide +kernel) ⟨rfl, rfl, rfl, rfl, rfl, by decide +kernel⟩ ?hw ?hc
  case hw => w_witness2
  case hc =>
    refine DL.walk_ofX (l := PySem.Challenge.rw_gaplesskeys_k78_texts_of_contents) (n := 63) (k := 10) (x := "_law_script") (CX := fun w => L2.CX T78.P w) rfl (by decide) (by kernel_rfl) ⟨rfl, by decide, by decide⟩ ?F DL.cx_no
    intro w mg fa h Y G hmg0
    obtain ⟨K, KX, c⟩ := Y
    have hmg : mg ("law" : PySem.Str) = some (.ref fa) := by
      have e : (HandSHeadRun.topDef (OpenLaw.row PySem.Challenge.rw_gaplesskeys_k78_texts_of_contents).prog 41).name = ("law" : PySem.Str) := by kernel_rfl
      rw [← e]
      exact hmg0
    have hfa : fa = He.ga K "law" := by
      have e := hmg.symm.trans (He.glo_ok KX G (T78.ex_l c))
      cases e
      rfl
    subst hfa
    have hfb : ∀ base : Heap, ∀ f, DL.fbOf T78.FS f = true → f.Ok (DL.lawOf T78.P w K mg base) := fun base => DL.fb_ok (DL.facts_ok KX G c T78.xts (by decide +kernel) (T78.ex_f c))
    have hZ : ∀ base : Heap, DL.SigOk (DL.lawOf T78.P w K mg base) T78.Zs := fun base => DL.sigB_ok (T78.ex_s c)
    obtain ⟨fd, F⟩ := c.def_ 33 (d := T78.d_law) rfl
    exact ⟨K, fd, DL.DSp (DL.lawOf T78.P w K mg h) 1 T78.m_law, KX, T78.b_law F, fun H' a ns hl hbits _ hS => DL.law_says (L := DL.lawOf T78.P w K mg h) hS (H ns hl hbits), fun base _ _ => T78.k_law (base := base) c (hfb base) (hZ base) F⟩
end
section
set_option Elab.async false
set_option linter.all false
set_option maxRecDepth 100000
set_option autoImplicit false
/-! equations of the evaluators, for simp (printed by mkmr.py) -/
namespace DL
open PySem PySem.Spec L2

@[simp] theorem q0 {Z : Sig} {i} : evE Z (.var i) = (fVr i) := (rfl)
@[simp] theorem q1 {Z : Sig} {i} : evE Z (.own i) = (fOwn i) := (rfl)
@[simp] theorem q2 {Z : Sig} {i} : evE Z (.int i) = (fun _ => fC (.int i)) := (rfl)
@[simp] theorem q3 {Z : Sig} {x} : evE Z (.str x) = (fun _ => fC (.str x)) := (rfl)
@[simp] theorem q4 {Z : Sig} {b} : evE Z (.bl b) = (fun _ => fC (.bl b)) := (rfl)
@[simp] theorem q5 {Z : Sig}  : evE Z .non = (fun _ => fC .non) := (rfl)
@[simp] theorem q6 {Z : Sig} {u1} {d} : evE Z (.glob u1 d) = (fun _ => fC d) := (rfl)
@[simp] theorem q7 {Z : Sig} {u1} {n} : evE Z (.blt u1 n) = (fun _ => fC (.ty n)) := (rfl)
@[simp] theorem q8 {Z : Sig} {op} {a} {b} : evE Z (.bin op a b) = (fun _ => f2 (binD op) (evE Z a true) (evE Z b true)) := (rfl)
@[simp] theorem q9 {Z : Sig} {a} : evE Z (.neg a) = (fun _ => fNeg (evE Z a true)) := (rfl)
@[simp] theorem q10 {Z : Sig} {op} {a} {b} : evE Z (.cmp op a b) = (fun _ => f2 (cmpD op) (evE Z a true) (evE Z b true)) := (rfl)
@[simp] theorem q11 {Z : Sig} {op} {op2} {a} {b} {c} : evE Z (.chn op op2 a b c) = (fun _ => fChain op op2 (evE Z a true) (evE Z b true) (evE Z c true)) := (rfl)
@[simp] theorem q12 {Z : Sig} {a} {r} : evE Z (.an a r) = (fun _ => fAnd (evE Z a false) (evE Z r false)) := (rfl)
@[simp] theorem q13 {Z : Sig} {a} {r} : evE Z (.orr a r) = (fun _ => fOr (evE Z a false) (evE Z r false)) := (rfl)
@[simp] theorem q14 {Z : Sig} {a} : evE Z (.one a) = (fun _ => evE Z a false) := (rfl)
@[simp] theorem q15 {Z : Sig} {a} : evE Z (.not a) = (fun _ => fNot (evE Z a true)) := (rfl)
@[simp] theorem q16 {Z : Sig} {t} {a} {b} : evE Z (.ife t a b) = (fun pk => fIf (evT Z t) (evE Z a pk) (evE Z b pk)) := (rfl)
@[simp] theorem q17 {Z : Sig} {as} : evE Z (.tup as) = (fun _ => fTup (evAs Z as false)) := (rfl)
@[simp] theorem q18 {Z : Sig} {a} {b} : evE Z (.sub a b) = (fun _ => f2 subsD (evE Z a true) (evE Z b true)) := (rfl)
@[simp] theorem q19 {Z : Sig} {a} {lo} {hi} : evE Z (.sli a lo hi) = (fun _ => fSli (evE Z a true) (evO Z lo) (evO Z hi)) := (rfl)
@[simp] theorem q20 {Z : Sig} {a} : evE Z (.rev a) = (fun _ => fRev (evE Z a true)) := (rfl)
@[simp] theorem q21 {Z : Sig} {f} {as} : evE Z (.bc f as) = (fun _ => fCall (bfF Z f) (evAs Z as true)) := (rfl)
@[simp] theorem q22 {Z : Sig} {m} {o} : evE Z (.mth0 m o) = (fun _ => fMeth0 (mfF m) (evE Z o true)) := (rfl)
@[simp] theorem q23 {Z : Sig} {m} {o} {as} : evE Z (.mth m o as) = (fun _ => fMeth (mfF m) (evE Z o true) (evAs Z as true)) := (rfl)
@[simp] theorem q24 {Z : Sig} {js} : evE Z (.fs js) = (fun _ => fJoin (evJ Z js)) := (rfl)
@[simp] theorem q25 {Z : Sig} {a} : evE Z (.fs1 a) = (fun _ => evE Z a false) := (rfl)
@[simp] theorem q26 {Z : Sig} {a} : evE Z (.fmt a) = (fun _ => fFmtV (evE Z a true)) := (rfl)
@[simp] theorem q27 {Z : Sig} {C} {x} {a} : evE Z (.fld C x a) = (fun _ => fFld C x (evE Z a true)) := (rfl)
@[simp] theorem q28 {Z : Sig} {u1} {u2} {u3} {m} {as} {kw} : evE Z (.app u1 u2 u3 m as kw) = (fun _ => fApp m (evAs Z as false) (evAs Z kw false)) := (rfl)
@[simp] theorem q29 {Z : Sig} {C} {x} {u1} {u2} {m} {o} {as} {kw} : evE Z (.me C x u1 u2 m o as kw) = (fun _ => fMeK C x m (evE Z o false) (evAs Z as false) (evAs Z kw false)) := (rfl)
@[simp] theorem q30 {Z : Sig} {C} {u1} {m} {o} : evE Z (.pr C u1 m o) = (fun _ => fProp C m (evE Z o false)) := (rfl)
@[simp] theorem q31 {Z : Sig} {f} : evE Z (.frz f) = (fun _ env st => (evF Z f env st).bind fun cl s => .ok (cellD cl) s) := (rfl)
@[simp] theorem q32 {Z : Sig} {f} : evE Z (.reg f) = (fun _ => fReg (evF Z f)) := (rfl)
@[simp] theorem q33 {Z : Sig} {neg} {C} {m} {a} {b} : evE Z (.oeq neg C m a b) = (fun _ => fOeq neg C m (evE Z a false) (evE Z b false)) := (rfl)
@[simp] theorem q34 {Z : Sig} {w} {b} {p} {t} {a} : evE Z (.lsc w b p t a) = (fun _ => fLenSc (w.map (·.2)) (iSeq (evE Z b false)) p (evOT Z t) (evE Z a false)) := (rfl)
@[simp] theorem q35 {Z : Sig} {as} : evF Z (.lst as) = (fLst (evAs Z as false)) := (rfl)
@[simp] theorem q36 {Z : Sig} {a} {b} : evF Z (.cat a b) = (fCat (evE Z a true) (evE Z b true)) := (rfl)
@[simp] theorem q37 {Z : Sig} {w} {it} {p} {t} {a} : evF Z (.lc w it p t a) = (fLc (w.map (·.2)) (evI Z it) p (evOT Z t) (evE Z a false)) := (rfl)
@[simp] theorem q38 {Z : Sig} {w} {it} {p} {t} {k} {v} : evF Z (.dc w it p t k v) = (fDc (w.map (·.2)) (evI Z it) p (evOT Z t) (evE Z k false) (evE Z v false)) := (rfl)
@[simp] theorem q39 {Z : Sig}  : evF Z .dnew = (fun _ st => .ok (.dct []) st) := (rfl)
@[simp] theorem q40 {Z : Sig} {ks} : evF Z (.dsp ks) = (fDsp (evK Z ks)) := (rfl)
@[simp] theorem q41 {Z : Sig}  : evAs Z .nil = (fun _ => aNil) := (rfl)
@[simp] theorem q42 {Z : Sig} {a} {as} : evAs Z (.cons a as) = (fun pk => aCons (evE Z a pk) (evAs Z as pk)) := (rfl)
@[simp] theorem q43 {Z : Sig}  : evJ Z .nil = (jNil) := (rfl)
@[simp] theorem q44 {Z : Sig} {a} {as} : evJ Z (.cons a as) = (jCons (evE Z a true) (evJ Z as)) := (rfl)
@[simp] theorem q45 {Z : Sig}  : evK Z .nil = (kNil) := (rfl)
@[simp] theorem q46 {Z : Sig} {k} {v} {r} : evK Z (.cons k v r) = (kCons (evE Z k false) (evE Z v false) (evK Z r)) := (rfl)
@[simp] theorem q47 {Z : Sig}  : evO Z .no = (oNo) := (rfl)
@[simp] theorem q48 {Z : Sig} {a} : evO Z (.som a) = (oSome (evE Z a true)) := (rfl)
@[simp] theorem q49 {Z : Sig} {a} : evT Z (.val a) = (fTru (evE Z a true)) := (rfl)
@[simp] theorem q50 {Z : Sig} {op} {a} {b} : evT Z (.cmp op a b) = (fun env st => oBl (f2 (cmpD op) (evE Z a true) (evE Z b true) env st)) := (rfl)
@[simp] theorem q51 {Z : Sig} {op} {op2} {a} {b} {c} : evT Z (.chn op op2 a b c) = (fun env st => oBl (fChain op op2 (evE Z a true) (evE Z b true) (evE Z c true) env st)) := (rfl)
@[simp] theorem q52 {Z : Sig} {t} : evT Z (.not t) = (tNotD (evT Z t)) := (rfl)
@[simp] theorem q53 {Z : Sig} {neg} {C} {m} {a} {b} : evT Z (.oeq neg C m a b) = (fun env st => oBl (fOeq neg C m (evE Z a false) (evE Z b false) env st)) := (rfl)
@[simp] theorem q54 {Z : Sig} {w} : evT Z (.w w) = (evW Z w) := (rfl)
@[simp] theorem q55 {Z : Sig} {t} : evW Z (.one t) = (evT Z t) := (rfl)
@[simp] theorem q56 {Z : Sig} {t} {w} : evW Z (.an t w) = (tAndD (evT Z t) (evW Z w)) := (rfl)
@[simp] theorem q57 {Z : Sig} {t} {w} : evW Z (.orr t w) = (tOrD (evT Z t) (evW Z w)) := (rfl)
@[simp] theorem q58 {Z : Sig}  : evOT Z .yes = (tYesD) := (rfl)
@[simp] theorem q59 {Z : Sig} {t} : evOT Z (.one t) = (evT Z t) := (rfl)
@[simp] theorem q60 {Z : Sig} {a} : evI Z (.seq a) = (iSeq (evE Z a false)) := (rfl)
@[simp] theorem q61 {Z : Sig} {a} : evI Z (.r1 a) = (iRng1 (evE Z a true)) := (rfl)
@[simp] theorem q62 {Z : Sig} {a} {b} : evI Z (.r2 a b) = (iRng2 (evE Z a true) (evE Z b true)) := (rfl)
@[simp] theorem q63 {Z : Sig} {a} {b} {c} : evI Z (.r3 a b c) = (iRng3 (evE Z a true) (evE Z b true) (evE Z c true)) := (rfl)
@[simp] theorem q64 {Z : Sig} {a} : evI Z (.enm a) = (iEnum (evE Z a false)) := (rfl)
@[simp] theorem q65 {Z : Sig} {p} : evI Z (.keys p) = (iKey (evPt p)) := (rfl)
@[simp] theorem q66 {Z : Sig} {p} : evI Z (.vals p) = (iVal (evPt p)) := (rfl)
@[simp] theorem q67 {Z : Sig} {p} : evI Z (.items p) = (iItm (evPt p)) := (rfl)
@[simp] theorem q68 {Z : Sig}  : evS Z .pass = (sPass) := (rfl)
@[simp] theorem q69 {Z : Sig}  : evS Z .brk = (fun env st => .bk env st) := (rfl)
@[simp] theorem q70 {Z : Sig}  : evS Z .cnt = (fun env st => .ct env st) := (rfl)
@[simp] theorem q71 {Z : Sig} {e} : evS Z (.ret e) = (sRet (evE Z e false)) := (rfl)
@[simp] theorem q72 {Z : Sig}  : evS Z .ret0 = (fun _ st => .rt .non st) := (rfl)
@[simp] theorem q73 {Z : Sig} {t} {a} {b} : evS Z (.ite t a b) = (sIf (evT Z t) (evSs Z a) (evSs Z b)) := (rfl)
@[simp] theorem q74 {Z : Sig} {e} : evS Z (.drop e) = (sDrop (evE Z e true)) := (rfl)
@[simp] theorem q75 {Z : Sig} {i} {e} : evS Z (.set i e) = (sSet i (evE Z e false)) := (rfl)
@[simp] theorem q76 {Z : Sig} {i} {f} : evS Z (.new i f) = (sNew i (evF Z f)) := (rfl)
@[simp] theorem q77 {Z : Sig} {p} {e} : evS Z (.asg p e) = (sAsg p (evE Z e false)) := (rfl)
@[simp] theorem q78 {Z : Sig} {is} {as} : evS Z (.par is as) = (sPar is (evAs Z as false)) := (rfl)
@[simp] theorem q79 {Z : Sig} {i} {w} {it} {p} {t} {a} : evS Z (.slc i w it p t a) = (sNew i (fLc (w.map (·.2)) (evI Z it) p (evOT Z t) (evE Z a false))) := (rfl)
@[simp] theorem q80 {Z : Sig} {it} {p} {b} : evS Z (.fo it p b) = (sFor (evI Z it) p (evSs Z b)) := (rfl)
@[simp] theorem q81 {Z : Sig} {i} {e} : evS Z (.app i e) = (sApp i (evE Z e false)) := (rfl)
@[simp] theorem q82 {Z : Sig} {i} {k} {v} : evS Z (.putO i k v) = (sPutO i (evE Z k false) (evE Z v false)) := (rfl)
@[simp] theorem q83 {Z : Sig} {i} {C} {x} {e} : evS Z (.attO i C x e) = (sAttO i C x (evE Z e false)) := (rfl)
@[simp] theorem q84 {Z : Sig} {o} {k} {v} : evS Z (.putC o k v) = (sPutC (evE Z o false) (evE Z k false) (evE Z v false)) := (rfl)
@[simp] theorem q85 {Z : Sig} {C} {x} {e} : evS Z (.raise C x e) = (sRaise C x (evE Z e false)) := (rfl)
@[simp] theorem q86 {Z : Sig} {u1} {l} {b} {h} : evS Z (.tr u1 l b h) = (sTry (fun y => l.lookup y) (evSs Z b) (evSs Z h)) := (rfl)
@[simp] theorem q87 {Z : Sig} {i} {u1} {l} {hes} {b} : evS Z (.trA i u1 l hes b) = (sTryAs i (fun y => l.lookup y) hes (evSs Z b)) := (rfl)
@[simp] theorem q88 {Z : Sig}  : evSs Z .nil = (sNil) := (rfl)
@[simp] theorem q89 {Z : Sig} {s} {ss} : evSs Z (.cons s ss) = (sSeq (evS Z s) (evSs Z ss)) := (rfl)
@[simp] theorem q90 {Z : Sig} {i} {ss} : evSs Z (.frz i ss) = (sFrz i (evSs Z ss)) := (rfl)
@[simp] theorem q91 {Z : Sig} {i} {ss} : evSs Z (.reg i ss) = (sReg i (evSs Z ss)) := (rfl)
@[simp] theorem q92 {Z : Sig} {e} : evET Z (.p e) = (evE Z e false) := (rfl)
@[simp] theorem q93 {Z : Sig} {o} {y} {z} : evET Z (.rep o y z) = (fRep y z (evE Z o true)) := (rfl)
@[simp] theorem q94 {Z : Sig} {o} {y} {z} {n} : evET Z (.repN o y z n) = (fRepN y z n (evE Z o true)) := (rfl)
@[simp] theorem q95 {Z : Sig} {a} {b} : evET Z (.add a b) = (f2 (binD .Add) (evE Z a false) (evET Z b)) := (rfl)
@[simp] theorem q96 {Z : Sig}  : evETs Z [] = (aNil) := (rfl)
@[simp] theorem q97 {Z : Sig} {e} {es} : evETs Z (e :: es) = (aCons (evET Z e) (evETs Z es)) := (rfl)
@[simp] theorem q98 {Z : Sig} {x} : evEM Z (.s x) = (fC (.str x)) := (rfl)
@[simp] theorem q99 {Z : Sig} {a} {b} : evEM Z (.add a b) = (f2 (binD .Add) (evEM Z a) (evE Z b true)) := (rfl)
@[simp] theorem q100 {Z : Sig} {e} {r} : evEL Z (.p e r) = (aCons (evE Z e false) (evEL Z r)) := (rfl)
@[simp] theorem q101 {Z : Sig} {e} {r} : evEL Z (.m e r) = (aCons (evEM Z e) (evETs Z r)) := (rfl)
@[simp] theorem q102 {Z : Sig} {as} : evFT Z (.lst as) = (fLst (evETs Z as)) := (rfl)
@[simp] theorem q103 {Z : Sig} {a} {as} : evFT Z (.cat a as) = (fCatF (evE Z a true) (fLst (evETs Z as))) := (rfl)
@[simp] theorem q104 {Z : Sig} {as} : evFM Z (.lst as) = (fLst (evEL Z as)) := (rfl)
@[simp] theorem q105 {Z : Sig} {a} {as} : evFM Z (.cat a as) = (fCatF (evE Z a true) (fLst (evEL Z as))) := (rfl)
@[simp] theorem q106 {Z : Sig}  : evTSs Z .nil = (sNil) := (rfl)
@[simp] theorem q107 {Z : Sig} {s} {r} : evTSs Z (.cons s r) = (sSeq (evS Z s) (evTSs Z r)) := (rfl)
@[simp] theorem q108 {Z : Sig} {i} {f} {r} : evTSs Z (.new i f r) = (sSeq (sNew i (evFT Z f)) (evTSs Z r)) := (rfl)
@[simp] theorem q109 {Z : Sig} {i} {e} {r} : evTSs Z (.app i e r) = (sSeq (sApp i (evET Z e)) (evTSs Z r)) := (rfl)
@[simp] theorem q110 {Z : Sig} {f} : evTSs Z (.ret f) = (sSeq (sRet (frzF (evFT Z f))) sNil) := (rfl)
@[simp] theorem q111 {Z : Sig} {i} {r} : evTSs Z (.frz i r) = (sFrz i (evTSs Z r)) := (rfl)
@[simp] theorem q112 {Z : Sig} {i} {r} : evTSs Z (.reg i r) = (sReg i (evTSs Z r)) := (rfl)
@[simp] theorem q113 {Z : Sig} {s} {r} : evTs Z (.cons s r) = (sSeq (evS Z s) (evTs Z r)) := (rfl)
@[simp] theorem q114 {Z : Sig} {i} {f} {r} : evTs Z (.ent i f r) = (sSeq (sNew i (evFM Z f)) (evTSs Z r)) := (rfl)
@[simp] theorem q115 {Z : Sig} {i} {r} : evTs Z (.frz i r) = (sFrz i (evTs Z r)) := (rfl)
@[simp] theorem q116 {Z : Sig} {i} {r} : evTs Z (.reg i r) = (sReg i (evTs Z r)) := (rfl)
end DL
end
section
set_option Elab.async false
set_option linter.all false
set_option maxRecDepth 100000
set_option autoImplicit false
/-! DL: rules by which simp runs the evaluators -/
namespace DL
open PySem PySem.Spec L2 SX
/-! the same without defeq: else the kernel may run into rg3 and the like -/
@[simp high] theorem liftE_ok' {α : Type} (env : DEnv) (a : α) (s : Store) (k : α → Store → SO) : liftE env (.ok a s) k = k a s := (rfl)
@[simp high] theorem liftE_exc' {α : Type} (env : DEnv) (x : Str) (fs : List (Str × D)) (s : Store) (k : α → Store → SO) : liftE env (.exc x fs s : Out α) k = .exc x fs env s := (rfl)
@[simp high] theorem bind_ok' {α β : Type} (a : α) (s : Store) (k : α → Store → Out β) : (Out.ok a s).bind k = k a s := (rfl)
@[simp high] theorem bind_exc' {α β : Type} (x : Str) (fs : List (Str × D)) (s : Store) (k : α → Store → Out β) : (Out.exc x fs s).bind k = .exc x fs s := (rfl)
@[simp high] theorem opt_some' {α : Type} (a : α) (s : Store) : Out.opt (some a) s = .ok a s := (rfl)
@[simp high] theorem opt_none' {α : Type} (s : Store) : Out.opt (none : Option α) s = .bad := (rfl)
section
variable {Z : Sig} {env : DEnv} {st s s' : Store} {d : D} {i j n : Nat} {α β : Type}
@[simp] theorem ept_v {i : Nat} : evPt (.v i) = pVar i := (rfl)
@[simp] theorem ept_f {C x : Str} {p : Pt} : evPt (.f C x p) = pFld C x (evPt p) := (rfl)
/-! names -/
def oVal (o : Option Slot) (st : Store) : Out D := match o with
  | some (.val d) => .ok d st
  | _ => .bad
def oPeek (o : Option Slot) (st : Store) : Out D := match o with
  | some (.val d) => .ok d st
  | some (.own cl) => .ok (cellD cl) st
  | _ => .bad
@[simp] theorem oVal_val : oVal (some (.val d)) st = .ok d st := (rfl)
@[simp] theorem oPeek_val : oPeek (some (.val d)) st = .ok d st := (rfl)
@[simp] theorem oPeek_own {cl : Cell} : oPeek (some (.own cl)) st = .ok (cellD cl) st := (rfl)
@[simp] theorem fVar_ap : fVar i env st = oVal env[i]? st := (rfl)
@[simp] theorem fPeek_ap : fPeek i env st = oPeek env[i]? st := (rfl)
@[simp] theorem fVr_t : fVr i true = fPeek i := (rfl)
@[simp] theorem fVr_f : fVr i false = fVar i := (rfl)
@[simp] theorem fOwn_t : fOwn i true = fPeek i := (rfl)
@[simp] theorem cellD_l {ds : List D} : cellD (.lst ds) = .lst ds := (rfl)
@[simp] theorem cellD_d {ds : List (Key × D)} : cellD (.dct ds) = .dct ds := (rfl)
@[simp] theorem cellD_i {c : Str} {fs : List (Str × D)} : cellD (.ins c fs) = .obj c fs := (rfl)
@[simp] theorem fC_ap : fC d env st = .ok d st := (rfl)
/-! how outcomes follow each other -/
@[simp] theorem bind_ite {p : Prop} [Decidable p] {a b : Out α} {k : α → Store → Out β} : (if p then a else b).bind k = if p then a.bind k else b.bind k := by split <;> rfl
@[simp] theorem opt_ite {p : Prop} [Decidable p] {a b : Option α} : Out.opt (if p then a else b) s = if p then Out.opt a s else Out.opt b s := by split <;> rfl
@[simp] theorem liftE_ite {p : Prop} [Decidable p] {a b : Out α} {k : α → Store → SO} : liftE env (if p then a else b) k = if p then liftE env a k else liftE env b k := by split <;> rfl
def sthen (o : SO) (fr : SR) : SO := match o with
  | .nx env' st' => fr env' st'
  | o => o
@[simp] theorem sSeq_ap {f fr : SR} : sSeq f fr env st = sthen (f env st) fr := (rfl)
@[simp] theorem sthen_nx {fr : SR} : sthen (.nx env st) fr = fr env st := (rfl)
@[simp] theorem sthen_rt {fr : SR} : sthen (.rt d st) fr = .rt d st := (rfl)
@[simp] theorem sthen_bk {fr : SR} : sthen (.bk env st) fr = .bk env st := (rfl)
@[simp] theorem sthen_ct {fr : SR} : sthen (.ct env st) fr = .ct env st := (rfl)
@[simp] theorem sthen_exc {fr : SR} {x : Str} {fs : List (Str × D)} : sthen (.exc x fs env st) fr = .exc x fs env st := (rfl)
@[simp] theorem sthen_bad {fr : SR} : sthen .bad fr = .bad := (rfl)
@[simp] theorem sthen_ite {p : Prop} [Decidable p] {a b : SO} {fr : SR} : sthen (if p then a else b) fr = if p then sthen a fr else sthen b fr := by split <;> rfl
@[simp] theorem sNil_ap : sNil env st = .nx env st := (rfl)
@[simp] theorem sPass_ap : sPass env st = .nx env st := (rfl)
@[simp] theorem sRet_ap {f : ER} : sRet f env st = liftE env (f env st) fun d s => .rt d s := (rfl)
@[simp] theorem sSet_ap {f : ER} : sSet i f env st = liftE env (f env st) fun d s => .nx (env.set i (.val d)) s := (rfl)
@[simp] theorem sDrop_ap {f : ER} : sDrop f env st = liftE env (f env st) fun _ s => .nx env s := (rfl)
@[simp] theorem sIf_ap {t : TR} {a b : SR} : sIf t a b env st = liftE env (t env st) fun c s => if c = true then a env s else b env s := (rfl)
@[simp] theorem sRaise_ap {C x : Str} {f : ER} : sRaise C x f env st = liftE env (f env st) fun d s => .exc C [(x, d)] env s := (rfl)
def oNew (i : Nat) (cl : Cell) (env : DEnv) (s : Store) : SO := if isIns cl = true then .bad else .nx (env.set i (.own cl)) s
@[simp] theorem oNew_l {ds : List D} : oNew i (.lst ds) env s = .nx (env.set i (.own (.lst ds))) s := (rfl)
@[simp] theorem oNew_d {ds : List (Key × D)} : oNew i (.dct ds) env s = .nx (env.set i (.own (.dct ds))) s := (rfl)
@[simp] theorem sNew_ap {f : FR} : sNew i f env st = liftE env (f env st) fun cl s => oNew i cl env s := (rfl)
def oFrz (o : Option Slot) (i : Nat) (fr : SR) (env : DEnv) (st : Store) : SO := match o with
  | some (.own cl) => fr (env.set i (.val (cellD cl))) st
  | _ => .bad
@[simp] theorem sFrz_ap {fr : SR} : sFrz i fr env st = oFrz env[i]? i fr env st := (rfl)
@[simp] theorem oFrz_own {fr : SR} {cl : Cell} : oFrz (some (.own cl)) i fr env st = fr (env.set i (.val (cellD cl))) st := (rfl)
def oReg (o : Option Slot) (i : Nat) (fr : SR) (env : DEnv) (st : Store) : SO := match o with
  | some (.own cl) => fr (env.set i (.val (.cell st.length))) (st ++ [cl])
  | _ => .bad
@[simp] theorem sReg_ap {fr : SR} : sReg i fr env st = oReg env[i]? i fr env st := (rfl)
@[simp] theorem oReg_own {fr : SR} {cl : Cell} : oReg (some (.own cl)) i fr env st = fr (env.set i (.val (.cell st.length))) (st ++ [cl]) := (rfl)
def oBind (o : Option DEnv) (s : Store) : SO := match o with
  | some env' => .nx env' s
  | none => .bad
@[simp] theorem oBind_some {env' : DEnv} : oBind (some env') s = .nx env' s := (rfl)
@[simp] theorem sAsg_ap {p : Pat} {f : ER} : sAsg p f env st = liftE env (f env st) fun d s => oBind (bindP p d s env) s := (rfl)
@[simp] theorem sPar2_ap {i j : Nat} {as : AR} : sPar [i, j] as env st = liftE env (as env st) fun ds s => match ds with
  | [d, e] => .nx ((env.set i (.val d)).set j (.val e)) s
  | _ => .bad := by
  unfold sPar
  congr 1
  funext ds s
  match ds with
  | [] => rfl
  | [_] => rfl
  | [_, _] => rfl
  | _ :: _ :: _ :: _ => simp
@[simp] theorem sPar3_ap {i j n : Nat} {as : AR} : sPar [i, j, n] as env st = liftE env (as env st) fun ds s => match ds with
  | [d, e, f] => .nx (((env.set i (.val d)).set j (.val e)).set n (.val f)) s
  | _ => .bad := by
  unfold sPar
  congr 1
  funext ds s
  match ds with
  | [] => rfl
  | [_] => rfl
  | [_, _] => rfl
  | [_, _, _] => rfl
  | _ :: _ :: _ :: _ :: _ => simp
def oApp (o : Option Slot) (i : Nat) (f : ER) (env : DEnv) (st : Store) : SO := match o with
  | some (.own (.lst xs)) => liftE env (f env st) fun d s => if xs.length < sizeLine then .nx (env.set i (.own (.lst (xs ++ [d])))) s else .bad
  | _ => .bad
@[simp] theorem sApp_ap {f : ER} : sApp i f env st = oApp env[i]? i f env st := (rfl)
@[simp] theorem oApp_own {f : ER} {xs : List D} : oApp (some (.own (.lst xs))) i f env st = liftE env (f env st) fun d s => if xs.length < sizeLine then .nx (env.set i (.own (.lst (xs ++ [d])))) s else .bad := (rfl)
def oPut (ks : List (Key × D)) (i : Nat) (d : D) (o : Option Key) (env : DEnv) (s : Store) : SO := match o with
  | some ky => if ks.length < sizeLine then .nx (env.set i (.own (.dct (putD ks ky d)))) s else .bad
  | none => .bad
def oPutO (o : Option Slot) (i : Nat) (fk fv : ER) (env : DEnv) (st : Store) : SO := match o with
  | some (.own (.dct ks)) => liftE env (fv env st) fun d s => liftE env (fk env s) fun k s2 => oPut ks i d (keyOf k) env s2
  | _ => .bad
@[simp] theorem sPutO_ap {fk fv : ER} : sPutO i fk fv env st = oPutO env[i]? i fk fv env st := (rfl)
@[simp] theorem oPutO_own {fk fv : ER} {ks : List (Key × D)} : oPutO (some (.own (.dct ks))) i fk fv env st = liftE env (fv env st) fun d s => liftE env (fk env s) fun k s2 => oPut ks i d (keyOf k) env s2 := (rfl)
@[simp] theorem oPut_some {ks : List (Key × D)} {ky : Key} : oPut ks i d (some ky) env s = if ks.length < sizeLine then .nx (env.set i (.own (.dct (putD ks ky d)))) s else .bad := (rfl)
def oAtt (o : Option Slot) (i : Nat) (C x : Str) (f : ER) (env : DEnv) (st : Store) : SO := match o with
  | some (.own (.ins y fs)) => liftE env (f env st) fun d s => if y = C ∧ fs.length < 1000 then .nx (env.set i (.own (.ins y (putFD x d fs)))) s else .bad
  | _ => .bad
@[simp] theorem sAttO_ap {C x : Str} {f : ER} : sAttO i C x f env st = oAtt env[i]? i C x f env st := (rfl)
@[simp] theorem oAtt_own {C x y : Str} {f : ER} {fs : List (Str × D)} : oAtt (some (.own (.ins y fs))) i C x f env st = liftE env (f env st) fun d s => if y = C ∧ fs.length < 1000 then .nx (env.set i (.own (.ins y (putFD x d fs)))) s else .bad := (rfl)
/-! a def's end -/
def oFn (o : SO) : Out D := match o with
  | .rt d s => .ok d s
  | .nx _ s => .ok .non s
  | .exc x fs _ s => .exc x fs s
  | _ => .bad
@[simp] theorem fnM_ap {fb : SR} {ds : List D} : fnM n fb ds st = oFn (fb (envOf n ds) st) := (rfl)
@[simp] theorem oFn_rt : oFn (.rt d s) = .ok d s := (rfl)
@[simp] theorem oFn_nx : oFn (.nx env s) = .ok .non s := (rfl)
@[simp] theorem oFn_exc {x : Str} {fs : List (Str × D)} : oFn (.exc x fs env s) = .exc x fs s := (rfl)
@[simp] theorem oFn_bad : oFn .bad = .bad := (rfl)
@[simp] theorem oFn_ite {p : Prop} [Decidable p] {a b : SO} : oFn (if p then a else b) = if p then oFn a else oFn b := by split <;> rfl
@[simp] theorem envOf_ap {ds : List D} : envOf n ds = ds.map .val ++ List.replicate (n - ds.length) .no := (rfl)
/-! expressions -/
@[simp] theorem f2_ap {F : Op2} {fa fb : ER} : f2 F fa fb env st = (fa env st).bind fun x s1 => (fb env s1).bind fun y s2 => .opt (F s2 x y) s2 := (rfl)
def oInt (d : D) (s : Store) (k : Int → Out α) : Out α := match d with
  | .int i => k i
  | _ => .bad
@[simp] theorem oInt_int {i : Int} {k : Int → Out α} : oInt (.int i) s k = k i := (rfl)
@[simp] theorem fNeg_ap {fa : ER} : fNeg fa env st = (fa env st).bind fun x s1 => oInt x s1 fun i => .ok (.int (-i)) s1 := (rfl)
@[simp] theorem oBl_bl {b : Bool} : oBl (.ok (.bl b) st) = .ok b st := (rfl)
@[simp] theorem oBl_exc {x : Str} {fs : List (Str × D)} : oBl (.exc x fs st) = .exc x fs st := (rfl)
@[simp] theorem oBl_bad : oBl .bad = .bad := (rfl)
@[simp] theorem oBl_ite {p : Prop} [Decidable p] {a b : Out D} : oBl (if p then a else b) = if p then oBl a else oBl b := by split <;> rfl
@[simp] theorem fChain_ap {op op' : CmpOp} {fa fb fc : ER} : fChain op op' fa fb fc env st = (fa env st).bind fun x s1 => (fb env s1).bind fun y s2 => (oBl (.opt (cmpD op s2 x y) s2)).bind fun b s3 =>
  if b = true then (fc env s3).bind fun z s4 => .opt (cmpD op' s4 y z) s4 else .ok (.bl false) s3 := rfl
@[simp] theorem fTru_ap {f : ER} : fTru f env st = (f env st).bind fun x s => .opt (truD s x) s := (rfl)
@[simp] theorem tAnd_ap {a b : TR} : tAndD a b env st = (a env st).bind fun c s => if c = true then b env s else .ok false s := (rfl)
@[simp] theorem tOr_ap {a b : TR} : tOrD a b env st = (a env st).bind fun c s => if c = true then .ok true s else b env s := (rfl)
@[simp] theorem tNot_ap {a : TR} : tNotD a env st = (a env st).bind fun b s => .ok (!b) s := (rfl)
@[simp] theorem tYes_ap : tYesD env st = .ok true st := (rfl)
def oTr {α : Type} (o : Option Bool) (a b : Out α) : Out α := match o with
  | some true => a
  | some false => b
  | none => .bad
@[simp] theorem oTr_some {b : Bool} {x y : Out α} : oTr (some b) x y = if b = true then x else y := by cases b <;> rfl
@[simp] theorem fAnd_ap {fa fb : ER} : fAnd fa fb env st = (fa env st).bind fun x s => oTr (truD s x) (fb env s) (.ok x s) := (rfl)
@[simp] theorem fOr_ap {fa fb : ER} : fOr fa fb env st = (fa env st).bind fun x s => oTr (truD s x) (.ok x s) (fb env s) := (rfl)
@[simp] theorem fNot_ap {fa : ER} : fNot fa env st = (fa env st).bind fun x s => oTr (truD s x) (.ok (.bl false) s) (.ok (.bl true) s) := by
  unfold fNot
  congr 1
  funext x s
  cases truD s x with
  | none => rfl
  | some b => cases b <;> rfl
@[simp] theorem fIf_ap {t : TR} {fa fb : ER} : fIf t fa fb env st = (t env st).bind fun b s => if b = true then fa env s else fb env s := (rfl)
@[simp] theorem aNil_ap : aNil env st = .ok [] st := (rfl)
@[simp] theorem aCons_ap {f : ER} {as : AR} : aCons f as env st = (f env st).bind fun x s => (as env s).bind fun xs s2 => .ok (x :: xs) s2 := (rfl)
@[simp] theorem fTup_ap {as : AR} : fTup as env st = (as env st).bind fun xs s => if xs.length ≤ sizeLine then .ok (.tup xs) s else .bad := (rfl)
@[simp] theorem fLst_ap {as : AR} : fLst as env st = (as env st).bind fun xs s => if xs.length ≤ sizeLine then .ok (.lst xs) s else .bad := (rfl)
@[simp] theorem fCall_ap {F : CF} {as : AR} : fCall F as env st = (as env st).bind fun xs s => .opt (F s xs) s := (rfl)
def oStr (d : D) (k : Str → Out α) : Out α := match d with
  | .str z => k z
  | _ => .bad
@[simp] theorem oStr_str {z : Str} {k : Str → Out α} : oStr (.str z) k = k z := (rfl)
@[simp] theorem fMeth_ap {F : MF} {fo : ER} {as : AR} : fMeth F fo as env st = (fo env st).bind fun x s => oStr x fun z => (as env s).bind fun xs s2 => .opt (F z s2 xs) s2 := (rfl)
@[simp] theorem fMeth0_ap {F : MF} {fo : ER} : fMeth0 F fo env st = (fo env st).bind fun x s => oStr x fun z => .opt (F z s []) s := (rfl)
@[simp] theorem fFmtV_ap {f : ER} : fFmtV f env st = (f env st).bind fun x s => .opt (fmtD x) s := (rfl)
@[simp] theorem jNil_ap {acc : Str} : jNil env st acc = .ok acc st := (rfl)
@[simp] theorem jCons_ap {f : ER} {r : JR} {acc : Str} : jCons f r env st acc = (f env st).bind fun x s => oStr x fun y => if (acc ++ y).length ≤ sizeLine then r env s (acc ++ y) else .bad := (rfl)
@[simp] theorem fJoin_ap {r : JR} : fJoin r env st = (r env st Str.empty).bind fun y s => .ok (.str y) s := (rfl)
def oFld (o : Option (Str × List (Str × D))) (C x : Str) (s : Store) : Out D := match o with
  | some (y, fs) => if y = C then .opt (fs.lookup x) s else .bad
  | none => .bad
@[simp] theorem oFld_some {C x y : Str} {fs : List (Str × D)} : oFld (some (y, fs)) C x s = if y = C then .opt (fs.lookup x) s else .bad := (rfl)
@[simp] theorem fApp_ap {m : FnM} {as ks : AR} : fApp m as ks env st = (as env st).bind fun xs s => (ks env s).bind fun ys s2 => m (xs ++ ys) s2 := (rfl)
def oSelf {α : Type} (o : Option (Str × List (Str × D))) (C m : Str) (k : Out α) : Out α := match o with
  | some (y, fs) => if y = C ∧ fs.lookup m = none then k else .bad
  | none => .bad
@[simp] theorem oSelf_some {C m y : Str} {fs : List (Str × D)} {k : Out α} : oSelf (some (y, fs)) C m k = if y = C ∧ fs.lookup m = none then k else .bad := (rfl)
@[simp] theorem fMeK_ap {C m : Str} {fm : FnM} {fo : ER} {as bs : AR} : fMeK C m fm fo as bs env st = (fo env st).bind fun d s => oSelf (insOf s d) C m ((as env s).bind fun xs s2 => (bs env s2).bind fun ys s3 => fm (d :: (xs ++ ys)) s3) := (rfl)
def oProp (o : Option (Str × List (Str × D))) (C : Str) (k : Out D) : Out D := match o with
  | some (y, _) => if y = C then noexc k else .bad
  | none => .bad
@[simp] theorem oProp_some {C y : Str} {fs : List (Str × D)} {k : Out D} : oProp (some (y, fs)) C k = if y = C then noexc k else .bad := (rfl)
@[simp] theorem noexc_ok' {a : α} : noexc (.ok a s) = .ok a s := (rfl)
@[simp] theorem fProp_ap {C : Str} {fm : FnM} {fo : ER} : fProp C fm fo env st = (fo env st).bind fun d s => oProp (insOf s d) C (fm [d] s) := (rfl)
@[simp] theorem fReg_ap {f : FR} : fReg f env st = (f env st).bind fun cl s => .ok (.cell s.length) (s ++ [cl]) := (rfl)
@[simp] theorem frzF_ap {f : FR} : frzF f env st = (f env st).bind fun cl s => .ok (cellD cl) s := (rfl)
@[simp] theorem fSli_ap {fa : ER} {lo hi : OR} : fSli fa lo hi env st = (fa env st).bind fun x s1 => (lo env s1).bind fun l s2 => (hi env s2).bind fun u s3 => .opt (sliD s3 x l u) s3 := (rfl)
@[simp] theorem oNo_ap : oNo env st = .ok none st := (rfl)
@[simp] theorem oSome_ap {f : ER} : oSome f env st = (f env st).bind fun x s => oInt x s fun i => .ok (some i) s := (rfl)
@[simp] theorem kNil_ap : kNil env st = .ok [] st := (rfl)
def oKey {α : Type} (o : Option Key) (k : Key → Out α) : Out α := match o with
  | some y => k y
  | none => .bad
@[simp] theorem oKey_some {y : Key} {k : Key → Out α} : oKey (some y) k = k y := (rfl)
@[simp] theorem kCons_ap {fk fv : ER} {r : KR} : kCons fk fv r env st = (fk env st).bind fun x s => (fv env s).bind fun y s2 => oKey (keyOf x) fun k => (r env s2).bind fun ps s3 => .ok ((k, y) :: ps) s3 := (rfl)
@[simp] theorem fDsp_ap {r : KR} : fDsp r env st = (r env st).bind fun ps s => if ps.length ≤ 15 then .ok (.dct (mergeD [] ps)) s else .bad := (rfl)
@[simp] theorem keyOf_int {i : Int} : keyOf (.int i) = some (.inl i) := (rfl)
@[simp] theorem keyOf_str {x : Str} : keyOf (.str x) = some (.inr x) := (rfl)
@[simp] theorem fCatF_ap {fa : ER} {fb : FR} : fCatF fa fb env st = (fa env st).bind fun x s1 => (fb env s1).bind fun cl s2 => catC s2 x (cellD cl) := (rfl)
@[simp] theorem fCat_ap {fa fb : ER} : fCat fa fb env st = (fa env st).bind fun x s1 => (fb env s1).bind fun y s2 => catC s2 x y := (rfl)
@[simp] theorem catC_ll {xs ys : List D} : catC s (.lst xs) (.lst ys) = if xs.length + ys.length ≤ sizeLine then .ok (.lst (xs ++ ys)) s else .bad := (rfl)
@[simp] theorem fRep_ap {y z : Str} {fo : ER} : fRep y z fo env st = (fo env st).bind fun x s => oStr x fun a => if a.length + (a.length + 1) * z.length ≤ 16777216 then .ok (.str (Txt.replace a y z)) s else .bad := (rfl)
@[simp] theorem fRepN_ap {y z : Str} {k : Int} {fo : ER} : fRepN y z k fo env st = (fo env st).bind fun x s => oStr x fun a => if a.length + (a.length + 1) * z.length ≤ 16777216 ∧ limitOf a k ≤ a.length + 1 then .ok (.str (replaceN a y z k)) s else .bad := (rfl)
end
section
variable {Z : Sig} {env : DEnv} {st s : Store} {d : D} {i j n : Nat}
@[simp] theorem fFld_ap {C x : Str} {f : ER} : fFld C x f env st = (f env st).bind fun d s => oFld (insOf s d) C x s := (rfl)
/-! operators -/
@[simp] theorem bin_add : binD .Add = addD := (rfl)
@[simp] theorem bin_sub : binD .Sub = subD := (rfl)
@[simp] theorem bin_mul : binD .Mult = mulD := (rfl)
@[simp] theorem bin_div : binD .FloorDiv = divD := (rfl)
@[simp] theorem bin_mod : binD .Mod = modD := (rfl)
@[simp] theorem bin_pow : binD .Pow = powD := (rfl)
@[simp] theorem cmp_eq : cmpD .Eq = eqD := (rfl)
@[simp] theorem cmp_ne : cmpD .NotEq = neD := (rfl)
@[simp] theorem cmp_lt : cmpD .Lt = ltD := (rfl)
@[simp] theorem cmp_le : cmpD .LtE = leD := (rfl)
@[simp] theorem cmp_gt : cmpD .Gt = gtD := (rfl)
@[simp] theorem cmp_ge : cmpD .GtE = geD := (rfl)
@[simp] theorem cmp_in : cmpD .In = inD false := (rfl)
@[simp] theorem cmp_ni : cmpD .NotIn = inD true := (rfl)
@[simp] theorem cmp_is : cmpD .Is = isD false := (rfl)
@[simp] theorem cmp_isn : cmpD .IsNot = isD true := (rfl)
@[simp] theorem add_ii {a b : Int} : addD st (.int a) (.int b) = some (.int (a + b)) := (rfl)
@[simp] theorem add_ss {a b : Str} : addD st (.str a) (.str b) = if a.length + b.length ≤ sizeLine then some (.str (a ++ b)) else none := (rfl)
@[simp] theorem add_ll {a b : List D} : addD st (.lst a) (.lst b) = if a.length + b.length ≤ sizeLine then some (.lst (a ++ b)) else none := (rfl)
@[simp] theorem sub_ii {a b : Int} : subD st (.int a) (.int b) = some (.int (a - b)) := (rfl)
@[simp] theorem mul_ii {a b : Int} : mulD st (.int a) (.int b) = if ((decide (-(2 ^ 64) < a) && decide (a < 2 ^ 64)) || (decide (-(2 ^ 64) < b) && decide (b < 2 ^ 64))) = true then some (.int (a * b)) else none := (rfl)
@[simp] theorem div_ii {a b : Int} : divD st (.int a) (.int b) = if (decide (0 < b) && decide (b < 1073741824)) = true then some (.int (a / b)) else none := (rfl)
@[simp] theorem mod_ii {a b : Int} : modD st (.int a) (.int b) = if (decide (0 < b)) = true then some (.int (a % b)) else none := (rfl)
@[simp] theorem pow_ii {a b : Int} : powD st (.int a) (.int b) = if (decide (0 ≤ b) && decide (b ≤ 1000000) && decide (a.natAbs < 2 ^ 64)) = true then some (.int (a ^ b.toNat)) else none := (rfl)
@[simp] theorem lt_ii {a b : Int} : ltD st (.int a) (.int b) = some (.bl (decide (a < b))) := (rfl)
@[simp] theorem le_ii {a b : Int} : leD st (.int a) (.int b) = some (.bl (decide (a ≤ b))) := (rfl)
@[simp] theorem gt_ii {a b : Int} : gtD st (.int a) (.int b) = some (.bl (decide (b < a))) := (rfl)
@[simp] theorem ge_ii {a b : Int} : geD st (.int a) (.int b) = some (.bl (decide (b ≤ a))) := (rfl)
@[simp] theorem eq_ii {a b : Int} : eqD st (.int a) (.int b) = some (.bl (decide (a = b))) := (rfl)
@[simp] theorem eq_ss {a b : Str} : eqD st (.str a) (.str b) = some (.bl (decide (a = b))) := (rfl)
@[simp] theorem ne_ii {a b : Int} : neD st (.int a) (.int b) = some (.bl (!decide (a = b))) := (rfl)
@[simp] theorem ne_ss {a b : Str} : neD st (.str a) (.str b) = some (.bl (!decide (a = b))) := (rfl)
@[simp] theorem is_non : isD false st .non .non = some (.bl true) := (rfl)
@[simp] theorem is_int {i : Int} : isD false st (.int i) .non = some (.bl false) := (rfl)
@[simp] theorem is_str {i : Str} : isD false st (.str i) .non = some (.bl false) := (rfl)
@[simp] theorem is_lst {i : List D} : isD false st (.lst i) .non = some (.bl false) := (rfl)
@[simp] theorem is_obj {c : Str} {fs : List (Str × D)} : isD false st (.obj c fs) .non = some (.bl false) := (rfl)
@[simp] theorem isn_non : isD true st .non .non = some (.bl false) := (rfl)
@[simp] theorem isn_lst {i : List D} : isD true st (.lst i) .non = some (.bl true) := (rfl)
@[simp] theorem isn_int {i : Int} : isD true st (.int i) .non = some (.bl true) := (rfl)
@[simp] theorem isn_str {i : Str} : isD true st (.str i) .non = some (.bl true) := (rfl)
@[simp] theorem tru_bl {b : Bool} : truD st (.bl b) = some b := (rfl)
@[simp] theorem tru_non : truD st .non = some false := (rfl)
@[simp] theorem tru_int {i : Int} : truD st (.int i) = some (i != 0) := (rfl)
@[simp] theorem tru_lst {xs : List D} : truD st (.lst xs) = some (!xs.isEmpty) := (rfl)
@[simp] theorem tru_tup {xs : List D} : truD st (.tup xs) = some (!xs.isEmpty) := (rfl)
/-! patterns -/
def oPats (o : Option (List D)) (ps : Pats) (st : Store) (env : DEnv) : Option DEnv := match o with
  | some ds => bindPs ps ds st env
  | none => none
@[simp] theorem bp_v : bindP (.v i) d st env = some (env.set i (.val d)) := by simp [bindP]
@[simp] theorem bp_t {ps : Pats} : bindP (.t ps) d st env = oPats (seqOf st d) ps st env := by
  simp only [bindP, oPats] <;> rfl
@[simp] theorem oPats_some {ds : List D} {ps : Pats} : oPats (some ds) ps st env = bindPs ps ds st env := (rfl)
@[simp] theorem bps_nil : bindPs .nil [] st env = some env := by simp [bindPs]
def oPat (o : Option DEnv) (ps : Pats) (ds : List D) (st : Store) : Option DEnv := match o with
  | some e => bindPs ps ds st e
  | none => none
@[simp] theorem bps_cons {p : Pat} {ps : Pats} {ds : List D} : bindPs (.cons p ps) (d :: ds) st env = oPat (bindP p d st env) ps ds st := by
  simp only [bindPs, oPat] <;> rfl
@[simp] theorem oPat_some {e : DEnv} {ps : Pats} {ds : List D} : oPat (some e) ps ds st = bindPs ps ds st e := (rfl)
end
end DL
end
section
set_option Elab.async false
set_option linter.all false
set_option maxRecDepth 100000
set_option autoImplicit false
/-! texts of contents: the mathematics, no program in sight -/
namespace MM
open PySem SX DL
abbrev Tx := List Nat
/-- the text of these signs -/
def U (l : Tx) : Str := ⟨l.toArray⟩
theorem U_S (l : Tx) : U l = SX.S l := rfl
/-! ### words, order -/
def digB (c : Nat) : Bool := decide (48 ≤ c) && decide (c ≤ 57)
def numV (w : Tx) : Option Nat := if w.head? = some 45 then none else if 1 ≤ w.length ∧ w.length ≤ 60 ∧ w.all digB = true ∧ ¬ (w.head? = some 48 ∧ w ≠ [48]) then some (NumText.digitsVal w) else none
def lowB (c : Nat) : Bool := decide (97 ≤ c) && decide (c ≤ 122)
def wordB (t : Tx) : Bool := decide (1 ≤ t.length) && (decide (t.length ≤ 8) && t.all lowB)
theorem word_iff {t : Tx} : wordB t = true ↔ (1 ≤ t.length ∧ t.length ≤ 8) ∧ ∀ c ∈ t, 97 ≤ c ∧ c ≤ 122 := by
  simp [wordB, lowB, and_assoc]
theorem word_not {t : Tx} {c : Nat} (h : wordB t = true) (hc : c < 97 ∨ 122 < c) : c ∉ t := fun hm => by
  have := (word_iff.mp h).2 c hm
  omega
def sortL (l : List Tx) : List Tx := l.mergeSort fun a b => !decide (b < a)
theorem tl_S (a : Tx) : (U a).cps.toList = a := rfl
theorem ltS_S (a b : Tx) : ltS (U a) (U b) = decide (a < b) := rfl
theorem leL_trans (a b c : Tx) (h1 : (!decide (b < a)) = true) (h2 : (!decide (c < b)) = true) : (!decide (c < a)) = true := by
  simp only [Bool.not_eq_true', decide_eq_false_iff_not] at *
  exact List.not_lt.mpr (List.le_trans (List.not_lt.mp h1) (List.not_lt.mp h2))
theorem leL_total (a b : Tx) : ((!decide (b < a)) || (!decide (a < b))) = true := by
  rcases List.le_total a b with h | h
  · have e : ¬ b < a := List.not_lt.mpr h
    simp [e]
  · have e : ¬ a < b := List.not_lt.mpr h
    simp [e]
theorem leL_antisymm {a b : Tx} (h1 : (!decide (b < a)) = true) (h2 : (!decide (a < b)) = true) : a = b := by
  simp only [Bool.not_eq_true', decide_eq_false_iff_not] at h1 h2
  exact List.le_antisymm (List.not_lt.mp h1) (List.not_lt.mp h2)
theorem sortL_sorted (l : List Tx) : (sortL l).Pairwise fun a b => (!decide (b < a)) = true := List.pairwise_mergeSort leL_trans leL_total l
theorem sortL_perm (l : List Tx) : (sortL l).Perm l := List.mergeSort_perm l _
theorem sortL_uniq {ys xs : List Tx} (h1 : ys.Perm xs) (h2 : ys.Pairwise fun a b => (!decide (b < a)) = true) : ys = sortL xs :=
  (h1.trans (sortL_perm xs).symm).eq_of_pairwise (fun _ _ _ _ h h' => leL_antisymm h h') h2 (sortL_sorted xs)
theorem sortS_map (l : List Tx) : sortS (l.map U) = (sortL l).map U := by
  refine (sorted_uniqS ((sortL_perm l).map U) ?_).symm
  rw [List.pairwise_map]
  exact (sortL_sorted l).imp fun h => h
theorem sortL_len (l : List Tx) : (sortL l).length = l.length := (sortL_perm l).length_eq
theorem sortL_mem {l : List Tx} {t : Tx} : t ∈ sortL l ↔ t ∈ l := (sortL_perm l).mem_iff
/-- strictly ascending -/
def ascB : List Tx → Bool
  | [] => true
  | [_] => true
  | a :: b :: r => decide (a < b) && ascB (b :: r)
theorem asc_tail {a : Tx} {l : List Tx} (h : ascB (a :: l) = true) : ascB l = true := by
  cases l with
  | nil => rfl
  | cons b r => unfold ascB at h; rw [Bool.and_eq_true] at h; exact h.2
theorem asc_pairwise : ∀ {l : List Tx}, ascB l = true → l.Pairwise (· < ·)
  | [], _ => .nil
  | [a], _ => by simp
  | a :: b :: r, h => by
    have h0 := h
    unfold ascB at h
    rw [Bool.and_eq_true, decide_eq_true_eq] at h
    have ih := asc_pairwise (l := b :: r) h.2
    refine List.pairwise_cons.mpr ⟨fun x hx => ?_, ih⟩
    rcases List.mem_cons.mp hx with rfl | hx
    · exact h.1
    · exact List.lt_trans h.1 ((List.pairwise_cons.mp ih).1 x hx)
theorem pairwise_asc : ∀ {l : List Tx}, l.Pairwise (· < ·) → ascB l = true
  | [], _ => rfl
  | [a], _ => rfl
  | a :: b :: r, h => by
    unfold ascB
    have h1 := List.pairwise_cons.mp h
    rw [Bool.and_eq_true, decide_eq_true_eq]
    exact ⟨h1.1 b List.mem_cons_self, pairwise_asc h1.2⟩
theorem asc_sort {l : List Tx} (h : ascB l = true) : sortL l = l :=
  (sortL_uniq (List.Perm.refl l) ((asc_pairwise h).imp fun {a b} h => by
    have : ¬ b < a := fun z => List.lt_irrefl _ (List.lt_trans h z)
    simp [this])).symm
theorem lt_of_le_ne {a b : Tx} (h : ¬ b < a) (hn : a ≠ b) : a < b := by
  rcases Decidable.em (a < b) with h' | h'
  · exact h'
  · exact absurd (List.le_antisymm (List.not_lt.mp h) (List.not_lt.mp h')) hn
theorem sort_asc {l : List Tx} (h : l.Nodup) : ascB (sortL l) = true := by
  refine pairwise_asc ?_
  have nd : (sortL l).Nodup := (sortL_perm l).nodup_iff.mpr h
  have h2 := sortL_sorted l
  refine (List.pairwise_and_iff.mpr ⟨h2, nd⟩).imp fun {a b} z => ?_
  have z1 : ¬ b < a := by simpa using z.1
  exact lt_of_le_ne z1 z.2
theorem asc_nodup {l : List Tx} (h : ascB l = true) : l.Nodup := (asc_pairwise h).imp fun {a b} z e => by subst e; exact List.lt_irrefl _ z
/-! ### cutting at one sign -/
def sp (c : Nat) : Tx → List Tx
  | [] => [[]]
  | x :: r => if x = c then [] :: sp c r else match sp c r with
    | [] => [[x]]
    | h :: t => (x :: h) :: t
theorem sp_ne (c : Nat) : ∀ t : Tx, sp c t ≠ []
  | [] => by simp [sp]
  | x :: r => by
    unfold sp
    split
    · simp
    · split <;> simp
theorem spl_sp (c : Nat) : ∀ (t acc : Tx), TL.spl [c] 0 acc t = (match sp c t with
  | [] => [acc]
  | h :: r => (acc ++ h) :: r)
  | [], acc => by simp [sp, TL.spl_nil]
  | x :: r, acc => by
    by_cases hx : x = c
    · subst hx
      have hp : TL.pre [x] (x :: r) = true := by simp [TL.pre]
      rw [TL.spl_hit hp]
      have e : sp x (x :: r) = [] :: sp x r := by simp [sp]
      rw [e]
      show acc :: TL.spl [x] ([x].length - 1) [] r = (acc ++ []) :: sp x r
      have ih := spl_sp x r []
      have e2 : ([x] : List Nat).length - 1 = 0 := rfl
      rw [e2, ih, List.append_nil]
      cases h : sp x r with
      | nil => exact absurd h (sp_ne x r)
      | cons a b => simp
    · have hp : TL.pre [c] (x :: r) = false := by simp [TL.pre, hx]
      rw [TL.spl_miss hp, spl_sp c r (acc ++ [x])]
      have e : sp c (x :: r) = (match sp c r with | [] => [[x]] | h :: t => (x :: h) :: t) := by simp [sp, hx]
      rw [e]
      cases h : sp c r with
      | nil => exact absurd h (sp_ne c r)
      | cons a b => simp
theorem split1 (c : Nat) (t : Tx) : TL.spl [c] 0 [] t = sp c t := by
  rw [spl_sp]
  cases h : sp c t with
  | nil => exact absurd h (sp_ne c t)
  | cons a b => simp
theorem sp_free {c : Nat} : ∀ {t : Tx}, c ∉ t → sp c t = [t]
  | [], _ => rfl
  | x :: r, h => by
    have h1 : x ≠ c := fun e => h (by rw [e]; exact List.mem_cons_self)
    have ih := sp_free (c := c) (t := r) fun z => h (List.mem_cons_of_mem _ z)
    simp [sp, h1, ih]
theorem sp_cons (c : Nat) (t : Tx) : sp c (c :: t) = [] :: sp c t := by simp [sp]
theorem sp_app (c : Nat) : ∀ (a b : Tx), sp c (a ++ c :: b) = sp c a ++ sp c b
  | [], b => by simp [sp]
  | x :: r, b => by
    have ih := sp_app c r b
    by_cases hx : x = c
    · simp [sp, hx, ih]
    · simp only [List.cons_append, sp, if_neg hx, ih]
      cases h : sp c r with
      | nil => exact absurd h (sp_ne c r)
      | cons a b => simp
/-- a part without the sign, glued on -/
theorem sp_join {c : Nat} : ∀ {l : List Tx}, l ≠ [] → (∀ t ∈ l, c ∉ t) → sp c (TL.joinL [c] l) = l
  | [], h, _ => absurd rfl h
  | [t], _, h => sp_free (h t List.mem_cons_self)
  | t :: u :: r, _, h => by
    have ih := sp_join (c := c) (l := u :: r) (by simp) fun x hx => h x (List.mem_cons_of_mem _ hx)
    show sp c (t ++ ([c] ++ TL.joinL [c] (u :: r))) = _
    rw [show t ++ ([c] ++ TL.joinL [c] (u :: r)) = t ++ c :: TL.joinL [c] (u :: r) from rfl, sp_app, ih, sp_free (h t List.mem_cons_self)]
    rfl
theorem join_sp (c : Nat) : ∀ t : Tx, TL.joinL [c] (sp c t) = t
  | [] => rfl
  | x :: r => by
    have ih := join_sp c r
    by_cases hx : x = c
    · subst hx
      simp only [sp, if_pos]
      cases h : sp x r with
      | nil => exact absurd h (sp_ne x r)
      | cons a b =>
        rw [h] at ih
        show [] ++ ([x] ++ TL.joinL [x] (a :: b)) = _
        rw [ih]; rfl
    · simp only [sp, if_neg hx]
      cases h : sp c r with
      | nil => exact absurd h (sp_ne c r)
      | cons a b =>
        rw [h] at ih
        cases b with
        | nil => exact congrArg (x :: ·) ih
        | cons b1 b2 =>
          show (x :: a) ++ ([c] ++ TL.joinL [c] (b1 :: b2)) = _
          have ih : a ++ ([c] ++ TL.joinL [c] (b1 :: b2)) = r := ih
          rw [List.cons_append, ih]
/-! ### contents -/
structure Con where
  roles : List (Tx × List Tx × Tx)
  vouch : List Tx
  need : Nat
  sign : List Tx
def keysOk (m : Nat) (l : List Tx) : Bool := decide (l.length ≤ m) && (l.all wordB && decide l.Nodup)
def rawOk (c : Con) : Bool := decide (1 ≤ c.roles.length) && (decide (c.roles.length ≤ 3) && (c.roles.all (fun r => wordB r.1 && (keysOk 8 r.2.1 && wordB r.2.2)) && (keysOk 4 c.vouch && (decide (c.need ≤ 4) && keysOk 4 c.sign))))
/-- the roles have different names -/
def RNd (c : Con) : Prop := (c.roles.map (·.1)).Nodup
def rowLe (a b : Tx × List Tx × Tx) : Bool := !decide (b.1 < a.1)
def sortR (l : List (Tx × List Tx × Tx)) : List (Tx × List Tx × Tx) := l.mergeSort rowLe
def Con.sorted (c : Con) : Con := ⟨(sortR c.roles).map fun r => (r.1, sortL r.2.1, r.2.2), sortL c.vouch, c.need, sortL c.sign⟩
def canon (c : Con) : Prop := rawOk c = true ∧ ascB (c.roles.map (·.1)) = true ∧ (∀ r ∈ c.roles, ascB r.2.1 = true) ∧ ascB c.vouch = true ∧ ascB c.sign = true
theorem sortR_perm (l : List (Tx × List Tx × Tx)) : (sortR l).Perm l := List.mergeSort_perm l _
theorem sortR_fst (l : List (Tx × List Tx × Tx)) : (sortR l).map (·.1) = sortL (l.map (·.1)) := by
  refine sortL_uniq ((sortR_perm l).map _) ?_
  rw [List.pairwise_map]
  exact List.pairwise_mergeSort (le := rowLe) (fun a b c => leL_trans a.1 b.1 c.1) (fun a b => leL_total a.1 b.1) l
theorem keysOk_sort {m : Nat} {l : List Tx} (h : keysOk m l = true) : keysOk m (sortL l) = true ∧ ascB (sortL l) = true := by
  simp only [keysOk, Bool.and_eq_true, decide_eq_true_eq, List.all_eq_true] at h ⊢
  refine ⟨⟨by rw [sortL_len]; exact h.1, fun t ht => h.2.1 t (sortL_mem.mp ht), (sortL_perm l).nodup_iff.mpr h.2.2⟩, sort_asc h.2.2⟩
theorem canon_sorted {c : Con} (h : rawOk c = true) (nd : RNd c) : canon c.sorted := by
  simp only [rawOk, Bool.and_eq_true, decide_eq_true_eq, List.all_eq_true] at h
  obtain ⟨h1, h2, h3, h4, h5, h6⟩ := h
  have hl : (sortR c.roles).length = c.roles.length := (sortR_perm _).length_eq
  refine ⟨?_, ?_, ?_, (keysOk_sort h4).2, (keysOk_sort h6).2⟩
  · simp only [rawOk, Con.sorted, Bool.and_eq_true, decide_eq_true_eq, List.all_eq_true, List.length_map, hl]
    refine ⟨h1, h2, fun r hr => ?_, (keysOk_sort h4).1, decide_eq_true h5, (keysOk_sort h6).1⟩
    obtain ⟨r0, hr0, rfl⟩ := List.mem_map.mp hr
    have := h3 r0 ((sortR_perm _).mem_iff.mp hr0)
    exact ⟨this.1, (keysOk_sort this.2.1).1, this.2.2⟩
  · show ascB (((sortR c.roles).map fun r => (r.1, sortL r.2.1, r.2.2)).map (·.1)) = true
    rw [List.map_map]
    show ascB ((sortR c.roles).map (·.1)) = true
    rw [sortR_fst]
    exact sort_asc nd
  · intro r hr
    obtain ⟨r0, hr0, rfl⟩ := List.mem_map.mp hr
    have := h3 r0 ((sortR_perm _).mem_iff.mp hr0)
    exact (keysOk_sort this.2.1).2
/-! ### the text -/
def fk (l : List Tx) : Tx := if l = [] then [45] else TL.joinL [44] l
def rowsT : List (Tx × List Tx × Tx) → List Tx
  | [] => []
  | [r] => [r.1, fk r.2.1, r.2.2]
  | r :: s :: rs => r.1 :: fk r.2.1 :: r.2.2 :: [47] :: rowsT (s :: rs)
def tailT (c : Con) : List Tx := [fk c.vouch, TL.numL c.need, fk c.sign]
def toks (c : Con) : List Tx := rowsT c.roles ++ [124] :: tailT c
def fmt (c : Con) : Tx := TL.joinL [32] (toks c)
def keysB (m : Nat) (t : Tx) : Bool := decide (t = [45]) || (decide ((sp 44 t).length ≤ m) && ((sp 44 t).all wordB && ascB (sp 44 t)))
def numB (t : Tx) : Bool := decide (t = [48]) || (decide (t = [49]) || (decide (t = [50]) || (decide (t = [51]) || decide (t = [52]))))
def tailB : List Tx → Bool
  | [v, n, s] => keysB 4 v && (numB n && keysB 4 s)
  | _ => false
def prevB (prev : Option Tx) (r : Tx) : Bool := match prev with
  | some p => decide (p < r)
  | none => true
def canB : Nat → Option Tx → List Tx → Bool
  | n + 1, prev, r :: k :: u :: se :: rest => wordB r && (prevB prev r && (keysB 8 k && (wordB u && (if se = [47] then canB n (some r) rest else decide (se = [124]) && tailB rest))))
  | _, _, _ => false
theorem keysB_fk {m : Nat} {l : List Tx} (h : keysOk m l = true) (ha : ascB l = true) : keysB m (fk l) = true := by
  simp only [keysOk, Bool.and_eq_true, decide_eq_true_eq, List.all_eq_true] at h
  unfold keysB fk
  by_cases hl : l = []
  · simp [hl]
  · rw [if_neg hl]
    have e : sp 44 (TL.joinL [44] l) = l := sp_join hl fun t ht => word_not (h.2.1 t ht) (by omega)
    rw [e]
    simp only [Bool.or_eq_true, Bool.and_eq_true, decide_eq_true_eq, List.all_eq_true]
    exact .inr ⟨h.1, h.2.1, ha⟩
theorem numB_num {n : Nat} (h : n ≤ 4) : numB (TL.numL n) = true := by
  rw [TL.numL_lt (by omega)]
  have : n = 0 ∨ n = 1 ∨ n = 2 ∨ n = 3 ∨ n = 4 := by omega
  rcases this with rfl | rfl | rfl | rfl | rfl <;> rfl
theorem tailB_tail {c : Con} (h : canon c) : tailB (tailT c) = true := by
  obtain ⟨h0, h1, h2, h3, h4⟩ := h
  simp only [rawOk, Bool.and_eq_true, decide_eq_true_eq, List.all_eq_true] at h0
  obtain ⟨a1, a2, a3, a4, a5, a6⟩ := h0
  show (keysB 4 (fk c.vouch) && (numB (TL.numL c.need) && keysB 4 (fk c.sign))) = true
  rw [keysB_fk a4 h3, keysB_fk a6 h4, numB_num a5]; rfl
theorem rows_can {tl : List Tx} (ht : tailB tl = true) : ∀ (l : List (Tx × List Tx × Tx)) (n : Nat) (prev : Option Tx), l ≠ [] → l.length ≤ n → (∀ r ∈ l, wordB r.1 = true ∧ keysOk 8 r.2.1 = true ∧ wordB r.2.2 = true ∧ ascB r.2.1 = true) → ascB (l.map (·.1)) = true →
    (∀ p, prev = some p → ∀ r, l.head? = some r → p < r.1) → canB n prev (rowsT l ++ [124] :: tl) = true
  | [], _, _, h, _, _, _, _ => absurd rfl h
  | [r], n, prev, _, hn, hr, _, hp => by
    obtain ⟨m, rfl⟩ : ∃ m, n = m + 1 := ⟨n - 1, by simp at hn; omega⟩
    obtain ⟨w1, w2, w3, w4⟩ := hr r List.mem_cons_self
    have hpp : prevB prev r.1 = true := by
      cases prev with
      | none => rfl
      | some p => exact decide_eq_true (hp p rfl r rfl)
    simp [rowsT, canB, w1, keysB_fk w2 w4, w3, ht, hpp]
  | r :: s :: rs, n, prev, _, hn, hr, ha, hp => by
    obtain ⟨m, rfl⟩ : ∃ m, n = m + 1 := ⟨n - 1, by simp at hn; omega⟩
    obtain ⟨w1, w2, w3, w4⟩ := hr r List.mem_cons_self
    have hpp : prevB prev r.1 = true := by
      cases prev with
      | none => rfl
      | some p => exact decide_eq_true (hp p rfl r rfl)
    have ha2 : ascB (r.1 :: s.1 :: rs.map (·.1)) = true := ha
    have hlt : r.1 < s.1 := by
      unfold ascB at ha2
      rw [Bool.and_eq_true, decide_eq_true_eq] at ha2
      exact ha2.1
    have ih := rows_can ht (s :: rs) m (some r.1) (by simp) (by simp at hn ⊢; omega) (fun x hx => hr x (List.mem_cons_of_mem _ hx)) (asc_tail ha) (fun p e x hx => by cases e; cases hx; exact hlt)
    simp [rowsT, canB, w1, keysB_fk w2 w4, w3, ih, hpp]
theorem can_toks {c : Con} (h : canon c) : canB 3 none (toks c) = true := by
  have h0 := h
  obtain ⟨h1, h2, h3, h4, h5⟩ := h
  simp only [rawOk, Bool.and_eq_true, decide_eq_true_eq, List.all_eq_true] at h1
  obtain ⟨a1, a2, a3, a4, a5, a6⟩ := h1
  refine rows_can (tailB_tail h0) c.roles 3 none (fun e => by rw [e] at a1; simp at a1) a2 (fun r hr => ?_) h2 (fun p e => by cases e)
  exact ⟨(a3 r hr).1, (a3 r hr).2.1, (a3 r hr).2.2, h3 r hr⟩
/-! no blank in a token -/
def pl (t : Tx) : Prop := ∀ c ∈ t, c = 44 ∨ c = 45 ∨ c = 47 ∨ c = 124 ∨ (48 ≤ c ∧ c ≤ 52) ∨ (97 ≤ c ∧ c ≤ 122)
theorem mem_join {s : Tx} {c : Nat} : ∀ {l : List Tx}, c ∈ TL.joinL s l → c ∈ s ∨ ∃ t ∈ l, c ∈ t
  | [], h => by simp [TL.joinL] at h
  | [t], h => .inr ⟨t, List.mem_cons_self, h⟩
  | t :: u :: r, h => by
    have h : c ∈ t ++ (s ++ TL.joinL s (u :: r)) := h
    rcases List.mem_append.mp h with h | h
    · exact .inr ⟨t, List.mem_cons_self, h⟩
    · rcases List.mem_append.mp h with h | h
      · exact .inl h
      · rcases mem_join h with h | ⟨x, hx, hc⟩
        · exact .inl h
        · exact .inr ⟨x, List.mem_cons_of_mem _ hx, hc⟩
theorem word_pl {t : Tx} (h : wordB t = true) : pl t := fun c hc => by have := (word_iff.mp h).2 c hc; omega
/-- letters, commas, a minus -/
def kp (t : Tx) : Prop := ∀ c ∈ t, c = 44 ∨ c = 45 ∨ (97 ≤ c ∧ c ≤ 122)
theorem fk_kp {l : List Tx} (h : ∀ t ∈ l, wordB t = true) : kp (fk l) := fun c hc => by
  unfold fk at hc
  split at hc
  · simp at hc; omega
  · rcases mem_join hc with hc | ⟨t, ht, hc⟩
    · simp at hc; omega
    · have := (word_iff.mp (h t ht)).2 c hc; omega
theorem fk_pl {l : List Tx} (h : ∀ t ∈ l, wordB t = true) : pl (fk l) := fun c hc => by have := fk_kp h c hc; omega
theorem keysOk_words {m : Nat} {l : List Tx} (h : keysOk m l = true) : ∀ t ∈ l, wordB t = true := by
  simp only [keysOk, Bool.and_eq_true, List.all_eq_true] at h
  exact h.2.1
theorem num_pl {n : Nat} (h : n ≤ 4) : pl (TL.numL n) := by
  rw [TL.numL_lt (by omega)]
  intro c hc
  simp at hc
  omega
theorem rows_pl : ∀ {l : List (Tx × List Tx × Tx)}, (∀ r ∈ l, wordB r.1 = true ∧ keysOk 8 r.2.1 = true ∧ wordB r.2.2 = true) → ∀ t ∈ rowsT l, pl t
  | [], _, t, ht => by simp [rowsT] at ht
  | [r], h, t, ht => by
    obtain ⟨w1, w2, w3⟩ := h r List.mem_cons_self
    simp [rowsT] at ht
    rcases ht with rfl | rfl | rfl
    · exact word_pl w1
    · exact fk_pl (keysOk_words w2)
    · exact word_pl w3
  | r :: s :: rs, h, t, ht => by
    obtain ⟨w1, w2, w3⟩ := h r List.mem_cons_self
    simp only [rowsT, List.mem_cons] at ht
    rcases ht with rfl | rfl | rfl | rfl | ht
    · exact word_pl w1
    · exact fk_pl (keysOk_words w2)
    · exact word_pl w3
    · intro c hc; simp at hc; omega
    · exact rows_pl (fun x hx => h x (List.mem_cons_of_mem _ hx)) t ht
theorem raw_roles {c : Con} (h : rawOk c = true) : ∀ r ∈ c.roles, wordB r.1 = true ∧ keysOk 8 r.2.1 = true ∧ wordB r.2.2 = true := by
  simp only [rawOk, Bool.and_eq_true, decide_eq_true_eq, List.all_eq_true] at h
  exact h.2.2.1
theorem tail_pl {c : Con} (h : rawOk c = true) : ∀ t ∈ tailT c, pl t := by
  simp only [rawOk, Bool.and_eq_true, decide_eq_true_eq, List.all_eq_true] at h
  obtain ⟨a1, a2, a3, a4, a5, a6⟩ := h
  intro t ht
  simp [tailT] at ht
  rcases ht with rfl | rfl | rfl
  · exact fk_pl (keysOk_words a4)
  · exact num_pl a5
  · exact fk_pl (keysOk_words a6)
theorem toks_pl {c : Con} (h : rawOk c = true) : ∀ t ∈ toks c, pl t := by
  intro t ht
  unfold toks at ht
  rcases List.mem_append.mp ht with ht | ht
  · exact rows_pl (raw_roles h) t ht
  · rcases List.mem_cons.mp ht with rfl | ht
    · intro c hc; simp at hc; omega
    · exact tail_pl h t ht
theorem pl_no {t : Tx} (h : pl t) : 32 ∉ t := fun hc => by have := h 32 hc; omega
theorem toks_ne (c : Con) : toks c ≠ [] := by simp [toks]
theorem sp_fmt {c : Con} (h : rawOk c = true) : sp 32 (fmt c) = toks c := sp_join (toks_ne c) fun t ht => pl_no (toks_pl h t ht)
theorem can_fmt {c : Con} (h : canon c) : canB 3 none (sp 32 (fmt c)) = true := by rw [sp_fmt h.1]; exact can_toks h
end MM
end
section
set_option Elab.async false
set_option linter.all false
set_option maxRecDepth 100000
set_option autoImplicit false
/-! DL: rules about texts, lists, dicts for simp -/
namespace MM
open PySem PySem.Spec L2 DL
@[simp] theorem sizeL : sizeLine = 16777216 := sizeLine_eq
@[simp] theorem U_app (a b : Tx) : U a ++ U b = U (a ++ b) := SX.S_cat a b
@[simp] theorem U_length (a : Tx) : (U a).length = a.length := SX.S_len a
@[simp] theorem U_eq {a b : Tx} : (U a = U b) ↔ a = b := ⟨SX.S_inj, fun h => by rw [h]⟩
theorem str_em : Str.empty = U [] := rfl
@[simp] theorem em_app (a : Tx) : Str.empty ++ U a = U a := by rw [str_em, U_app]; rfl
theorem S_mk (c : Nat) : (⟨#[c]⟩ : Str) = U [c] := rfl
/-- a list of texts -/
def strL (l : List Tx) : List D := l.map fun t => .str (U t)
@[simp] theorem strL_nil : strL [] = [] := (rfl)
@[simp] theorem strL_cons (t : Tx) (l : List Tx) : strL (t :: l) = .str (U t) :: strL l := (rfl)
@[simp] theorem strL_len (l : List Tx) : (strL l).length = l.length := by simp [strL]
theorem strL_app (a b : List Tx) : strL (a ++ b) = strL a ++ strL b := by simp [strL]
@[simp] theorem strsOf_strL (l : List Tx) : strsOf (strL l) = some (l.map U) := by
  have e : strL l = (l.map U).map D.str := by simp [strL, List.map_map, Function.comp_def]
  rw [e, strsOf_map]
theorem strL_map (l : List Tx) : (l.map U).map D.str = strL l := by simp [strL, List.map_map, Function.comp_def]
@[simp] theorem lens_S (l : List Tx) : (l.map U).map (·.length) = l.map (·.length) := SX.lens l
section
variable {st : Store} {d : D} {i : Nat}
/-! sequences -/
@[simp] theorem lst_lst {xs : List D} : lstOf st (.lst xs) = some xs := (rfl)
@[simp] theorem lst_tup {xs : List D} : lstOf st (.tup xs) = none := (rfl)
@[simp] theorem lst_dct {xs : List (Key × D)} : lstOf st (.dct xs) = none := (rfl)
@[simp] theorem lst_str {x : Str} : lstOf st (.str x) = none := (rfl)
@[simp] theorem seq_dct {xs : List (Key × D)} : seqOf st (.dct xs) = none := (rfl)
@[simp] theorem dct_dct {xs : List (Key × D)} : dctOf st (.dct xs) = some xs := (rfl)
@[simp] theorem ins_obj {c : Str} {fs : List (Str × D)} : insOf st (.obj c fs) = some (c, fs) := (rfl)
@[simp] theorem len_str {z : Str} : lenF st [.str z] = if z.length ≤ sizeLine then some (.int z.length) else none := (rfl)
@[simp] theorem len_lst {xs : List D} : lenF st [.lst xs] = some (.int xs.length) := (rfl)
@[simp] theorem len_tup {xs : List D} : lenF st [.tup xs] = some (.int xs.length) := (rfl)
@[simp] theorem len_dct {xs : List (Key × D)} : lenF st [.dct xs] = some (.int xs.length) := (rfl)
@[simp] theorem len_scr {xs : List Int} : lenF st [.scr xs] = some (.int xs.length) := by simp [lenF, seqOf]
@[simp] theorem tup_lst {xs : List D} : tupleF st [.lst xs] = some (.tup xs) := (rfl)
@[simp] theorem tup_tup {xs : List D} : tupleF st [.tup xs] = some (.tup xs) := (rfl)
@[simp] theorem list_lst {xs : List D} : listF st [.lst xs] = some (.lst xs) := (rfl)
@[simp] theorem list_tup {xs : List D} : listF st [.tup xs] = some (.lst xs) := (rfl)
@[simp] theorem list_dct {xs : List (Key × D)} : listF st [.dct xs] = some (.lst (xs.map fun kv => keyD kv.1)) := (rfl)
theorem all_bls {bs : List Bool} : allF st [.lst (bs.map .bl)] = some (.bl (bs.all id)) := by
  simp [allF, alF]
theorem any_bls {bs : List Bool} : anyF st [.lst (bs.map .bl)] = some (.bl (bs.any id)) := by
  simp [anyF, alF]
theorem all_map {α : Type} {l : List α} {f : α → Bool} : allF st [.lst (l.map fun x => .bl (f x))] = some (.bl (l.all f)) := by
  have e : (l.map fun x => D.bl (f x)) = (l.map f).map D.bl := by rw [List.map_map]; rfl
  rw [e, all_bls]
  simp [List.all_map, Function.comp_def]
@[simp] theorem atI_0 {α : Type} {a : α} {l : List α} : atI (a :: l) 0 = some a := atI_nat (xs := a :: l) (j := 0) rfl
@[simp] theorem atI_1 {α : Type} {a b : α} {l : List α} : atI (a :: b :: l) 1 = some b := atI_nat (xs := a :: b :: l) (j := 1) rfl
@[simp] theorem atI_2 {α : Type} {a b c : α} {l : List α} : atI (a :: b :: c :: l) 2 = some c := atI_nat (xs := a :: b :: c :: l) (j := 2) rfl
@[simp] theorem atI_3 {α : Type} {a b c d : α} {l : List α} : atI (a :: b :: c :: d :: l) 3 = some d := atI_nat (xs := a :: b :: c :: d :: l) (j := 3) rfl
@[simp] theorem subs_lst {xs : List D} {k : Int} : subsD st (.lst xs) (.int k) = atI xs k := (rfl)
@[simp] theorem subs_tup {xs : List D} {k : Int} : subsD st (.tup xs) (.int k) = atI xs k := (rfl)
@[simp] theorem subs_scr {xs : List Int} {k : Int} : subsD st (.scr xs) (.int k) = atI (xs.map D.int) k := (rfl)
@[simp] theorem subs_dct {ks : List (Key × D)} {x : Str} : subsD st (.dct ks) (.str x) = valD ks (.inr x) := (rfl)
theorem subs_str {z : Tx} {k : Int} (h : z.length ≤ 16777216) : subsD st (.str (U z)) (.int k) = (atI z k).map fun c => .str (U [c]) := by
  show (if (U z).length ≤ sizeLine then (atI (U z).cps.toList k).map fun k => D.str ⟨#[k]⟩ else none) = _
  rw [if_pos (by rw [U_length, sizeL]; exact h)]
  rfl
/-! texts -/
theorem add_S {a b : Tx} (h : a.length + b.length ≤ 16777216) : addD st (.str (U a)) (.str (U b)) = some (.str (U (a ++ b))) := by
  simp [h]
theorem join_r {a : Tx} {l : List Tx} (h : seqOf st d = some (strL l)) (hb : (l.map (·.length)).sum + l.length * a.length ≤ 16777216) : joinF (U a) st [d] = some (.str (U (TL.joinL a l))) := by
  unfold joinF
  simp only [h, strsOf_strL]
  rw [lens_S, List.length_map, U_length, if_pos hb, U_S, show l.map U = l.map SX.S from rfl, SX.join_S, U_S]
theorem split_r {a b : Tx} (hb : b ≠ []) (hk : b.all (· < 256) = true) (hl : a.length + 2 ≤ 16777216) : splitF (U a) st [.str (U b)] = some (.lst (strL (TL.spl b 0 [] a))) := by
  unfold splitF
  have h1 : (U b).length ≠ 0 := by
    rw [U_length]; exact fun e => hb (List.eq_nil_of_length_eq_zero e)
  have h2 : ((U b).length == 0) = false := by simpa using h1
  dsimp only
  rw [if_pos ⟨h2, by rw [U_length, sizeL]; exact hl⟩, show Txt.split (U a) (U b) = _ from SX.split_S hb hk, show (TL.spl b 0 [] a).map SX.S = (TL.spl b 0 [] a).map U from rfl, strL_map]
theorem starts1 {a : Tx} {c : Nat} : startsF (U a) st [.str (U [c])] = some (.bl (decide (a.head? = some c))) := by
  show some (D.bl (Txt.startswith (U a) (U [c]))) = _
  congr 2
  unfold Txt.startswith
  cases a with
  | nil => rfl
  | cons x r =>
    have e1 : (U (x :: r)).length = r.length + 1 := by rw [U_length]; rfl
    have e2 : (U [c]).length = 1 := rfl
    rw [e1, e2]
    have e3 : Builtin.Str.subAt (U (x :: r)) (U [c]) 0 = decide (x = c) := by
      unfold Builtin.Str.subAt
      have : (U (x :: r)).cps.extract 0 (0 + (U [c]).length) = #[x] := by
        rw [e2]
        apply Array.ext'
        simp [U]
      rw [this]
      by_cases h : x = c
      · subst h; simp [U]
      · have : (#[x] == (U [c]).cps) = false := by
          rw [Bool.eq_false_iff]
          intro z
          have z := eq_of_beq z
          have := congrArg Array.toList z
          simp [U] at this
          exact h this
        rw [this, decide_eq_false h]
    rw [e3]
    simp
theorem slice_r {z : Tx} {k : Int} (hk : 0 ≤ k) (h : z.length ≤ 16777216) : sliD st (.str (U z)) (some k) none = some (.str (U (z.drop k.toNat))) := by
  show (if (U z).length ≤ sizeLine then some (D.str (cutS (U z) (some k) none)) else none) = _
  rw [if_pos (by rw [U_length, sizeL]; exact h), C8.cutS_slice, show Txt.slice (U z) (some k) none = U (z.drop k.toNat) from SX.slice_from hk]
theorem in_chr {c : Nat} {b : Tx} : inD false st (.str (U [c])) (.str (U b)) = some (.bl (decide (c ∈ b))) := by
  simp [inD, U]
/-! keys of dicts -/
theorem valD_nil {k : Key} : valD [] k = none := rfl
theorem valD_cons {a k : Key} {d : D} {ks : List (Key × D)} : valD ((a, d) :: ks) k = if a = k then some d else valD ks k := by
  unfold valD
  rw [List.find?_cons]
  by_cases h : a = k <;> simp [h]
@[simp] theorem in_dct {x : Str} {ks : List (Key × D)} : inD false st (.str x) (.dct ks) = some (.bl (valD ks (.inr x)).isSome) := (rfl)
@[simp] theorem nin_dct {x : Str} {ks : List (Key × D)} : inD true st (.str x) (.dct ks) = some (.bl (!(valD ks (.inr x)).isSome)) := (rfl)
theorem nin_lst {x : Tx} {l : List Tx} : inD true st (.str (U x)) (.lst (strL l)) = some (.bl (!decide (x ∈ l))) := by
  have hf : (strL l).all flatD = true := by simp [strL, flatD]
  show (if flatD (.str (U x)) = true ∧ (strL l).all flatD = true then some (D.bl (!memD (.str (U x)) (strL l))) else none) = _
  rw [if_pos ⟨rfl, hf⟩]
  have e : memD (.str (U x)) (strL l) = decide (x ∈ l) := by
    induction l with
    | nil => rfl
    | cons a l ih =>
      have ih := ih (by simp [strL, flatD])
      show (eqF (.str (U a)) (.str (U x)) || memD (.str (U x)) (strL l)) = _
      rw [ih]
      have e1 : eqF (.str (U a)) (.str (U x)) = decide (x = a) := by
        show (U a == U x) = _
        have e2 : (U a == U x) = decide (a = x) := SX.S_beq_eq
        rw [e2]
        by_cases h : a = x
        · subst h; simp
        · rw [decide_eq_false h, decide_eq_false fun e : x = a => h e.symm]
      rw [e1]
      by_cases h : x = a <;> simp [h]
  rw [e]
/-! sorted -/
theorem sorted_strs {l : List Tx} (h : l.length < 64) : sortedAF st [.lst (strL l)] = some (.lst (strL (sortL l))) := by
  have e : sortedF st [.lst (strL l)] = some (.lst (strL (sortL l))) := by
    unfold sortedF
    simp only [lst_lst]
    cases l with
    | nil => simp [intsOf, sortI, sortL]
    | cons a l =>
      have hi : intsOf (strL (a :: l)) = none := rfl
      rw [hi]
      simp only [strsOf_strL]
      rw [if_pos (by simpa using h), sortS_map, strL_map]
  unfold sortedAF
  rw [e]
theorem strKeys_S (l : List Tx) : strKeys (l.map fun t => Sum.inr (U t)) = some (l.map U) := by
  have e : (l.map fun t => (Sum.inr (U t) : Key)) = (l.map U).map Sum.inr := by rw [List.map_map]; rfl
  rw [e, strKeys_map]
theorem sorted_dct {ks : List (Key × D)} {l : List Tx} (hk : ks.map (·.1) = l.map fun t => Sum.inr (U t)) (h : l.length < 64) : sortedAF st [.dct ks] = some (.lst (strL (sortL l))) := by
  have e : sortedF st [.dct ks] = some (.lst (strL (sortL l))) := by
    unfold sortedF
    simp only [lst_dct, dct_dct, hk, strKeys_S]
    rw [if_pos (by simpa using h), sortS_map, strL_map]
  unfold sortedAF
  rw [e]
/-! comprehensions, loops -/
def okT (ok : Store → Bool) : Prop := ∀ s, ok s = true
@[simp] theorem wd_ok {xs : List D} {s : Store} : WD.ok ⟨xs, none⟩ s = true := (rfl)
theorem turns_some {α : Type} {ok : Store → Bool} {step : D → Store → Out (Option α)} (ho : okT ok) : ∀ {ds : List D} {f : D → α} {s : Store}, (∀ d ∈ ds, step d s = .ok (some (f d)) s) → turns ok step ds s = .ok (ds.map f) s
  | [], f, s, _ => by simp [turns, ho s]
  | d :: ds, f, s, h => by
    have ih := turns_some (step := step) (ds := ds) (f := f) (s := s) ho fun x hx => h x (List.mem_cons_of_mem _ hx)
    unfold turns
    rw [if_pos (ho s), h d List.mem_cons_self, Out.bind_ok, ih, Out.bind_ok]
    rfl
/-- over a list that is a map -/
theorem turns_of {α β : Type} {ok : Store → Bool} {step : D → Store → Out (Option β)} {g : α → D} {f : α → β} (ho : okT ok) : ∀ {l : List α} {s : Store}, (∀ x ∈ l, step (g x) s = .ok (some (f x)) s) → turns ok step (l.map g) s = .ok (l.map f) s
  | [], s, _ => by simp [turns, ho s]
  | x :: l, s, h => by
    have ih := turns_of (step := step) (g := g) (f := f) (l := l) (s := s) ho fun x hx => h x (List.mem_cons_of_mem _ hx)
    show (if ok s = true then (step (g x) s).bind fun o s1 => (turns ok step (l.map g) s1).bind fun r s2 => .ok (o.toList ++ r) s2 else .bad) = _
    rw [if_pos (ho s), h x List.mem_cons_self, Out.bind_ok, ih, Out.bind_ok]
    rfl
@[simp] theorem seqW_lst {xs : List D} : seqW st (.lst xs) = some ⟨xs, none⟩ := (rfl)
@[simp] theorem seqW_tup {xs : List D} : seqW st (.tup xs) = some ⟨xs, none⟩ := (rfl)
theorem seqW_S {z : Tx} : seqW st (.str (U z)) = some ⟨z.map fun c => .str (U [c]), none⟩ := rfl
@[simp] theorem iSeq_ap {f : ER} {env : DEnv} : iSeq f env st = (f env st).bind fun x s => .opt (seqW s x) s := (rfl)
def oLc (wd : WD) (step : D → Store → Out (Option D)) (s : Store) : Out Cell := if wd.items.length ≤ sizeLine then (turns wd.ok step wd.items s).bind fun r s2 => .ok (.lst r) s2 else .bad
@[simp] theorem fLc_ap {vs : List Nat} {it : IR} {pat : Pat} {cond : TR} {elt : ER} {env : DEnv} : fLc vs it pat cond elt env st = (it env st).bind fun wd s => oLc wd (stepOf vs pat cond elt env) s := (rfl)
theorem okT_none {xs : List D} : okT (WD.ok ⟨xs, none⟩) := fun _ => rfl
theorem lc_of {α : Type} {l : List α} {g f : α → D} {step : D → Store → Out (Option D)} (hl : l.length ≤ 16777216) (h : ∀ x ∈ l, step (g x) st = .ok (some (f x)) st) : oLc ⟨l.map g, none⟩ step st = .ok (.lst (l.map f)) st := by
  unfold oLc
  rw [if_pos (by rw [List.length_map, sizeL]; exact hl)]
  show (turns _ step (l.map g) st).bind _ = _
  rw [turns_of okT_none h]
  rfl
theorem lc_str {l : List Tx} {f : Tx → D} {step : D → Store → Out (Option D)} (hl : l.length ≤ 16777216) (h : ∀ x ∈ l, step (.str (U x)) st = .ok (some (f x)) st) : oLc ⟨strL l, none⟩ step st = .ok (.lst (l.map f)) st := lc_of (g := fun t => .str (U t)) hl h
theorem turns_str {β : Type} {ok : Store → Bool} {step : D → Store → Out (Option β)} {f : Tx → β} (ho : okT ok) {l : List Tx} {s : Store} (h : ∀ x ∈ l, step (.str (U x)) s = .ok (some (f x)) s) : turns ok step (strL l) s = .ok (l.map f) s := turns_of (g := fun t => .str (U t)) ho h
def oStep {α : Type} (o : Option DEnv) (cond : TR) (elt : DEnv → Store → Out α) (s : Store) : Out (Option α) := match o with
  | some env' => noexc ((cond env' s).bind fun b s1 => if b = true then (elt env' s1).bind fun y s2 => .ok (some y) s2 else .ok none s1)
  | none => .bad
@[simp] theorem step_ap {α : Type} {vs : List Nat} {pat : Pat} {cond : TR} {elt : DEnv → Store → Out α} {env : DEnv} {s : Store} : stepOf vs pat cond elt env d s = oStep (bindP pat d s (wipeD env vs)) cond elt s := (rfl)
@[simp] theorem oStep_some {α : Type} {cond : TR} {elt : DEnv → Store → Out α} {env : DEnv} {s : Store} : oStep (some env) cond elt s = noexc ((cond env s).bind fun b s1 => if b = true then (elt env s1).bind fun y s2 => .ok (some y) s2 else .ok none s1) := (rfl)
@[simp] theorem wipe_nil {env : DEnv} : wipeD env [] = env := (rfl)
@[simp] theorem wipe_cons {env : DEnv} {v : Nat} {vs : List Nat} : wipeD env (v :: vs) = (wipeD env vs).set v .no := (rfl)
@[simp] theorem noexc_ite {α : Type} {p : Prop} [Decidable p] {a b : Out α} : noexc (if p then a else b) = if p then noexc a else noexc b := by split <;> rfl
def oDc (wd : WD) (step : D → Store → Out (Option (Key × D))) (s : Store) : Out Cell := if wd.items.length ≤ sizeLine then (turns wd.ok step wd.items s).bind fun r s2 => .ok (.dct (mergeD [] r)) s2 else .bad
@[simp] theorem fDc_ap {vs : List Nat} {it : IR} {pat : Pat} {cond : TR} {fk fv : ER} {env : DEnv} : fDc vs it pat cond fk fv env st = (it env st).bind fun wd s => oDc wd (stepOf vs pat cond (fKv fk fv) env) s := (rfl)
@[simp] theorem fKv_ap {fk fv : ER} {env : DEnv} : fKv fk fv env st = (fk env st).bind fun x s1 => (fv env s1).bind fun y s2 => oKey (keyOf x) fun k => .ok (k, y) s2 := (rfl)
theorem dc_of {α : Type} {l : List α} {g : α → D} {f : α → Key × D} {step : D → Store → Out (Option (Key × D))} (hl : l.length ≤ 16777216) (h : ∀ x ∈ l, step (g x) st = .ok (some (f x)) st) : oDc ⟨l.map g, none⟩ step st = .ok (.dct (mergeD [] (l.map f))) st := by
  unfold oDc
  rw [if_pos (by rw [List.length_map, sizeL]; exact hl)]
  show (turns _ step (l.map g) st).bind _ = _
  rw [turns_of okT_none h]
  rfl
@[simp] theorem fLenSc_ap {vs : List Nat} {it : IR} {pat : Pat} {cond : TR} {fe : ER} {env : DEnv} : fLenSc vs it pat cond fe env st = (it env st).bind fun wd s => if wd.items.length < 4000 then (turns wd.ok (stepOf vs pat cond (fKey fe) env) wd.items s).bind fun r s2 => .ok (.int ((dedK r).length : Nat)) s2 else .bad := (rfl)
@[simp] theorem fKey_ap {fe : ER} {env : DEnv} : fKey fe env st = (fe env st).bind fun x s1 => oKey (keyOf x) fun k => .ok k s1 := (rfl)
def oItm (o : Option D) (mk : Key × D → D) (st : Store) : Out WD := match o with
  | some (.dct ks) => .ok ⟨ks.map mk, none⟩ st
  | _ => .bad
@[simp] theorem oItm_some {ks : List (Key × D)} {mk : Key × D → D} : oItm (some (.dct ks)) mk st = .ok ⟨ks.map mk, none⟩ st := (rfl)
@[simp] theorem iItm_ap {fp : DEnv → Store → Option D} {env : DEnv} : iItm fp env st = oItm (fp env st) (fun kv => .tup [keyD kv.1, kv.2]) st := (rfl)
@[simp] theorem iKey_ap {fp : DEnv → Store → Option D} {env : DEnv} : iKey fp env st = oItm (fp env st) (fun kv => keyD kv.1) st := (rfl)
@[simp] theorem iVal_ap {fp : DEnv → Store → Option D} {env : DEnv} : iVal fp env st = oItm (fp env st) (fun kv => kv.2) st := (rfl)
def oPv (o : Option Slot) : Option D := match o with
  | some (.val d) => some d
  | _ => none
@[simp] theorem oPv_val : oPv (some (.val d)) = some d := (rfl)
@[simp] theorem pVar_ap {env : DEnv} : pVar i env st = oPv env[i]? := (rfl)
@[simp] theorem keyD_s {x : Str} : keyD (.inr x) = .str x := (rfl)
@[simp] theorem keyD_i {k : Int} : keyD (.inl k) = .int k := (rfl)
/-! defs of a class -/
def oMk (o : SO) (C : Str) (froz : Bool) : Out D := match o with
  | .nx env s => (match env with
    | .own (.ins c fs) :: _ => if c = C then (if froz = true then .ok (.obj c fs) s else .ok (.cell s.length) (s ++ [.ins c fs])) else .bad
    | _ => .bad)
  | .exc x fs _ s => .exc x fs s
  | _ => .bad
@[simp] theorem mkM_ap {C : Str} {n : Nat} {froz : Bool} {fb : SR} {ds : List D} : mkM C n froz fb ds st = oMk (fb (selfEnv C n ds) st) C froz := (rfl)
@[simp] theorem oMk_nx {C c : Str} {fs : List (Str × D)} {env : DEnv} : oMk (.nx (.own (.ins c fs) :: env) st) C true = if c = C then .ok (.obj c fs) st else .bad := (rfl)
@[simp] theorem oMk_exc {C x : Str} {fs : List (Str × D)} {env : DEnv} {b : Bool} : oMk (.exc x fs env st) C b = .exc x fs st := (rfl)
@[simp] theorem oMk_ite {p : Prop} [Decidable p] {a b : SO} {C : Str} {f : Bool} : oMk (if p then a else b) C f = if p then oMk a C f else oMk b C f := by split <;> rfl
@[simp] theorem selfEnv_ap {C : Str} {n : Nat} {ds : List D} : selfEnv C n ds = .own (.ins C []) :: (ds.map .val ++ List.replicate (n - 1 - ds.length) .no) := (rfl)
@[simp] theorem ofString_inj {a b : String} : Str.ofString a = Str.ofString b ↔ a = b := by
  refine ⟨fun h => ?_, fun h => by rw [h]⟩
  rw [Str.ofString_eq_toList, Str.ofString_eq_toList] at h
  have h1 : (a.toList.map Char.toNat).toArray = (b.toList.map Char.toNat).toArray := by injection h
  have h2 : a.toList.map Char.toNat = b.toList.map Char.toNat := by simpa using congrArg Array.toList h1
  have inj : ∀ {l m : List Char}, l.map Char.toNat = m.map Char.toNat → l = m := fun {l m} => by
    induction l generalizing m with
    | nil => intro e; cases m with
      | nil => rfl
      | cons _ _ => simp at e
    | cons x l ih =>
      intro e
      cases m with
      | nil => simp at e
      | cons y m =>
        simp only [List.map_cons, List.cons.injEq] at e
        rw [ih e.2, Char.toNat_inj.mp e.1]
  have h3 := inj h2
  rw [← String.ofList_toList (s := a), h3, String.ofList_toList]
@[simp] theorem look_cons {k a : Str} {d : D} {fs : List (Str × D)} : List.lookup k ((a, d) :: fs) = if k = a then some d else List.lookup k fs := by
  rw [List.lookup_cons]
  by_cases h : k = a
  · subst h; simp
  · have e : (k == a) = false := by simpa using h
    rw [e, if_neg h]
/-! dicts without a key twice -/
theorem put_new {ks : List (Key × D)} {k : Key} {v : D} (h : k ∉ ks.map (·.1)) : putD ks k v = ks ++ [(k, v)] := by
  unfold putD
  rw [if_neg]
  intro e
  obtain ⟨x, hx, e⟩ := List.any_eq_true.mp e
  have e := of_decide_eq_true e
  exact h (List.mem_map.mpr ⟨x, hx, e⟩)
theorem merge_nodup : ∀ {more ks : List (Key × D)}, ((ks ++ more).map (·.1)).Nodup → mergeD ks more = ks ++ more
  | [], ks, _ => by simp [mergeD]
  | (k, v) :: more, ks, h => by
    have hk : k ∉ ks.map (·.1) := fun hm => by
      rw [List.map_append, List.map_cons] at h
      have := (List.nodup_append.mp h).2.2 k hm k (by simp)
      exact this rfl
    show mergeD (putD ks k v) more = _
    rw [put_new hk, merge_nodup (by rw [List.append_assoc]; exact h), List.append_assoc]
    rfl
theorem merge_nil {more : List (Key × D)} (h : (more.map (·.1)).Nodup) : mergeD [] more = more := merge_nodup (ks := []) h
/-! the set of some texts -/
theorem ded_nodup : ∀ {l : List Key}, (dedK l).length = l.length ↔ l.Nodup := by
  have key : ∀ (l acc : List Key), (l.foldl insK acc).length ≤ acc.length + l.length ∧ ((l.foldl insK acc).length = acc.length + l.length ↔ (l.Nodup ∧ ∀ k ∈ l, k ∉ acc)) := by
    intro l
    induction l with
    | nil => intro acc; simp
    | cons k l ih =>
      intro acc
      rw [List.foldl_cons]
      by_cases hm : k ∈ acc
      · have e : insK acc k = acc := by
          unfold insK
          rw [if_pos]
          exact List.any_eq_true.mpr ⟨k, hm, decide_eq_true rfl⟩
        rw [e]
        obtain ⟨h1, h2⟩ := ih acc
        refine ⟨by simp; omega, ⟨fun z => ?_, fun z => absurd hm (z.2 k List.mem_cons_self)⟩⟩
        simp at z
        omega
      · have e : insK acc k = acc ++ [k] := by
          unfold insK
          rw [if_neg]
          intro z
          obtain ⟨x, hx, e⟩ := List.any_eq_true.mp z
          exact hm (of_decide_eq_true e ▸ hx)
        rw [e]
        obtain ⟨h1, h2⟩ := ih (acc ++ [k])
        rw [List.length_append] at h1 h2
        refine ⟨by simp at h1 ⊢; omega, ?_⟩
        have e2 : (List.foldl insK (acc ++ [k]) l).length = acc.length + (k :: l).length ↔ (List.foldl insK (acc ++ [k]) l).length = acc.length + [k].length + l.length := by simp; omega
        rw [e2, h2, List.nodup_cons]
        constructor
        · rintro ⟨nd, h⟩
          refine ⟨⟨fun z => h k z (by simp), nd⟩, fun x hx => ?_⟩
          rcases List.mem_cons.mp hx with rfl | hx
          · exact hm
          · exact fun z => h x hx (List.mem_append_left _ z)
        · rintro ⟨⟨nk, nd⟩, h⟩
          refine ⟨nd, fun x hx z => ?_⟩
          rcases List.mem_append.mp z with z | z
          · exact h x (List.mem_cons_of_mem _ hx) z
          · rw [List.mem_singleton] at z
            subst z
            exact nk hx
  intro l
  have := (key l []).2
  simp at this
  exact this
end
end MM
end
section
set_option Elab.async false
set_option linter.all false
set_option maxRecDepth 100000
set_option maxHeartbeats 1000000
set_option autoImplicit false
namespace T78
open PySem PySem.Spec L2 DL MM
/-! ### kinds -/
theorem isi1 {Z : Sig} {st : Store} {d : D} {n : String} {t : Tag} {b : Bool} (h : tagOf st d = some t) (hb : Z.isa t (.bi n) = some b) : isinstF Z st [d, .ty n] = some (.bl b) := by
  simp [isinstF, clsTag, h, hb]
theorem isiO {Z : Sig} {st : Store} {d : D} {x : Str} {t : Tag} {b : Bool} (h : tagOf st d = some t) (hb : Z.isa t (.own x) = some b) : isinstF Z st [d, .ob x] = some (.bl b) := by
  simp [isinstF, clsTag, h, hb]
theorem isi2 {Z : Sig} {st : Store} {d : D} {n m : String} {t : Tag} {b c : Bool} (h : tagOf st d = some t) (hb : Z.isa t (.bi n) = some b) (hc : Z.isa t (.bi m) = some c) : isinstF Z st [d, .tup [.ty n, .ty m]] = some (.bl (b || c)) := by
  cases b <;> cases c <;> simp [isinstF, clsTags, clsTag, h, hb, hc, isaAny]
@[simp] theorem bf_isi : bfF Zs .isi = isinstF Zs := rfl
@[simp] theorem bf_len : bfF Zs .len = lenF := rfl
@[simp] theorem bf_all : bfF Zs .all = allF := rfl
@[simp] theorem bf_any : bfF Zs .any = anyF := rfl
@[simp] theorem bf_sorted : bfF Zs .sorted = sortedAF := rfl
@[simp] theorem bf_tuple : bfF Zs .tuple = tupleF := rfl
@[simp] theorem bf_list : bfF Zs .list = listF := rfl
@[simp] theorem bf_dict : bfF Zs .dict = dictF := rfl
@[simp] theorem bf_int : bfF Zs .int = intF := rfl
@[simp] theorem bf_str : bfF Zs .str = strF := rfl
@[simp] theorem bf_repr : bfF Zs .repr = reprF := rfl
@[simp] theorem bf_max : bfF Zs .max = maxF := rfl
@[simp] theorem bf_min : bfF Zs .min = minF := rfl
@[simp] theorem mf_split : mfF .split = splitF := rfl
@[simp] theorem mf_join : mfF .join = joinF := rfl
@[simp] theorem mf_starts : mfF .starts = startsF := rfl
@[simp] theorem mf_upper : mfF .upper = upperF := rfl
section
variable {st : Store}
@[simp] theorem i_int_int {i : Int} : isinstF Zs st [.int i, .ty "int"] = some (.bl true) := isi1 rfl (by decide)
@[simp] theorem i_int_bool {i : Int} : isinstF Zs st [.int i, .ty "bool"] = some (.bl false) := isi1 rfl (by decide)
@[simp] theorem i_non_int : isinstF Zs st [.non, .ty "int"] = some (.bl false) := isi1 rfl (by decide)
@[simp] theorem i_str_str {x : Str} : isinstF Zs st [.str x, .ty "str"] = some (.bl true) := isi1 rfl (by decide)
@[simp] theorem i_non_str : isinstF Zs st [.non, .ty "str"] = some (.bl false) := isi1 rfl (by decide)
@[simp] theorem i_int_str {i : Int} : isinstF Zs st [.int i, .ty "str"] = some (.bl false) := isi1 rfl (by decide)
@[simp] theorem i_bl_str {i : Bool} : isinstF Zs st [.bl i, .ty "str"] = some (.bl false) := isi1 rfl (by decide)
@[simp] theorem i_lst_str {i : List D} : isinstF Zs st [.lst i, .ty "str"] = some (.bl false) := isi1 rfl (by decide)
@[simp] theorem i_tup_str {i : List D} : isinstF Zs st [.tup i, .ty "str"] = some (.bl false) := isi1 rfl (by decide)
@[simp] theorem i_dct_str {i : List (Key × D)} : isinstF Zs st [.dct i, .ty "str"] = some (.bl false) := isi1 rfl (by decide)
@[simp] theorem i_con_str {fs : List (Str × D)} : isinstF Zs st [.obj "Contents" fs, .ty "str"] = some (.bl false) := isi1 rfl (by decide)
@[simp] theorem i_con_con {fs : List (Str × D)} : isinstF Zs st [.obj "Contents" fs, .ob "Contents"] = some (.bl true) := isiO rfl (by decide)
@[simp] theorem i_tup_tup {i : List D} : isinstF Zs st [.tup i, .ty "tuple"] = some (.bl true) := isi1 rfl (by decide)
@[simp] theorem i_dct_dct {i : List (Key × D)} : isinstF Zs st [.dct i, .ty "dict"] = some (.bl true) := isi1 rfl (by decide)
@[simp] theorem i_lst_lt {i : List D} : isinstF Zs st [.lst i, .tup [.ty "list", .ty "tuple"]] = some (.bl true) := isi2 (b := true) (c := false) rfl (by decide) (by decide)
@[simp] theorem i_tup_lt {i : List D} : isinstF Zs st [.tup i, .tup [.ty "list", .ty "tuple"]] = some (.bl true) := isi2 (b := false) (c := true) rfl (by decide) (by decide)
end
/-! ### literals -/
def lowL : Tx := [97, 98, 99, 100, 101, 102, 103, 104, 105, 106, 107, 108, 109, 110, 111, 112, 113, 114, 115, 116, 117, 118, 119, 120, 121, 122]
def digL : Tx := [48, 49, 50, 51, 52, 53, 54, 55, 56, 57]
theorem l_low : Str.ofString "abcdefghijklmnopqrstuvwxyz" = U lowL := by decide +kernel
theorem l_dig : Str.ofString "0123456789" = U digL := by decide +kernel
theorem l_minus : Str.ofString "-" = U [45] := by decide +kernel
theorem l_comma : Str.ofString "," = U [44] := by decide +kernel
theorem l_blank : Str.ofString " " = U [32] := by decide +kernel
theorem l_slash : Str.ofString " / " = U [32, 47, 32] := by decide +kernel
theorem l_bar : Str.ofString " | " = U [32, 124, 32] := by decide +kernel
theorem l_zero : Str.ofString "0" = U [48] := by decide +kernel
/-! ### plain checks -/
theorem q_is_between (v a b : Int) (st : Store) : m_is_between [.int v, .int a, .int b] st = .ok (.bl (decide (a ≤ v) && decide (v ≤ b))) st := by
  simp [m_is_between, t_is_between]
  by_cases h : a ≤ v <;> simp [h]
theorem low_mem (c : Nat) : decide (c ∈ lowL) = lowB c := by
  unfold lowB
  rw [← Bool.decide_and, decide_eq_decide]
  simp [lowL]
  omega
theorem dig_mem (c : Nat) : decide (c ∈ digL) = digB c := by
  unfold digB
  rw [← Bool.decide_and, decide_eq_decide]
  simp [digL]
  omega
theorem q_is_word (x : Tx) (hx : x.length ≤ 16777216) (st : Store) : m_is_word [.str (U x)] st = .ok (.bl (wordB x)) st := by
  simp [m_is_word, t_is_word, hx, seqW_S]
  rw [lc_of (f := fun c => D.bl (lowB c)) hx (fun c _ => by simp [l_low, in_chr, low_mem])]
  simp [all_map]
  by_cases h1 : 1 ≤ x.length
  · by_cases h2 : 8 < x.length
    · have e : ¬ x.length ≤ 8 := by omega
      simp [h1, h2, wordB, e, show (1 : Int) ≤ x.length by omega, show (8 : Int) < x.length by omega]
    · simp [h1, h2, wordB, show x.length ≤ 8 by omega, show (1 : Int) ≤ x.length by omega, show ¬ (8 : Int) < x.length by omega]
  · simp [h1, wordB, show ¬ (1 : Int) ≤ x.length by omega]
def LenOk (l : List Tx) : Prop := ∀ t ∈ l, t.length ≤ 16777216
theorem nodup_keys {l : List Tx} : (l.map fun t => (Sum.inr (U t) : Key)).Nodup ↔ l.Nodup := by
  induction l with
  | nil => simp
  | cons a l ih => simp [ih]
theorem q_are_keys (l : List Tx) (m : Nat) (hl : l.length < 4000) (ho : LenOk l) (st : Store) : m_are_keys [.lst (strL l), .int m] st = .ok (.bl (keysOk m l)) st := by
  simp [m_are_keys, t_are_keys, hl]
  rw [lc_str (f := fun t => D.bl (wordB t)) (by omega) (fun t ht => by simp [q_is_word t (ho t ht)])]
  have e : ((dedK (l.map fun t => Sum.inr (U t))).length = l.length) ↔ l.Nodup := by
    have := ded_nodup (l := l.map fun t => (Sum.inr (U t) : Key))
    rw [List.length_map] at this
    rw [this, nodup_keys]
  simp [all_map]
  rw [turns_str (f := fun t => Sum.inr (U t)) okT_none (fun t ht => by simp)]
  simp
  by_cases h : m < l.length
  · simp [h, keysOk, show ¬ l.length ≤ m by omega]
  · simp [h, keysOk, show l.length ≤ m by omega]
    by_cases h2 : ∀ x ∈ l, wordB x = true
    · have h3 : l.all wordB = true := List.all_eq_true.mpr h2
      rw [if_pos h2, h3, Bool.true_and]
      have e2 : ((((dedK (l.map fun t => Sum.inr (U t))).length : Nat) : Int) = (l.length : Int)) ↔ l.Nodup := by rw [← e]; omega
      simp [e2]
    · simp [h2]
/-! ### numbers -/
def optD : Option Nat → D
  | some n => .int n
  | none => .non
theorem q_integer_of (w : Tx) (hw : w.length ≤ 1000000) (hm : w.head? ≠ some 45) (st : Store) : m_integer_of [.str (U w)] st = .ok (optD (numV w)) st := by
  simp [m_integer_of, t_integer_of, l_minus, starts1, hm, show w.length ≤ 16777216 by omega, seqW_S]
  rw [lc_of (f := fun c => D.bl (digB c)) (by omega) (fun c _ => by simp [l_dig, in_chr, dig_mem])]
  simp [all_map]
  unfold numV
  rw [if_neg hm]
  by_cases h1 : 1 ≤ w.length
  · by_cases h2 : w.length ≤ 60
    · by_cases h3 : w.all digB = true
      · have h3' : ∀ x ∈ w, digB x = true := List.all_eq_true.mp h3
        obtain ⟨c, r, rfl⟩ : ∃ c r, w = c :: r := by cases w with | nil => simp at h1 | cons c r => exact ⟨c, r, rfl⟩
        have hl : (U (c :: r)).length ≤ 640 := by rw [U_length]; omega
        have hi : intText? (U (c :: r)) = some ((NumText.digitsVal (c :: r) : Nat) : Int) := SX.int_S (by simpa [digB] using h3) (by simp) (by omega)
        have hs : subsD st (.str (U (c :: r))) (.int 0) = some (.str (U [c])) := by rw [subs_str (by omega)]; simp
        have h3b : ∀ x ∈ r, digB x = true := fun x hx => h3' x (List.mem_cons_of_mem _ hx)
        have h3c : ¬ ∃ a, a ∈ r ∧ digB a = false := fun ⟨a, ha, e⟩ => by rw [h3b a ha] at e; cases e
        have hint : intF st [.str (U (c :: r))] = some (.int (NumText.digitsVal (c :: r) : Nat)) := by
          unfold intF
          simp only
          rw [if_pos hl, hi]; rfl
        have h2b : r.length ≤ 59 := by simp at h2; omega
        simp [hs, l_zero, h3c, h3b, hint, h3' c (by simp), show (1 : Int) ≤ (r.length : Int) + 1 by omega, show ¬ (60 : Int) < (r.length : Int) + 1 by simp at h2; omega, h2b]
        by_cases hc : c = 48
        · subst hc
          by_cases hr : r = []
          · subst hr; simp [optD, hint]
          · simp [hr, optD]
        · simp [hc, optD, hint]
          rw [if_pos h3b]
      · obtain ⟨x, hx, e⟩ : ∃ x ∈ w, digB x = false := by simpa using h3
        simp [h1, h2, show (1 : Int) ≤ w.length by omega, show ¬ (60 : Int) < w.length by omega, optD]
        rw [if_pos ⟨x, hx, e⟩, if_neg fun z => by have := z.1 x hx; rw [e] at this; cases this]
    · simp [h1, h2, show (1 : Int) ≤ w.length by omega, show (60 : Int) < w.length by omega, optD]
  · simp [h1, show ¬ (1 : Int) ≤ w.length by omega, optD]
theorem q_number_of (w : Tx) (hw : w.length ≤ 1000000) (st : Store) : m_number_of [.str (U w)] st = .ok (optD (numV w)) st := by
  simp [m_number_of, t_number_of, l_minus, starts1]
  by_cases hm : w.head? = some 45
  · simp [hm, numV, optD]
  · simp [hm, q_integer_of w hw hm]
/-! ### roles -/
def partD (r : Tx × List Tx × Tx) : D := .tup [.lst (strL r.2.1), .str (U r.2.2)]
def rolesD (rs : List (Tx × List Tx × Tx)) : List (Key × D) := rs.map fun r => (.inr (U r.1), partD r)
def RowOk (r : Tx × List Tx × Tx) : Prop := r.1.length ≤ 1000000 ∧ r.2.1.length < 4000 ∧ LenOk r.2.1 ∧ r.2.2.length ≤ 1000000
theorem q_is_role (r : Tx × List Tx × Tx) (h : RowOk r) (st : Store) : m_is_role [partD r] st = .ok (.bl (keysOk 8 r.2.1 && wordB r.2.2)) st := by
  obtain ⟨h1, h2, h3, h4⟩ := h
  have ek := q_are_keys r.2.1 8 h2 h3
  simp at ek
  simp [m_is_role, t_is_role, partD, ek, q_is_word r.2.2 (by omega)]
  cases keysOk 8 r.2.1 <;> simp
theorem rolesD_len (rs : List (Tx × List Tx × Tx)) : (rolesD rs).length = rs.length := by simp [rolesD]
theorem rolesD_items (rs : List (Tx × List Tx × Tx)) : (rolesD rs).map (fun kv => D.tup [keyD kv.1, kv.2]) = rs.map fun r => .tup [.str (U r.1), partD r] := by simp [rolesD, Function.comp_def]
theorem q_are_roles (rs : List (Tx × List Tx × Tx)) (hl : rs.length ≤ 1000000) (h : ∀ r ∈ rs, RowOk r) (st : Store) :
    m_are_roles [.dct (rolesD rs)] st = .ok (.bl (decide (1 ≤ rs.length) && (decide (rs.length ≤ 3) && rs.all fun r => wordB r.1 && (keysOk 8 r.2.1 && wordB r.2.2)))) st := by
  simp [m_are_roles, t_are_roles, rolesD_len, rolesD_items]
  rw [lc_of (f := fun r => D.bl (wordB r.1 && (keysOk 8 r.2.1 && wordB r.2.2))) (by omega) (fun r hr => by
    simp [q_is_word r.1 (by have := (h r hr).1; omega), q_is_role r (h r hr)]
    cases wordB r.1 <;> simp)]
  simp [all_map]
  by_cases h1 : 1 ≤ rs.length
  · by_cases h2 : rs.length ≤ 3
    · simp [h1, h2, show (1 : Int) ≤ rs.length by omega, show ¬ (3 : Int) < rs.length by omega]
    · simp [h1, h2, show (1 : Int) ≤ rs.length by omega, show (3 : Int) < rs.length by omega]
  · simp [h1, show ¬ (1 : Int) ≤ rs.length by omega]
/-! ### Contents -/
def conF (c : Con) : List (Str × D) := [("own_roles", .dct (c.roles.map fun r => (.inr (U r.1), .tup [.tup (strL r.2.1), .str (U r.2.2)]))), ("own_vouchers", .tup (strL c.vouch)), ("own_needed", .int c.need), ("own_signers", .tup (strL c.sign))]
def conObj (c : Con) : D := .obj "Contents" (conF c)
structure RawIn (c : Con) : Prop where
  rl : c.roles.length < 64
  r : ∀ r ∈ c.roles, RowOk r
  nd : RNd c
  v : c.vouch.length < 4000 ∧ LenOk c.vouch
  s : c.sign.length < 4000 ∧ LenOk c.sign
def optN : Option Nat → D
  | some n => .int n
  | none => .non
theorem valD_roles : ∀ {rs : List (Tx × List Tx × Tx)} {r : Tx × List Tx × Tx}, (rs.map (·.1)).Nodup → r ∈ rs → valD (rolesD rs) (.inr (U r.1)) = some (partD r)
  | [], _, _, h => by simp at h
  | x :: rs, r, nd, h => by
    rw [List.map_cons, List.nodup_cons] at nd
    show valD ((.inr (U x.1), partD x) :: rolesD rs) _ = _
    rw [valD_cons]
    rcases List.mem_cons.mp h with rfl | h
    · simp
    · have hne : x.1 ≠ r.1 := fun e => nd.1 (by rw [e]; exact List.mem_map.mpr ⟨r, h, rfl⟩)
      rw [if_neg (by simpa using hne)]
      exact valD_roles nd.2 h
theorem init_len (c : Con) (hc : RawIn c) : (sortR c.roles).length ≤ 16777216 := by rw [(sortR_perm _).length_eq]; have := hc.rl; omega
/-- the roles as they are kept -/
def ownR (rs : List (Tx × List Tx × Tx)) : List (Key × D) := rs.map fun r => (.inr (U r.1), .tup [.tup (strL r.2.1), .str (U r.2.2)])
theorem ownR_keys (rs : List (Tx × List Tx × Tx)) : (ownR rs).map (·.1) = (rs.map (·.1)).map fun t => (Sum.inr (U t) : Key) := by simp [ownR, Function.comp_def]
theorem ownR_nodup {rs : List (Tx × List Tx × Tx)} (h : (rs.map (·.1)).Nodup) : ((ownR rs).map (·.1)).Nodup := by rw [ownR_keys, nodup_keys]; exact h
theorem q_init_roles (c : Con) (hc : RawIn c) (h : rawOk c = true) (st : Store) :
    sortedAF st [.dct (rolesD c.roles)] = some (.lst ((sortR c.roles).map fun r => .str (U r.1))) ∧ (∀ r ∈ sortR c.roles, valD (rolesD c.roles) (.inr (U r.1)) = some (partD r) ∧ r.2.1.length < 64) ∧
    mergeD [] ((sortR c.roles).map fun r => (.inr (U r.1), .tup [.tup (strL (sortL r.2.1)), .str (U r.2.2)])) = ownR c.sorted.roles := by
  refine ⟨?_, fun r hr => ?_, ?_⟩
  · have em : strL (sortL (c.roles.map (·.1))) = (sortR c.roles).map fun r => .str (U r.1) := by
      rw [← sortR_fst]; simp [strL, Function.comp_def]
    rw [← em]
    exact sorted_dct (by simp [rolesD, Function.comp_def]) (by have := hc.rl; simpa using this)
  · have hr' := (sortR_perm _).mem_iff.mp hr
    refine ⟨valD_roles hc.nd hr', ?_⟩
    have hk := (raw_roles h r hr').2.1
    simp [keysOk] at hk; omega
  · have e : (sortR c.roles).map (fun r => ((.inr (U r.1), .tup [.tup (strL (sortL r.2.1)), .str (U r.2.2)]) : Key × D)) = ownR c.sorted.roles := by simp [ownR, Con.sorted, Function.comp_def]
    rw [e]
    refine merge_nil (ownR_nodup ?_)
    have e2 : c.sorted.roles.map (·.1) = (sortR c.roles).map (·.1) := by simp [Con.sorted, Function.comp_def]
    rw [e2, sortR_fst]
    exact (sortL_perm _).nodup_iff.mpr hc.nd
def optL : Option (List Tx) → D
  | some l => .lst (strL l)
  | none => .non
/-- contents of these parts; signers may be lacking -/
def mkCon (rs : List (Tx × List Tx × Tx)) (v : List Tx) (n : Nat) (s : Option (List Tx)) : Con := ⟨rs, v, n, s.getD v⟩
theorem q_init (rs : List (Tx × List Tx × Tx)) (v : List Tx) (n : Nat) (s : Option (List Tx)) (hc : RawIn (mkCon rs v n s)) (h : rawOk (mkCon rs v n s) = true) (st : Store) :
    m_Contents_needed_signers_2 [.dct (rolesD rs), .lst (strL v), .int n, optL s] st = .ok (conObj (mkCon rs v n s).sorted) st := by
  obtain ⟨i1, i2, i3⟩ := q_init_roles _ hc h st
  have hl := init_len _ hc
  have h0 := h
  simp only [rawOk, Bool.and_eq_true, decide_eq_true_eq] at h
  obtain ⟨a1, a2, a3, a4, a5, a6⟩ := h
  replace a1 : 1 ≤ rs.length := a1
  replace a2 : rs.length ≤ 3 := a2
  replace a4 : keysOk 4 v = true := a4
  replace a5 : n ≤ 4 := a5
  replace a3 : (rs.all fun r => wordB r.1 && (keysOk 8 r.2.1 && wordB r.2.2)) = true := a3
  have e1 := q_are_roles rs (by omega) hc.r st
  have e2 := q_are_keys v 4 hc.v.1 hc.v.2 st
  rw [decide_eq_true a1, decide_eq_true a2, a3] at e1
  rw [a4] at e2
  have hv : v.length < 64 := by simp [keysOk] at a4; omega
  replace i1 : sortedAF st [.dct (rolesD rs)] = some (.lst ((sortR rs).map fun r => .str (U r.1))) := i1
  replace i2 : ∀ r ∈ sortR rs, valD (rolesD rs) (.inr (U r.1)) = some (partD r) ∧ r.2.1.length < 64 := i2
  replace i3 : mergeD [] ((sortR rs).map fun r => (.inr (U r.1), .tup [.tup (strL (sortL r.2.1)), .str (U r.2.2)])) = ownR (mkCon rs v n s).sorted.roles := i3
  replace hl : (sortR rs).length ≤ 16777216 := hl
  simp at e1 e2
  cases s with
  | none =>
    simp [m_Contents_needed_signers_2, t_Contents___init__, e1, e2, q_is_between, show ((n : Nat) : Int) ≤ 4 by omega, show (0 : Int) ≤ (n : Nat) by omega, i1, optL]
    rw [dc_of (f := fun r => (.inr (U r.1), .tup [.tup (strL (sortL r.2.1)), .str (U r.2.2)])) hl (fun r hr => by
      simp [(i2 r hr).1, partD, sorted_strs (i2 r hr).2])]
    rw [i3]
    simp [putFD, sorted_strs hv]
    simp [conObj, conF, ownR, mkCon, Con.sorted, Function.comp_def]
  | some s =>
    replace a6 : keysOk 4 s = true := a6
    have e3 := q_are_keys s 4 hc.s.1 hc.s.2 st
    rw [a6] at e3
    simp at e3
    have hs : s.length < 64 := by simp [keysOk] at a6; omega
    simp [m_Contents_needed_signers_2, t_Contents___init__, e1, e2, e3, q_is_between, show ((n : Nat) : Int) ≤ 4 by omega, show (0 : Int) ≤ (n : Nat) by omega, i1, optL]
    rw [dc_of (f := fun r => (.inr (U r.1), .tup [.tup (strL (sortL r.2.1)), .str (U r.2.2)])) hl (fun r hr => by
      simp [(i2 r hr).1, partD, sorted_strs (i2 r hr).2])]
    rw [i3]
    simp [putFD, sorted_strs hv, sorted_strs hs]
    simp [conObj, conF, ownR, mkCon, Con.sorted, Function.comp_def]
/-- what is no contents -/
theorem q_init_bad (rs : List (Tx × List Tx × Tx)) (v : List Tx) (n : Option Nat) (s : List Tx) (hl : rs.length ≤ 1000000) (hr : ∀ r ∈ rs, RowOk r) (hv : v.length < 4000 ∧ LenOk v) (hs : s.length < 4000 ∧ LenOk s)
    (h : ∀ k, n = some k → rawOk ⟨rs, v, k, s⟩ = false) (st : Store) : ∃ p, m_Contents_needed_signers_2 [.dct (rolesD rs), .lst (strL v), optD n, .lst (strL s)] st = .exc "InvalidContents" [("part", p)] st := by
  have e1 := q_are_roles rs hl hr st
  have e2 := q_are_keys v 4 hv.1 hv.2 st
  have e3 := q_are_keys s 4 hs.1 hs.2 st
  simp at e1 e2 e3
  generalize hb1 : (decide (1 ≤ rs.length) && (decide (rs.length ≤ 3) && rs.all fun r => wordB r.1 && (keysOk 8 r.2.1 && wordB r.2.2))) = b1 at e1
  generalize hb2 : keysOk 4 v = b2 at e2
  generalize hb3 : keysOk 4 s = b3 at e3
  cases b1 with
  | false => simp [m_Contents_needed_signers_2, t_Contents___init__, e1]
  | true =>
    cases b2 with
    | false => simp [m_Contents_needed_signers_2, t_Contents___init__, e1, e2]
    | true =>
      cases n with
      | none => simp [m_Contents_needed_signers_2, t_Contents___init__, e1, e2, optD, m_is_between, t_is_between]
      | some k =>
        have hk := h k rfl
        by_cases h4 : k ≤ 4
        · have : b3 = false := by
            cases b3 with
            | false => rfl
            | true =>
              simp only [rawOk] at hk
              rw [hb2, hb3, decide_eq_true h4] at hk
              rw [Bool.and_eq_true, Bool.and_eq_true] at hb1
              obtain ⟨c1, c2, c3⟩ := hb1
              rw [c1, c2, c3] at hk
              cases hk
          subst this
          simp [m_Contents_needed_signers_2, t_Contents___init__, e1, e2, e3, optD, q_is_between, show ((k : Nat) : Int) ≤ 4 by omega, show (0 : Int) ≤ (k : Nat) by omega]
        · simp [m_Contents_needed_signers_2, t_Contents___init__, e1, e2, optD, q_is_between, show ¬ ((k : Nat) : Int) ≤ 4 by omega]
end T78
end
section
set_option Elab.async false
set_option linter.all false
set_option maxRecDepth 100000
set_option maxHeartbeats 1000000
set_option autoImplicit false
/-! the text of contents, as the program writes it -/
namespace MM
open PySem SX DL
theorem join_cons {s a : Tx} {l : List Tx} (h : l ≠ []) : TL.joinL s (a :: l) = a ++ (s ++ TL.joinL s l) := by
  cases l with
  | nil => exact absurd rfl h
  | cons b l => rfl
theorem join_app {s : Tx} : ∀ {a b : List Tx}, a ≠ [] → b ≠ [] → TL.joinL s (a ++ b) = TL.joinL s a ++ (s ++ TL.joinL s b)
  | [], _, h, _ => absurd rfl h
  | [x], b, _, hb => join_cons hb
  | x :: y :: a, b, _, hb => by
    have ih := join_app (s := s) (a := y :: a) (b := b) (by simp) hb
    rw [List.cons_append, join_cons (by simp), ih, join_cons (l := y :: a) (by simp), List.append_assoc, List.append_assoc]
theorem join_len (s : Tx) : ∀ l : List Tx, (TL.joinL s l).length ≤ (l.map (·.length)).sum + l.length * s.length
  | [] => by simp [TL.joinL]
  | [a] => by simp [TL.joinL]
  | a :: b :: l => by
    have ih := join_len s (b :: l)
    rw [join_cons (by simp)]
    simp only [List.length_append, List.map_cons, List.sum_cons, List.length_cons, Nat.add_mul] at ih ⊢
    omega
theorem sum_le {n : Nat} : ∀ {l : List Tx}, (∀ t ∈ l, t.length ≤ n) → (l.map (·.length)).sum ≤ l.length * n
  | [], _ => by simp
  | a :: l, h => by
    have ih := sum_le (n := n) (l := l) fun t ht => h t (List.mem_cons_of_mem _ ht)
    have := h a List.mem_cons_self
    simp only [List.map_cons, List.sum_cons, List.length_cons, Nat.add_mul]
    omega
theorem word_len {t : Tx} (h : wordB t = true) : 1 ≤ t.length ∧ t.length ≤ 8 := (word_iff.mp h).1
theorem keysOk_len {m : Nat} {l : List Tx} (h : keysOk m l = true) : l.length ≤ m := by
  simp [keysOk] at h; exact h.1
theorem keys_sum {m : Nat} {l : List Tx} (h : keysOk m l = true) : (l.map (·.length)).sum ≤ 8 * m := by
  have := sum_le (n := 8) fun t ht => (word_len (keysOk_words h t ht)).2
  have := keysOk_len h
  omega
theorem fk_len {m : Nat} {l : List Tx} (h : keysOk m l = true) (hm : 1 ≤ m) : (fk l).length ≤ 9 * m := by
  unfold fk
  split
  · simp; omega
  · have h1 := join_len [44] l
    have h2 := keys_sum h
    have h3 := keysOk_len h
    simp at h1
    omega
/-- a role's row -/
def rowL (r : Tx × List Tx × Tx) : Tx := r.1 ++ ([32] ++ (fk r.2.1 ++ ([32] ++ r.2.2)))
theorem rowL_join (r : Tx × List Tx × Tx) : TL.joinL [32] [r.1, fk r.2.1, r.2.2] = rowL r := rfl
theorem rowsT_ne {l : List (Tx × List Tx × Tx)} (h : l ≠ []) : rowsT l ≠ [] := by
  match l with
  | [] => exact absurd rfl h
  | [_] => simp [rowsT]
  | _ :: _ :: _ => simp [rowsT]
theorem rows_join : ∀ l : List (Tx × List Tx × Tx), TL.joinL [32] (rowsT l) = TL.joinL [32, 47, 32] (l.map rowL)
  | [] => rfl
  | [r] => rfl
  | r :: s :: l => by
    have ih := rows_join (s :: l)
    have e : rowsT (r :: s :: l) = [r.1, fk r.2.1, r.2.2] ++ ([[47]] ++ rowsT (s :: l)) := rfl
    rw [e, join_app (by simp) (by simp), join_app (by simp) (rowsT_ne (by simp)), ih, rowL_join, List.map_cons, List.map_cons, List.map_cons, join_cons (a := rowL r) (by simp)]
    simp [TL.joinL]
def headL (c : Con) : Tx := TL.joinL [32, 47, 32] (c.roles.map rowL)
def tailL (c : Con) : Tx := fk c.vouch ++ ([32] ++ (TL.numL c.need ++ ([32] ++ fk c.sign)))
theorem tail_join (c : Con) : TL.joinL [32] (tailT c) = tailL c := rfl
theorem fmt_eq {c : Con} (h : c.roles ≠ []) : fmt c = headL c ++ ([32, 124, 32] ++ tailL c) := by
  unfold fmt toks
  rw [join_app (rowsT_ne h) (by simp), rows_join, join_cons (by simp [tailT]), tail_join]
  simp [headL]
theorem raw_ne {c : Con} (h : rawOk c = true) : c.roles ≠ [] := fun e => by
  simp [rawOk, e] at h
theorem row_len {r : Tx × List Tx × Tx} (h : wordB r.1 = true ∧ keysOk 8 r.2.1 = true ∧ wordB r.2.2 = true) : (rowL r).length ≤ 90 := by
  have h1 := (word_len h.1).2
  have h2 := fk_len h.2.1 (by omega)
  have h3 := (word_len h.2.2).2
  simp [rowL]
  omega
theorem raw_parts {c : Con} (h : rawOk c = true) : 1 ≤ c.roles.length ∧ c.roles.length ≤ 3 ∧ keysOk 4 c.vouch = true ∧ c.need ≤ 4 ∧ keysOk 4 c.sign = true := by
  simp only [rawOk, Bool.and_eq_true, decide_eq_true_eq] at h
  exact ⟨h.1, h.2.1, h.2.2.2.1, h.2.2.2.2.1, h.2.2.2.2.2⟩
theorem rows_sum {c : Con} (h : rawOk c = true) : ((c.roles.map rowL).map (·.length)).sum ≤ 270 := by
  have h1 := sum_le (n := 90) (l := c.roles.map rowL) fun t ht => by
    obtain ⟨r, hr, rfl⟩ := List.mem_map.mp ht
    exact row_len (raw_roles h r hr)
  have h2 := (raw_parts h).2.1
  rw [List.length_map] at h1
  omega
theorem head_len {c : Con} (h : rawOk c = true) : (headL c).length ≤ 280 := by
  have h1 := join_len [32, 47, 32] (c.roles.map rowL)
  have h2 := rows_sum h
  have h3 := (raw_parts h).2.1
  simp at h1 h2
  unfold headL
  omega
theorem num1 {n : Nat} (h : n ≤ 4) : TL.numL n = [48 + n] := TL.numL_lt (by omega)
theorem tail_len {c : Con} (h : rawOk c = true) : (tailL c).length ≤ 80 := by
  obtain ⟨h1, h2, h3, h4, h5⟩ := raw_parts h
  have a := fk_len h3 (by omega)
  have b := fk_len h5 (by omega)
  simp [tailL, num1 h4]
  omega
theorem fmt_len {c : Con} (h : rawOk c = true) : (fmt c).length ≤ 363 := by
  have h1 := head_len h
  have h2 := tail_len h
  rw [fmt_eq (raw_ne h)]
  simp
  omega
theorem num_U (n : Nat) : Str.ofString (toString ((n : Nat) : Int)) = U (TL.numL n) := SX.num_S n
end MM
namespace T78
open PySem PySem.Spec L2 DL MM
section
variable {st : Store} {c : Con}
theorem conObj_eq (c : Con) : conObj c = .obj "Contents" [("own_roles", .dct (ownR c.roles)), ("own_vouchers", .tup (strL c.vouch)), ("own_needed", .int c.need), ("own_signers", .tup (strL c.sign))] := rfl
@[simp] theorem con_ins : insOf st (conObj c) = some ((Str.ofString "Contents"), conF c) := rfl
@[simp] theorem con_l1 : List.lookup (Str.ofString "part_of") (conF c) = none := by simp [conF]
@[simp] theorem con_l2 : List.lookup (Str.ofString "accepted") (conF c) = none := by simp [conF]
@[simp] theorem con_l3 : List.lookup (Str.ofString "used") (conF c) = none := by simp [conF]
@[simp] theorem con_l4 : List.lookup (Str.ofString "state") (conF c) = none := by simp [conF]
@[simp] theorem con_f1 : List.lookup (Str.ofString "own_roles") (conF c) = some (.dct (ownR c.roles)) := by simp [conF, ownR]
@[simp] theorem con_f2 : List.lookup (Str.ofString "own_vouchers") (conF c) = some (.tup (strL c.vouch)) := by simp [conF]
@[simp] theorem con_f3 : List.lookup (Str.ofString "own_needed") (conF c) = some (.int c.need) := by simp [conF]
@[simp] theorem con_f4 : List.lookup (Str.ofString "own_signers") (conF c) = some (.tup (strL c.sign)) := by simp [conF]
theorem q_roles (c : Con) (st : Store) : m_Contents_roles [conObj c] st = .ok (.lst (strL (c.roles.map (·.1)))) st := by
  simp [m_Contents_roles, t_Contents_roles, ownR, strL, Function.comp_def]
theorem q_vouchers (c : Con) (st : Store) : m_Contents_vouchers [conObj c] st = .ok (.lst (strL c.vouch)) st := by
  simp [m_Contents_vouchers, t_Contents_vouchers]
theorem q_signers (c : Con) (st : Store) : m_Contents_signers [conObj c] st = .ok (.lst (strL c.sign)) st := by
  simp [m_Contents_signers, t_Contents_signers]
theorem q_needed (c : Con) (st : Store) : m_Contents_needed [conObj c] st = .ok (.int c.need) st := by
  simp [m_Contents_needed, t_Contents_needed]
theorem valD_own : ∀ {rs : List (Tx × List Tx × Tx)} {r : Tx × List Tx × Tx}, (rs.map (·.1)).Nodup → r ∈ rs → valD (ownR rs) (.inr (U r.1)) = some (.tup [.tup (strL r.2.1), .str (U r.2.2)])
  | [], _, _, h => by simp at h
  | x :: rs, r, nd, h => by
    rw [List.map_cons, List.nodup_cons] at nd
    show valD ((.inr (U x.1), .tup [.tup (strL x.2.1), .str (U x.2.2)]) :: ownR rs) _ = _
    rw [valD_cons]
    rcases List.mem_cons.mp h with rfl | h
    · simp
    · have hne : x.1 ≠ r.1 := fun e => nd.1 (by rw [e]; exact List.mem_map.mpr ⟨r, h, rfl⟩)
      rw [if_neg (by simpa using hne)]
      exact valD_own nd.2 h
theorem q_part_of (c : Con) (h : rawOk c = true) (nd : RNd c) {r : Tx × List Tx × Tx} (hr : r ∈ c.roles) (st : Store) : m_Contents_part_of [conObj c, .str (U r.1)] st = .ok (.tup [.tup (strL r.2.1), .str (U r.2.2)]) st := by
  have w := (raw_roles h r hr).1
  have l := (word_len w).2
  simp [m_Contents_part_of, t_Contents_part_of, q_is_word r.1 (by omega), w, valD_own nd hr]
theorem q_accepted (c : Con) (h : rawOk c = true) (nd : RNd c) {r : Tx × List Tx × Tx} (hr : r ∈ c.roles) (st : Store) : m_Contents_accepted [conObj c, .str (U r.1)] st = .ok (.lst (strL r.2.1)) st := by
  simp [m_Contents_accepted, t_Contents_accepted, q_part_of c h nd hr]
theorem q_used (c : Con) (h : rawOk c = true) (nd : RNd c) {r : Tx × List Tx × Tx} (hr : r ∈ c.roles) (st : Store) : m_Contents_used [conObj c, .str (U r.1)] st = .ok (.str (U r.2.2)) st := by
  simp [m_Contents_used, t_Contents_used, q_part_of c h nd hr]
theorem q_format_keys {m : Nat} {l : List Tx} (h : keysOk m l = true) (hm : m ≤ 8) (st : Store) : m_format_keys [.lst (strL l)] st = .ok (.str (U (fk l))) st := by
  have h1 := keys_sum h
  have h2 := keysOk_len h
  simp [m_format_keys, t_format_keys, l_comma, l_minus, fk]
  rw [join_r (l := l) (by simp) (by simp; omega)]
  cases l with
  | nil => simp
  | cons a l => simp
@[simp] theorem fmt_strU {z : Tx} : fmtD (.str (U z)) = if z.length ≤ 16777216 then some (.str (U z)) else none := by simp [fmtD]
theorem fmt_str {z : Tx} (h : z.length ≤ 16777216) : fmtD (.str (U z)) = some (.str (U z)) := by simp [fmtD, h]
theorem fmt_num {n : Nat} (h : n ≤ 4) : fmtD (.int n) = some (.str (U (TL.numL n))) := by
  have : n = 0 ∨ n = 1 ∨ n = 2 ∨ n = 3 ∨ n = 4 := by omega
  show (if ((n : Nat) : Int).natAbs.log2 < 1920 then some (D.str (Str.ofString (toString ((n : Nat) : Int)))) else none) = _
  rw [if_pos (by rcases this with rfl | rfl | rfl | rfl | rfl <;> decide)]
  exact congrArg (fun z => some (D.str z)) (num_U n)
theorem q_format_contents (c : Con) (h : rawOk c = true) (nd : RNd c) (st : Store) : m_format_contents [conObj c] st = .ok (.str (U (fmt c))) st := by
  obtain ⟨p1, p2, p3, p4, p5⟩ := raw_parts h
  have hh := head_len h
  have ht := tail_len h
  have hs := rows_sum h
  have v1 := fk_len p3 (by omega)
  have v2 := fk_len p5 (by omega)
  have er : strL (c.roles.map (·.1)) = c.roles.map fun r => .str (U r.1) := by simp [strL, Function.comp_def]
  simp [m_format_contents, t_format_contents, q_roles, q_vouchers, q_signers, q_needed, q_format_keys p3, q_format_keys p5, l_slash, l_bar, l_blank, er, fmt_num p4]
  rw [lc_of (f := fun r => D.str (U (rowL r))) (by omega) (fun r hr => by
    have hr' := raw_roles h r hr
    have k1 := (word_len hr'.1).2
    have k2 := fk_len hr'.2.1 (by omega)
    have k3 := (word_len hr'.2.2).2
    simp [q_accepted c h nd hr, q_used c h nd hr, q_format_keys hr'.2.1, rowL]
    repeat rw [if_pos (by omega)])]
  have el : (c.roles.map fun r => D.str (U (rowL r))) = strL (c.roles.map rowL) := by simp [strL, Function.comp_def]
  have tl : (tailL c).length = (fk c.vouch).length + 1 + 1 + 1 + (fk c.sign).length := by simp [tailL, num1 p4]; omega
  have ej : joinF (U [32, 47, 32]) st [.lst (strL (c.roles.map rowL))] = some (.str (U (headL c))) := join_r (l := c.roles.map rowL) (by simp) (by simp at hs ⊢; omega)
  rw [el, fmt_eq (raw_ne h)]
  simp [q_vouchers, q_signers, q_needed, q_format_keys p3, q_format_keys p5, fmt_num p4, num1 p4, ej, tailL]
  repeat rw [if_pos (by omega)]
/-! equal contents -/
theorem word_ok {t : Tx} (h : wordB t = true) : PyData.strOk (U t) = true := by
  have h2 := (word_iff.mp h).2
  have h1 := (word_iff.mp h).1.2
  unfold PyData.strOk
  rw [← Array.all_toList, List.all_eq_true]
  intro c hc
  have := h2 c hc
  exact decide_eq_true (by omega)
theorem lay_strs : ∀ l : List Tx, (∀ t ∈ l, wordB t = true) → PyData.canLayAll0 (l.map fun t => PyData.str (U t)) = true
  | [], _ => rfl
  | a :: r, h => by simp [PyData.canLayAll0, PyData.canLay0, word_ok (h a List.mem_cons_self), lay_strs r fun t ht => h t (List.mem_cons_of_mem _ ht)]
theorem depth_strs : ∀ l : List Tx, PyData.depthAll (l.map fun t => PyData.str (U t)) = 0
  | [] => rfl
  | a :: r => by simp [PyData.depthAll, PyData.depth, depth_strs r]
theorem pyAll_strL (l : List Tx) : pyAll (strL l) = some (l.map fun t => PyData.str (U t)) := by
  induction l with
  | nil => rfl
  | cons a l ih => simp [strL, pyAll, pyOf] at ih ⊢; rw [ih]
theorem sh_tup {l : List Tx} (h : ∀ t ∈ l, wordB t = true) : shB (.tup (strL l)) = true := by
  simp [shB, pyOf, pyAll_strL, SeqAt.shaped, PyData.canLay0, PyData.depth, lay_strs l h, depth_strs]
theorem sh_part {l : List Tx} {t : Tx} (h : ∀ t ∈ l, wordB t = true) (ht : wordB t = true) : shB (.tup [.tup (strL l), .str (U t)]) = true := by
  simp [shB, pyOf, pyAll, pyAll_strL, SeqAt.shaped, PyData.canLay0, PyData.canLayAll0, PyData.depth, PyData.depthAll, lay_strs l h, depth_strs, word_ok ht]
theorem sh_int (i : Int) : shB (.int i) = true := by simp [shB, pyOf, SeqAt.shaped, PyData.canLay0, PyData.depth]
theorem q_state (c : Con) (st : Store) : m_Contents_state [conObj c] st = .ok (.tup [.dct (ownR c.roles), .tup (strL c.vouch), .int c.need, .tup (strL c.sign)]) st := by
  simp [m_Contents_state, t_Contents_state]
theorem q_eq (c : Con) (h : rawOk c = true) (nd : RNd c) (st : Store) : m_Contents___eq__ [conObj c, conObj c] st = .ok (.bl true) st := by
  have hc : isinstF Zs st [conObj c, .ob "Contents"] = some (.bl true) := i_con_con
  obtain ⟨p1, p2, p3, p4, p5⟩ := raw_parts h
  have h0 : eqD0 st (.tup [.dct (ownR c.roles), .tup (strL c.vouch), .int c.need, .tup (strL c.sign)]) (.tup [.dct (ownR c.roles), .tup (strL c.vouch), .int c.need, .tup (strL c.sign)]) = none := by
    simp [eqD0, deepEq, deref, pyOf, pyAll]
  have e : itB (.dct (ownR c.roles)) = true := by
    simp only [itB, Bool.and_eq_true, decide_eq_true_eq, List.all_eq_true]
    refine ⟨ownR_nodup nd, fun kv hk => ?_⟩
    obtain ⟨r, hr, rfl⟩ := List.mem_map.mp hk
    have := raw_roles h r hr
    exact sh_part (keysOk_words this.2.1) this.2.2
  have h1 : eqT (.tup [.dct (ownR c.roles), .tup (strL c.vouch), .int c.need, .tup (strL c.sign)]) (.tup [.dct (ownR c.roles), .tup (strL c.vouch), .int c.need, .tup (strL c.sign)]) = some (.bl true) := by
    show (if _ then _ else _) = _
    rw [if_pos ⟨D.beqs_refl _, by rw [List.all_cons, e]; simp [itB, sh_tup (keysOk_words p3), sh_tup (keysOk_words p5), sh_int]⟩]
  simp [m_Contents___eq__, t_Contents___eq__, hc, q_state, eqD, h0, h1]
end
end T78
end
section
set_option Elab.async false
set_option linter.all false
set_option maxRecDepth 100000
set_option autoImplicit false
/-! DL: loops, try, cells, for simp -/
namespace MM
open PySem PySem.Spec L2 DL
section
variable {st s s' : Store} {d : D} {i j n : Nat} {env env' : DEnv}
@[simp] theorem sFor_ap {it : IR} {p : Pat} {fb : SR} : sFor it p fb env st = liftE env (it env st) fun wd s => forGo wd.ok (turnS p fb) wd.items env s := (rfl)
def oTurn (o : Option DEnv) (fb : SR) (s : Store) : SO := match o with
  | some env' => fb env' s
  | none => .bad
@[simp] theorem turn_ap {p : Pat} {fb : SR} : turnS p fb d env st = oTurn (bindP p d st env) fb st := (rfl)
@[simp] theorem oTurn_some {fb : SR} : oTurn (some env) fb st = fb env st := (rfl)
@[simp] theorem asI_ok {k : Int} : asI (.ok (.int k) st) = .ok k st := (rfl)
@[simp] theorem iRng1_ap {fa : ER} : iRng1 fa env st = (asI (fa env st)).bind fun j s => .opt (rg1 j) s := (rfl)
@[simp] theorem iRng3_ap {fa fb fc : ER} : iRng3 fa fb fc env st = (asI (fa env st)).bind fun i s => (asI (fb env s)).bind fun j s2 => (asI (fc env s2)).bind fun c s3 => .opt (rg3 i j c) s3 := (rfl)
theorem rg1_n {n : Nat} (h : n < 2 ^ 62) : rg1 (n : Int) = some ⟨(List.range n).map fun (j : Nat) => .int (j : Int), none⟩ := by
  unfold rg1
  rw [if_pos ⟨by omega, by omega⟩]
  simp [rgW]
/-- a loop that keeps something -/
theorem for_inv {body : D → DEnv → Store → SO} {α : Type} {g : α → D} (I : List α → DEnv → Store → Prop) : ∀ {l done : List α}, (∀ pre x post, done ++ l = pre ++ x :: post → x ∈ l → ∀ env s, I pre env s → ∃ env' s', body (g x) env s = .nx env' s' ∧ I (pre ++ [x]) env' s') →
    ∀ {env : DEnv} {s : Store}, I done env s → ∃ env' s', forGo (WD.ok ⟨l.map g, none⟩) body (l.map g) env s = .nx env' s' ∧ I (done ++ l) env' s' := by
  have key : ∀ (wd : WD), wd.guard = none → ∀ {l done : List α}, (∀ pre x post, done ++ l = pre ++ x :: post → x ∈ l → ∀ env s, I pre env s → ∃ env' s', body (g x) env s = .nx env' s' ∧ I (pre ++ [x]) env' s') →
    ∀ {env : DEnv} {s : Store}, I done env s → ∃ env' s', forGo wd.ok body (l.map g) env s = .nx env' s' ∧ I (done ++ l) env' s' := by
    intro wd hw l
    have ho : ∀ s, wd.ok s = true := fun s => by unfold WD.ok; rw [hw]
    induction l with
    | nil =>
      intro done _ env s h
      refine ⟨env, s, ?_, by rw [List.append_nil]; exact h⟩
      show (if wd.ok s = true then SO.nx env s else .bad) = _
      rw [if_pos (ho s)]
    | cons x l ih =>
      intro done h env s hi
      obtain ⟨env1, s1, e1, i1⟩ := h done x l rfl List.mem_cons_self env s hi
      obtain ⟨env2, s2, e2, i2⟩ := ih (done := done ++ [x]) (fun pre y post e hy env s hI => h pre y post (by rw [← e, List.append_assoc]; rfl) (List.mem_cons_of_mem _ hy) env s hI) i1
      refine ⟨env2, s2, ?_, by rw [List.append_assoc] at i2; exact i2⟩
      show (if wd.ok s = true then match body (g x) env s with
        | .nx env' s' => forGo wd.ok body (l.map g) env' s'
        | .ct env' s' => forGo wd.ok body (l.map g) env' s'
        | .bk env' s' => .nx env' s'
        | o => o else .bad) = _
      rw [if_pos (ho s), e1]
      exact e2
  exact fun {l done} h {env s} hi => key ⟨l.map g, none⟩ rfl h hi
theorem for_rng {body : D → DEnv → Store → SO} {g : Nat → D} (I : Nat → DEnv → Store → Prop) {n : Nat} (h : ∀ j, j < n → ∀ env s, I j env s → ∃ env' s', body (g j) env s = .nx env' s' ∧ I (j + 1) env' s') {env : DEnv} {s : Store} (hi : I 0 env s) :
    ∃ env' s', forGo (WD.ok ⟨(List.range n).map g, none⟩) body ((List.range n).map g) env s = .nx env' s' ∧ I n env' s' := by
  obtain ⟨env', s', e, i⟩ := for_inv (g := g) (l := List.range n) (done := []) (fun pre env s => I pre.length env s) (fun pre x post e hx env s hI => by
    have hl : pre.length = x := by
      have e2 : (List.range n)[pre.length]? = some x := by
        rw [show List.range n = pre ++ x :: post from e]; simp
      rw [List.getElem?_range (by
        have := congrArg List.length e
        simp at this
        omega)] at e2
      exact Option.some.inj e2
    obtain ⟨env', s', e1, i1⟩ := h x (List.mem_range.mp hx) env s (by rw [← hl]; exact hI)
    exact ⟨env', s', e1, by rw [List.length_append, hl]; exact i1⟩) hi
  refine ⟨env', s', e, ?_⟩
  simpa using i
/-! try -/
def oTry (m : Exm) (o : SO) (fh : SR) : SO := match o with
  | .exc y fs env' s' => (match m y with
    | some true => noexcS (fh env' s')
    | some false => .exc y fs env' s'
    | none => .bad)
  | o => o
@[simp] theorem sTry_ap {m : Exm} {fb fh : SR} : sTry m fb fh env st = oTry m (fb env st) fh := (rfl)
@[simp] theorem oTry_nx {m : Exm} {fh : SR} : oTry m (.nx env st) fh = .nx env st := (rfl)
@[simp] theorem oTry_rt {m : Exm} {fh : SR} : oTry m (.rt d st) fh = .rt d st := (rfl)
theorem oTry_exc {m : Exm} {fh : SR} {y : Str} {fs : List (Str × D)} (h : m y = some true) : oTry m (.exc y fs env st) fh = noexcS (fh env st) := by
  simp [oTry, h]
@[simp] theorem noexcS_rt : noexcS (.rt d st) = .rt d st := (rfl)
@[simp] theorem noexcS_nx : noexcS (.nx env st) = .nx env st := (rfl)
def oTryAs (m : Exm) (hes : List HE) (o : SO) (i : Nat) : SO := match o with
  | .exc y fs env' s' => (match m y with
    | some true => (match hesD y fs s' hes with
      | some ds => if i < env'.length ∧ ds.length ≤ sizeLine then .rt (.lst ds) s' else .bad
      | none => .bad)
    | some false => .exc y fs env' s'
    | none => .bad)
  | o => o
@[simp] theorem sTryAs_ap {m : Exm} {hes : List HE} {fb : SR} : sTryAs i m hes fb env st = oTryAs m hes (fb env st) i := (rfl)
@[simp] theorem oTryAs_nx {m : Exm} {hes : List HE} : oTryAs m hes (.nx env st) i = .nx env st := (rfl)
theorem oTryAs_exc {m : Exm} {hes : List HE} {y : Str} {fs : List (Str × D)} {ds : List D} (h : m y = some true) (h2 : hesD y fs st hes = some ds) (h3 : i < env.length) (h4 : ds.length ≤ 16777216) : oTryAs m hes (.exc y fs env st) i = .rt (.lst ds) st := by
  simp [oTryAs, h, h2, h3, h4]
/-! == by an own def -/
def oOeq (neg : Bool) (C : Str) (o1 o2 : Option (Str × List (Str × D))) (r : Out D) : Out D := match o1, o2 with
  | some (c1, _), some (c2, _) => if c1 = C ∧ c2 = C then (match r with
    | .ok (.bl b) s3 => .ok (.bl (if neg = true then !b else b)) s3
    | _ => .bad) else .bad
  | _, _ => .bad
@[simp] theorem fOeq_ap {neg : Bool} {C : Str} {m : FnM} {fa fb : ER} : fOeq neg C m fa fb env st = (fa env st).bind fun x s1 => (fb env s1).bind fun y s2 => oOeq neg C (insOf s2 x) (insOf s2 y) (m [x, y] s2) := (rfl)
@[simp] theorem oOeq_some {neg b : Bool} {C : Str} {f1 f2 : List (Str × D)} : oOeq neg C (some (C, f1)) (some (C, f2)) (.ok (.bl b) st) = .ok (.bl (if neg = true then !b else b)) st := by simp [oOeq]
/-! lists in the store -/
def oPutC (st : Store) (l k d : D) (env : DEnv) : SO := match l, k with
  | .cell j, .int n => match st[j]? with
    | some (.lst xs) => match ixN xs.length n with
      | some m => .nx env (st.set j (.lst (xs.set m d)))
      | none => .bad
    | _ => .bad
  | _, _ => .bad
@[simp] theorem sPutC_ap {fo fi fv : ER} : sPutC fo fi fv env st = liftE env (fv env st) fun d s => liftE env (fo env s) fun l s1 => liftE env (fi env s1) fun k s2 => oPutC s2 l k d env := (rfl)
theorem putC_of {j : Nat} {xs : List D} {n : Int} {m : Nat} (h : st[j]? = some (.lst xs)) (hm : ixN xs.length n = some m) : oPutC st (.cell j) (.int n) d env = .nx env (st.set j (.lst (xs.set m d))) := by
  simp [oPutC, h, hm]
/-! turns that draw -/
theorem turns_ex {α β : Type} {ok : Store → Bool} {step : D → Store → Out (Option β)} {g : α → D} (ho : okT ok) (V : Store → Prop) (P : α → Option β → Prop) : ∀ {l : List α} {s : Store}, V s → (∀ x ∈ l, ∀ s, V s → ∃ o s', step (g x) s = .ok o s' ∧ V s' ∧ P x o) →
    ∃ (os : List (Option β)) (s' : Store), turns ok step (l.map g) s = .ok ((os.map Option.toList).flatten) s' ∧ V s' ∧ os.length = l.length ∧ ∀ (i : Nat) x o, l[i]? = some x → os[i]? = some o → P x o
  | [], s, hv, _ => ⟨[], s, by simp [turns, ho s], hv, rfl, fun i x o h => by simp at h⟩
  | x :: l, s, hv, h => by
    obtain ⟨o, s1, e1, v1, p1⟩ := h x List.mem_cons_self s hv
    obtain ⟨os, s2, e2, v2, l2, p2⟩ := turns_ex (l := l) ho V P v1 fun y hy => h y (List.mem_cons_of_mem _ hy)
    refine ⟨o :: os, s2, ?_, v2, by simp [l2], fun i => ?_⟩
    · show (if ok s = true then (step (g x) s).bind fun o s1 => (turns ok step (l.map g) s1).bind fun r s2 => .ok (o.toList ++ r) s2 else .bad) = _
      rw [if_pos (ho s), e1, Out.bind_ok, e2, Out.bind_ok]
      simp
    · cases i with
      | zero => intro a b ha hb; simp at ha hb; subst ha; subst hb; exact p1
      | succ i => intro a b ha hb; exact p2 i a b (by simpa using ha) (by simpa using hb)
end
end MM
end
section
set_option Elab.async false
set_option linter.all false
set_option maxRecDepth 100000
set_option maxHeartbeats 1000000
set_option autoImplicit false
/-! reading contents: the mathematics -/
namespace MM
open PySem SX DL
abbrev Rw := Tx × List Tx × Tx
def kf (k : Tx) : List Tx := if k = [45] then [] else sp 44 k
def putR (rs : List Rw) (r : Rw) : List Rw := if rs.any (fun x => decide (x.1 = r.1)) = true then rs.map (fun x => if x.1 = r.1 then r else x) else rs ++ [r]
def rowAt (w : List Tx) (j : Nat) : Rw := (w.getD (4 * j) [], kf (w.getD (4 * j + 1) []), w.getD (4 * j + 2) [])
def foldR (w : List Tx) : Nat → List Rw
  | 0 => []
  | j + 1 => putR (foldR w j) (rowAt w j)
def halves (x : Tx) : List Tx := TL.spl [32, 124, 32] 0 [] x
def numRows (w : List Tx) : Nat := (w.length + 1) / 4
def readF (x : Tx) : Option Con := match halves x with
  | [h1, h2] => (match sp 32 h2 with
    | [v, n, s] => if (sp 32 h1).length % 4 = 3 then (match numV n with
      | some k => if rawOk ⟨foldR (sp 32 h1) (numRows (sp 32 h1)), kf v, k, kf s⟩ = true ∧ fmt (Con.sorted ⟨foldR (sp 32 h1) (numRows (sp 32 h1)), kf v, k, kf s⟩) = x then some (Con.sorted ⟨foldR (sp 32 h1) (numRows (sp 32 h1)), kf v, k, kf s⟩) else none
      | none => none) else none
    | _ => none)
  | _ => none
theorem putR_names (rs : List Rw) (r : Rw) : (putR rs r).map (·.1) = if r.1 ∈ rs.map (·.1) then rs.map (·.1) else rs.map (·.1) ++ [r.1] := by
  unfold putR
  by_cases h : rs.any (fun x => decide (x.1 = r.1)) = true
  · rw [if_pos h]
    have hm : r.1 ∈ rs.map (·.1) := by
      obtain ⟨x, hx, e⟩ := List.any_eq_true.mp h
      exact List.mem_map.mpr ⟨x, hx, of_decide_eq_true e⟩
    rw [if_pos hm, List.map_map]
    refine List.map_congr_left fun x hx => ?_
    show (if x.1 = r.1 then r else x).1 = x.1
    by_cases e : x.1 = r.1
    · rw [if_pos e, e]
    · rw [if_neg e]
  · rw [if_neg h, if_neg, List.map_append]; rfl
    intro hm
    obtain ⟨x, hx, e⟩ := List.mem_map.mp hm
    exact h (List.any_eq_true.mpr ⟨x, hx, decide_eq_true e⟩)
theorem foldR_nodup (w : List Tx) : ∀ n, ((foldR w n).map (·.1)).Nodup
  | 0 => by simp [foldR]
  | n + 1 => by
    have ih := foldR_nodup w n
    show ((putR (foldR w n) (rowAt w n)).map (·.1)).Nodup
    rw [putR_names]
    split
    · exact ih
    · rename_i h
      exact List.nodup_append.mpr ⟨ih, by simp, fun a ha b hb e => h (by simp at hb; rw [← hb, ← e]; exact ha)⟩
theorem foldR_mem (w : List Tx) : ∀ n, ∀ r ∈ foldR w n, ∃ j, j < n ∧ r = rowAt w j
  | 0, r, h => by simp [foldR] at h
  | n + 1, r, h => by
    have ih := foldR_mem w n
    have h : r ∈ putR (foldR w n) (rowAt w n) := h
    unfold putR at h
    split at h
    · obtain ⟨x, hx, e⟩ := List.mem_map.mp h
      by_cases e1 : x.1 = (rowAt w n).1
      · rw [if_pos e1] at e; exact ⟨n, by omega, e.symm⟩
      · rw [if_neg e1] at e
        obtain ⟨j, hj, e2⟩ := ih x hx
        exact ⟨j, by omega, by rw [← e, e2]⟩
    · rcases List.mem_append.mp h with h | h
      · obtain ⟨j, hj, e2⟩ := ih r h
        exact ⟨j, by omega, e2⟩
      · exact ⟨n, by omega, by simpa using h⟩
theorem foldR_len (w : List Tx) : ∀ n, (foldR w n).length ≤ n
  | 0 => by simp [foldR]
  | n + 1 => by
    have ih := foldR_len w n
    show (putR (foldR w n) (rowAt w n)).length ≤ n + 1
    unfold putR
    split <;> simp <;> omega
theorem readF_some {x : Tx} {c : Con} (h : readF x = some c) : canon c ∧ fmt c = x := by
  unfold readF at h
  split at h
  · split at h
    · split at h
      · split at h
        · split at h
          · rename_i hh
            have h := Option.some.inj h
            subst h
            exact ⟨canon_sorted hh.1 (foldR_nodup _ _), hh.2⟩
          · cases h
        · cases h
      · cases h
    · cases h
  · cases h
/-- no text of contents -/
theorem readF_none {x : Tx} (h : canB 3 none (sp 32 x) = false) : readF x = none := by
  cases e : readF x with
  | none => rfl
  | some c =>
    obtain ⟨h1, h2⟩ := readF_some e
    have := can_fmt h1
    rw [h2, h] at this
    cases this
/-! ### what was written is read -/
theorem kf_fk {m : Nat} {l : List Tx} (h : keysOk m l = true) : kf (fk l) = l := by
  unfold kf fk
  by_cases hl : l = []
  · simp [hl]
  · rw [if_neg hl]
    have e : sp 44 (TL.joinL [44] l) = l := sp_join hl fun t ht => word_not (keysOk_words h t ht) (by omega)
    have hn : TL.joinL [44] l ≠ [45] := fun z => by
      rw [z] at e
      have e2 : sp 44 [45] = [[45]] := by decide
      rw [e2] at e
      have := keysOk_words h [45] (by rw [← e]; simp)
      simp [wordB, lowB] at this
    rw [if_neg hn, e]
theorem numV_num {n : Nat} (h : n ≤ 4) : numV (TL.numL n) = some n := by
  rw [num1 h]
  have : n = 0 ∨ n = 1 ∨ n = 2 ∨ n = 3 ∨ n = 4 := by omega
  rcases this with rfl | rfl | rfl | rfl | rfl <;> decide
theorem rowsT_len : ∀ {l : List Rw}, l ≠ [] → (rowsT l).length + 1 = 4 * l.length
  | [], h => absurd rfl h
  | [r], _ => rfl
  | r :: s :: l, _ => by
    have ih := rowsT_len (l := s :: l) (by simp)
    simp only [rowsT, List.length_cons] at ih ⊢
    omega
theorem rowAt_rows {m : Nat} : ∀ {l : List Rw} {j : Nat} {r : Rw}, l[j]? = some r → (∀ r ∈ l, keysOk m r.2.1 = true) → rowAt (rowsT l) j = r
  | [], j, r, h, _ => by simp at h
  | [a], j, r, h, hk => by
    cases j with
    | zero =>
      simp at h; subst h
      simp [rowAt, rowsT, kf_fk (hk a (by simp))]
    | succ j => simp at h
  | a :: b :: l, j, r, h, hk => by
    cases j with
    | zero =>
      simp at h; subst h
      simp [rowAt, rowsT, kf_fk (hk a (by simp))]
    | succ j =>
      have ih := rowAt_rows (l := b :: l) (j := j) (r := r) (by simpa using h) fun x hx => hk x (List.mem_cons_of_mem _ hx)
      have e : ∀ (p q s t : Tx) (w : List Tx), rowAt (p :: q :: s :: t :: w) (j + 1) = rowAt w j := fun p q s t w => by
        simp only [rowAt, List.getD_eq_getElem?_getD, show 4 * (j + 1) = 4 * j + 1 + 1 + 1 + 1 by omega, show 4 * j + 1 + 1 + 1 + 1 + 1 = (4 * j + 1) + 1 + 1 + 1 + 1 by omega, show 4 * j + 1 + 1 + 1 + 1 + 2 = (4 * j + 2) + 1 + 1 + 1 + 1 by omega, List.getElem?_cons_succ]
      show rowAt (a.1 :: fk a.2.1 :: a.2.2 :: [47] :: rowsT (b :: l)) (j + 1) = r
      rw [e, ih]
theorem foldR_rows {m : Nat} {l : List Rw} (hk : ∀ r ∈ l, keysOk m r.2.1 = true) (nd : (l.map (·.1)).Nodup) : ∀ n, n ≤ l.length → foldR (rowsT l) n = l.take n
  | 0, _ => by simp [foldR]
  | n + 1, h => by
    have ih := foldR_rows hk nd n (by omega)
    obtain ⟨r, hr⟩ : ∃ r, l[n]? = some r := ⟨l[n], List.getElem?_eq_getElem (by omega)⟩
    show putR (foldR (rowsT l) n) (rowAt (rowsT l) n) = _
    rw [ih, rowAt_rows hr hk]
    have e : l.take (n + 1) = l.take n ++ [r] := by rw [List.take_succ, hr]; rfl
    rw [e]
    unfold putR
    rw [if_neg]
    intro z
    obtain ⟨x, hx, e1⟩ := List.any_eq_true.mp z
    have e1 := of_decide_eq_true e1
    have nd2 : ((l.take (n + 1)).map (·.1)).Nodup := nd.sublist ((List.take_sublist _ _).map _)
    rw [e, List.map_append] at nd2
    exact (List.nodup_append.mp nd2).2.2 x.1 (List.mem_map.mpr ⟨x, hx, rfl⟩) r.1 (by simp) e1
theorem sorted_canon {c : Con} (h : canon c) : c.sorted = c := by
  obtain ⟨h0, h1, h2, h3, h4⟩ := h
  obtain ⟨rs, v, n, s⟩ := c
  have e1 : sortR rs = rs := by
    refine List.mergeSort_of_pairwise (le := rowLe) ?_
    have := asc_pairwise h1
    rw [List.pairwise_map] at this
    exact this.imp fun {a b} z => by
      have : ¬ b.1 < a.1 := fun y => List.lt_irrefl _ (List.lt_trans z y)
      simp [rowLe, this]
  have e2 : rs.map (fun r => (r.1, sortL r.2.1, r.2.2)) = rs := by
    have : rs.map (fun r => (r.1, sortL r.2.1, r.2.2)) = rs.map id := List.map_congr_left fun r hr => by rw [asc_sort (h2 r hr)]; rfl
    rw [this, List.map_id]
  simp only [Con.sorted, e1, e2, asc_sort h3, asc_sort h4]
theorem canon_nd {c : Con} (h : canon c) : RNd c := asc_nodup h.2.1
theorem rows_nobar {c : Con} (h : rawOk c = true) : 124 ∉ headL c := fun hc => by
  rcases mem_join hc with hc | ⟨t, ht, hc⟩
  · simp at hc
  · obtain ⟨r, hr, rfl⟩ := List.mem_map.mp ht
    obtain ⟨w1, w2, w3⟩ := raw_roles h r hr
    have a := word_not w1 (c := 124) (by omega)
    have b := word_not w3 (c := 124) (by omega)
    have d : 124 ∉ fk r.2.1 := fun z => by have := fk_kp (keysOk_words w2) 124 z; omega
    simp [rowL, a, b, d] at hc
theorem tail_nobar {c : Con} (h : rawOk c = true) : 124 ∉ tailL c := fun hc => by
  obtain ⟨h1, h2, h3, h4, h5⟩ := raw_parts h
  have a : 124 ∉ fk c.vouch := fun z => by have := fk_kp (keysOk_words h3) 124 z; omega
  have b : 124 ∉ fk c.sign := fun z => by have := fk_kp (keysOk_words h5) 124 z; omega
  simp [tailL, a, b, num1 h4] at hc
  omega
theorem pre_bar {p q : Tx} {i : Nat} (h : 124 ∉ p) (hi : i < p.length) : TL.pre [32, 124, 32] ((p ++ ([32, 124, 32] ++ q)).drop i) = false := by
  rw [List.drop_append_of_le_length (by omega)]
  have hm : ∀ x ∈ p.drop i, x ≠ 124 := fun x hx e => h (by rw [← e]; exact List.mem_of_mem_drop hx)
  obtain ⟨a, r, e⟩ : ∃ a r, p.drop i = a :: r := by
    cases e : p.drop i with
    | nil => have := congrArg List.length e; simp at this; omega
    | cons a r => exact ⟨a, r, rfl⟩
  rw [e] at hm ⊢
  cases r with
  | nil => simp [TL.pre]
  | cons b r =>
    have := hm b (by simp)
    simp [TL.pre]
    intro _ z
    exact absurd z.symm fun y => this y.symm
theorem pre_bar2 {p : Tx} {i : Nat} (h : 124 ∉ p) : TL.pre [32, 124, 32] (p.drop i) = false := by
  have hm : ∀ x ∈ p.drop i, x ≠ 124 := fun x hx e => h (by rw [← e]; exact List.mem_of_mem_drop hx)
  cases e : p.drop i with
  | nil => rfl
  | cons a r =>
    rw [e] at hm
    cases r with
    | nil => simp [TL.pre]
    | cons b r =>
      have := hm b (by simp)
      simp [TL.pre]
      intro _ z
      exact absurd z.symm fun y => this y.symm
/-- two halves -/
theorem halves_two {p q : Tx} (hp : 124 ∉ p) (hq : 124 ∉ q) : halves (p ++ ([32, 124, 32] ++ q)) = [p, q] := by
  unfold halves
  have e := TL.spl_part (acc := []) (S := [32, 124, 32]) (p := p) (rest := q) (by simp) fun i hi => pre_bar hp hi
  rw [e, TL.spl_last fun i _ => pre_bar2 hq]
  rfl
theorem sp_head {c : Con} (h : rawOk c = true) : sp 32 (headL c) = rowsT c.roles := by
  unfold headL
  rw [← rows_join]
  exact sp_join (rowsT_ne (raw_ne h)) fun t ht => pl_no (rows_pl (raw_roles h) t ht)
theorem sp_tail {c : Con} (h : rawOk c = true) : sp 32 (tailL c) = tailT c := by
  rw [← tail_join]
  exact sp_join (by simp [tailT]) fun t ht => pl_no (tail_pl h t ht)
theorem readF_fmt {c : Con} (h : canon c) : readF (fmt c) = some c := by
  have h0 := h.1
  have hn := raw_ne h0
  obtain ⟨p1, p2, p3, p4, p5⟩ := raw_parts h0
  have e1 : halves (fmt c) = [headL c, tailL c] := by rw [fmt_eq hn]; exact halves_two (rows_nobar h0) (tail_nobar h0)
  have hl := rowsT_len hn
  have e2 : foldR (rowsT c.roles) (numRows (rowsT c.roles)) = c.roles := by
    have e : numRows (rowsT c.roles) = c.roles.length := by unfold numRows; omega
    rw [e, foldR_rows (m := 8) (fun r hr => (raw_roles h0 r hr).2.1) (canon_nd h) _ (Nat.le_refl _), List.take_length]
  have e3 : (⟨c.roles, c.vouch, c.need, c.sign⟩ : Con) = c := rfl
  unfold readF
  rw [e1]
  simp only [sp_head h0, sp_tail h0, tailT, numV_num p4, kf_fk p3, kf_fk p5, e2, e3, sorted_canon h]
  rw [if_pos (by omega), if_pos ⟨h0, trivial⟩]
end MM
end
section
set_option Elab.async false
set_option linter.all false
set_option maxRecDepth 100000
set_option maxHeartbeats 1000000
set_option autoImplicit false
/-! read_contents, parse_contents -/
namespace T78
open PySem PySem.Spec L2 DL MM
section
variable {st : Store}
theorem sp_len (c : Nat) : ∀ t : Tx, (sp c t).length ≤ t.length + 1
  | [] => by simp [sp]
  | x :: r => by
    have ih := sp_len c r
    unfold sp
    split
    · simp; exact ih
    · split
      · simp
      · rename_i h; rw [h] at ih; simp at ih ⊢; omega
theorem sp_each (c : Nat) : ∀ t : Tx, ∀ p ∈ sp c t, p.length ≤ t.length
  | [], p, h => by simp [sp] at h; subst h; simp
  | x :: r, p, h => by
    have ih := sp_each c r
    unfold sp at h
    split at h
    · rcases List.mem_cons.mp h with rfl | h
      · simp
      · have := ih p h; simp; omega
    · split at h
      · simp at h; subst h; simp
      · rename_i a b e
        rw [e] at ih
        rcases List.mem_cons.mp h with rfl | h
        · have := ih a (by simp); simp; omega
        · have := ih p (by simp [h]); simp; omega
theorem kf_len (k : Tx) : (kf k).length ≤ k.length + 1 ∧ ∀ p ∈ kf k, p.length ≤ k.length := by
  unfold kf
  split
  · simp
  · exact ⟨sp_len 44 k, sp_each 44 k⟩
theorem q_keys_of (k : Tx) (h : k.length ≤ 1000000) (st : Store) : m_keys_of [.str (U k)] st = .ok (.lst (strL (kf k))) st := by
  have e := split_r (st := st) (a := k) (b := [44]) (by simp) (by decide) (by omega)
  rw [split1] at e
  simp [m_keys_of, t_keys_of, l_minus, l_comma, e, kf]
  by_cases hk : k = [45] <;> simp [hk]
theorem putD_roles (rs : List Rw) (r : Rw) : putD (rolesD rs) (.inr (U r.1)) (partD r) = rolesD (putR rs r) := by
  unfold putD putR
  have e : ((rolesD rs).any fun kv => decide (kv.1 = Sum.inr (U r.1))) = rs.any fun x => decide (x.1 = r.1) := by
    simp [rolesD, List.any_map, Function.comp_def]
  rw [e]
  split
  · simp only [rolesD, List.map_map]
    refine List.map_congr_left fun x hx => ?_
    show (if (Sum.inr (U x.1) : Key) = Sum.inr (U r.1) then ((Sum.inr (U x.1) : Key), partD r) else (Sum.inr (U x.1), partD x)) = _
    by_cases hx : x.1 = r.1
    · simp [hx]
    · simp [hx]
  · simp [rolesD]
theorem rg3_4 {n : Nat} (h : n < 1000000) : rg3 0 (n : Int) 4 = some ⟨(List.range ((n + 3) / 4)).map fun (j : Nat) => .int ((4 * j : Nat) : Int), none⟩ := by
  have e : Builtin.Range.rangeSize 0 (n : Int) 4 = (((n + 3) / 4 : Nat) : Int) := by
    simp [Builtin.Range.rangeSize]
    split <;> omega
  have e2 : Builtin.Range.small 0 (n : Int) 4 = true := by
    have f : ∀ i : Int, -1000 ≤ i → i < 2000000 → Builtin.Range.rangeFitsLong i = true := fun i h1 h2 => by
      unfold Builtin.Range.rangeFitsLong
      rw [Bool.and_eq_true, decide_eq_true_eq, decide_eq_true_eq]
      exact ⟨by omega, by omega⟩
    simp only [Builtin.Range.small, e, f 0 (by omega) (by omega), f n (by omega) (by omega), f 4 (by omega) (by omega), f (((n + 3) / 4 : Nat) : Int) (by omega) (by omega), f ((0 : Int) + (((n + 3) / 4 : Nat) : Int) * 4) (by omega) (by omega)]
    rw [if_pos (by decide), f _ (by omega) (by omega)]
    simp
  unfold rg3
  rw [if_pos ⟨by decide, by decide, e2, by rw [e]; rfl⟩, e]
  simp only [rgW, Int.toNat_natCast]
  refine congrArg (fun z => some (WD.mk z none)) (List.map_congr_left fun j _ => congrArg D.int ?_)
  omega
theorem spl_each (S : Tx) : ∀ (t : Tx) (k : Nat) (acc : Tx), (TL.spl S k acc t).length ≤ t.length + 1 ∧ ∀ p ∈ TL.spl S k acc t, p.length ≤ acc.length + t.length
  | [], k, acc => by simp [TL.spl_nil]
  | c :: r, 0, acc => by
    unfold TL.spl
    split
    · have ih := spl_each S r (S.length - 1) []
      refine ⟨by simp; exact ih.1, fun p hp => ?_⟩
      rcases List.mem_cons.mp hp with rfl | hp
      · simp
      · have := ih.2 p hp; simp at this ⊢; omega
    · have ih := spl_each S r 0 (acc ++ [c])
      refine ⟨by simp; omega, fun p hp => ?_⟩
      have := ih.2 p hp; simp at this ⊢; omega
  | c :: r, k + 1, acc => by
    unfold TL.spl
    have ih := spl_each S r k acc
    refine ⟨by simp; omega, fun p hp => ?_⟩
    have := ih.2 p hp; simp; omega
theorem atI_getD {w : List Tx} {j : Nat} (h : j < w.length) : atI (strL w) (j : Int) = some (.str (U (w.getD j []))) := by
  refine atI_nat ?_
  rw [strL, List.getElem?_map, List.getElem?_eq_getElem h]
  simp [List.getD_eq_getElem?_getD, List.getElem?_eq_getElem h]
def rdEnv (x : Tx) (W : List Tx) (v n s : Tx) (j : Nat) (z : Slot) : DEnv := [Slot.val (D.str (U x)), Slot.val (D.lst [D.lst (strL W), D.lst [D.str (U v), D.str (U n), D.str (U s)]]),
            Slot.no, Slot.val (D.lst (strL W)), Slot.val (D.str (U v)), Slot.val (D.str (U n)), Slot.val (D.str (U s)),
            Slot.own (Cell.dct (rolesD (foldR W j))), z, Slot.no]
theorem q_read (x : Tx) (hx : x.length ≤ 3000) (st : Store) : m_read_contents [.str (U x)] st = .ok ((readF x).elim .non conObj) st := by
  have e1 := split_r (st := st) (a := x) (b := [32, 124, 32]) (by simp) (by decide) (by omega)
  have e1 : splitF (U x) st [.str (U [32, 124, 32])] = some (.lst (strL (halves x))) := e1
  have hl : (halves x).length ≤ 3001 := by have := (spl_each [32, 124, 32] x 0 []).1; unfold halves; omega
  have hp : ∀ p ∈ halves x, p.length ≤ 3000 := fun p hp => by have := (spl_each [32, 124, 32] x 0 []).2 p hp; simp at this; omega
  simp [m_read_contents, t_read_contents, l_bar, e1]
  rw [lc_str (f := fun h => D.lst (strL (sp 32 h))) (by omega) (fun h hh => by
    have e := split_r (st := st) (a := h) (b := [32]) (by simp) (by decide) (by have := hp h hh; omega)
    rw [split1] at e
    simp [l_blank, e])]
  simp
  unfold readF
  generalize halves x = H at *
  clear e1 hl
  match H, hp with
  | [], _ => simp
  | [_], _ => simp
  | a :: b :: d :: H, _ =>
    simp
    intro z
    omega
  | [h1, h2], hp =>
    have b1 := sp_len 32 h1
    have b2 := sp_len 32 h2
    have c1 := sp_each 32 h1
    have c2 := sp_each 32 h2
    have z1 := hp h1 (by simp)
    have z2 := hp h2 (by simp)
    clear hp
    simp
    generalize sp 32 h1 = W at *
    generalize sp 32 h2 = T at *
    have hT : T.length = 3 ∨ T.length ≠ 3 := by omega
    rcases hT with hT | hT
    · obtain ⟨v, n, s, rfl⟩ : ∃ v n s, T = [v, n, s] := by
        match T, hT with
        | [v, n, s], _ => exact ⟨v, n, s, rfl⟩
      by_cases hW : W.length % 4 = 3
      · simp [hW, show ((W.length : Nat) : Int) % 4 = 3 by omega]
        rw [rg3_4 (by omega)]
        simp
        have hN : (W.length + 3) / 4 = numRows W := by unfold numRows; omega
        rw [hN]
        have lv : v.length ≤ 3000 := by have := c2 v (by simp); omega
        have ln : n.length ≤ 3000 := by have := c2 n (by simp); omega
        have ls : s.length ≤ 3000 := by have := c2 s (by simp); omega
        have lw : ∀ j, (W.getD j []).length ≤ 3000 := fun j => by
          rw [List.getD_eq_getElem?_getD]
          cases e : W[j]? with
          | none => simp
          | some p => have := c1 p (List.mem_of_getElem? e); simp; omega
        obtain ⟨env', s', ef, rfl, zz, rfl⟩ := for_rng (n := numRows W) (g := fun (j : Nat) => D.int (4 * (j : Int))) (body := turnS (Pat.v 8)
            (sSeq
              (sPutO 7 (f2 subsD (fPeek 3) (fPeek 8))
                (fTup
                  (aCons (fApp m_keys_of (aCons (f2 subsD (fPeek 3) (f2 addD (fPeek 8) (fC (D.int 1)))) aNil) aNil)
                    (aCons (f2 subsD (fPeek 3) (f2 addD (fPeek 8) (fC (D.int 2)))) aNil))))
              sNil))
          (fun j env s1 => s1 = st ∧ ∃ z, env = rdEnv x W v n s j z) (fun j hj env s1 ⟨h1, z, h2⟩ => by
            subst h1; subst h2
            refine ⟨rdEnv x W v n s (j + 1) (.val (.int (4 * (j : Int)))), _, ?_, rfl, _, rfl⟩
            have i0 := atI_getD (w := W) (j := 4 * j) (by unfold numRows at hj; omega)
            have i1 := atI_getD (w := W) (j := 4 * j + 1) (by unfold numRows at hj; omega)
            have i2 := atI_getD (w := W) (j := 4 * j + 2) (by unfold numRows at hj; omega)
            have e1 : ((4 * j : Nat) : Int) = 4 * (j : Int) := by omega
            have e2 : ((4 * j + 1 : Nat) : Int) = 4 * (j : Int) + 1 := by omega
            have e3 : ((4 * j + 2 : Nat) : Int) = 4 * (j : Int) + 2 := by omega
            rw [e1] at i0
            rw [e2] at i1
            rw [e3] at i2
            have hk := q_keys_of (W.getD (4 * j + 1) []) (by have := lw (4 * j + 1); omega)
            have hf := foldR_len W j
            have ep := putD_roles (foldR W j) (rowAt W j)
            simp only [partD, rowAt] at ep
            have er : foldR W (j + 1) = putR (foldR W j) (rowAt W j) := rfl
            simp only [List.getD_eq_getElem?_getD] at hk i0 i1 i2 ep
            simp [rdEnv, i0, i1, i2, hk, rolesD_len, show (foldR W j).length < 16777216 by unfold numRows at hj; omega, ep, er, rowAt]) (env := [Slot.val (D.str (U x)), Slot.val (D.lst [D.lst (strL W), D.lst [D.str (U v), D.str (U n), D.str (U s)]]),
            Slot.no, Slot.val (D.lst (strL W)), Slot.val (D.str (U v)), Slot.val (D.str (U n)), Slot.val (D.str (U s)),
            Slot.own (Cell.dct []), Slot.no, Slot.no]) (s := st) ⟨rfl, .no, rfl⟩
        have ef : _ = _ := ef
        rw [ef]
        have hr : ∀ r ∈ foldR W (numRows W), RowOk r := fun r hr => by
          obtain ⟨j, hj, rfl⟩ := foldR_mem _ _ r hr
          have k1 := kf_len (W.getD (4 * j + 1) [])
          have k2 := lw (4 * j + 1)
          refine ⟨by have := lw (4 * j); show (W.getD (4 * j) []).length ≤ _; omega, by show (kf (W.getD (4 * j + 1) [])).length < 4000; omega, fun t ht => by have := k1.2 t ht; omega, by have := lw (4 * j + 2); show (W.getD (4 * j + 2) []).length ≤ _; omega⟩
        have hl := foldR_len W (numRows W)
        have kv := kf_len v
        have ks := kf_len s
        have hv : (kf v).length < 4000 ∧ LenOk (kf v) := ⟨by omega, fun t ht => by have := kv.2 t ht; omega⟩
        have hs : (kf s).length < 4000 ∧ LenOk (kf s) := ⟨by omega, fun t ht => by have := ks.2 t ht; omega⟩
        have hnd := foldR_nodup W (numRows W)
        have hNb : numRows W ≤ 1000 := by unfold numRows; omega
        simp [rdEnv, q_keys_of v (by omega), q_keys_of s (by omega), q_number_of n (by omega)]
        generalize foldR W (numRows W) = RS at *
        have bad : (∀ k, numV n = some k → rawOk ⟨RS, kf v, k, kf s⟩ = false) → _ := fun h => q_init_bad RS (kf v) (numV n) (kf s) (by omega) hr hv hs h s'
        cases hn : numV n with
        | none =>
          rw [hn] at bad
          obtain ⟨p, hp⟩ := bad fun k e => by cases e
          simp [hp]
          rw [oTry_exc]
          · simp
          · decide +kernel
        | some k =>
          rw [hn] at bad
          cases hok : rawOk ⟨RS, kf v, k, kf s⟩ with
          | false =>
            obtain ⟨p, hp⟩ := bad fun k2 e => by cases e; exact hok
            simp [hp]
            rw [oTry_exc]
            · simp [hok]
            · decide +kernel
          | true =>
            have hrs := (raw_parts hok).2.1
            have hrs : RS.length ≤ 3 := hrs
            have hc : RawIn ⟨RS, kf v, k, kf s⟩ := ⟨by show RS.length < 64; omega, hr, hnd, hv, hs⟩
            have hi := q_init RS (kf v) k (some (kf s)) hc hok s'
            have hcan := canon_sorted hok hnd
            have hf := q_format_contents _ hcan.1 (canon_nd hcan) s'
            simp [optL] at hi
            simp [optD, hi, mkCon, hf]
            by_cases hx : fmt (Con.sorted ⟨RS, kf v, k, kf s⟩) = x
            · simp [hx, hok]
            · simp [hx, hok]
      · simp [hW, show ¬ ((W.length : Nat) : Int) % 4 = 3 by omega]
    · simp [show ¬ ((T.length : Nat) : Int) = 3 by omega]
      split
      · simp at hT
      · rfl
theorem q_parse (x : Tx) (hx : x.length ≤ 3000) (st : Store) : m_parse_contents [.str (U x)] st = match readF x with
    | some c => .ok (conObj c) st
    | none => .exc "ParseError" [("line", .int 0)] st := by
  have h := q_read x hx st
  cases e : readF x with
  | none => rw [e] at h; simp at h; simp [m_parse_contents, t_parse_contents, h]
  | some c =>
    rw [e] at h
    simp at h
    have hi : isD false st (conObj c) .non = some (.bl false) := rfl
    simp [m_parse_contents, t_parse_contents, h, hi]
theorem q_parse_fmt {c : Con} (h : canon c) (st : Store) : m_parse_contents [.str (U (fmt c))] st = .ok (conObj c) st := by
  rw [q_parse _ (by have := fmt_len h.1; omega), readF_fmt h]
theorem q_parse_bad {x : Tx} (hx : x.length ≤ 3000) (h : canB 3 none (sp 32 x) = false) (st : Store) : m_parse_contents [.str (U x)] st = .exc "ParseError" [("line", .int 0)] st := by
  rw [q_parse _ hx, readF_none h]
theorem q_parse_other {d : D} (h : isinstF Zs st [d, .ty "str"] = some (.bl false)) : m_parse_contents [d] st = .exc "ParseError" [("line", .int 0)] st := by
  simp [m_parse_contents, t_parse_contents, h]
/-! _law_wrong -/
def wrongD : D := .lst [.str "0", .bl true]
theorem q_wrong_of {d : D} (h : m_parse_contents [d] st = .exc "ParseError" [("line", .int 0)] st) : m__law_wrong [d] st = .ok wrongD st := by
  simp [m__law_wrong, t__law_wrong, h]
  rw [oTryAs_exc (ds := [.str "0", .bl true])]
  · simp [wrongD]
  · decide +kernel
  · have e0 : reprF st [.int 0] = some (.str "0") := by
      show (if (0 : Int).natAbs.log2 < 1920 then some (D.str (Str.ofString (toString (0 : Int)))) else none) = _
      rw [if_pos (by decide)]
      exact congrArg (fun z => some (D.str z)) (by decide +kernel)
    simp [hesD, heD, e0]
  · simp
  · simp
theorem q_wrong {x : Tx} (hx : x.length ≤ 3000) (h : canB 3 none (sp 32 x) = false) (st : Store) : m__law_wrong [.str (U x)] st = .ok wrongD st := q_wrong_of (q_parse_bad hx h st)
theorem q_wrong_other {d : D} (h : isinstF Zs st [d, .ty "str"] = some (.bl false)) : m__law_wrong [d] st = .ok wrongD st := q_wrong_of (q_parse_other h)
end
end T78
end
section
set_option Elab.async false
set_option linter.all false
set_option maxRecDepth 100000
set_option maxHeartbeats 1000000
set_option autoImplicit false
/-! the law's own writing -/
namespace T78
open PySem PySem.Spec L2 DL MM
section
variable {st : Store}
theorem py_lst {l : List Tx} : pyOf (.lst (strL l)) = some (.list (l.map fun t => PyData.str (U t))) := by simp [pyOf, pyAll_strL]
theorem shaped_lst {l : List Tx} (h : ∀ t ∈ l, wordB t = true) : SeqAt.shaped (.list (l.map fun t => PyData.str (U t))) = true := by
  simp [SeqAt.shaped, PyData.canLay0, PyData.depth, lay_strs l h, depth_strs]
theorem ne_nil {l : List Tx} (h : ∀ t ∈ l, wordB t = true) : neD st (.lst (strL l)) (.lst []) = some (.bl (!decide (l = []))) := by
  have h2 : pyOf (.lst []) = some (.list []) := by simp [pyOf, pyAll]
  have h3 : SeqAt.shaped (.list []) = true := by decide
  have e : eqD0 st (.lst (strL l)) (.lst []) = some (.bl (decide (l = []))) := by
    show deepEq st _ _ = _
    unfold deepEq
    simp only [deref, py_lst, h2]
    rw [if_pos ⟨shaped_lst h, h3⟩]
    cases l with
    | nil => simp [PyData.eqv, PyData.eqvAll]
    | cons a l => simp [PyData.eqv, PyData.eqvAll]
  simp [neD, e, notD]
theorem q_keys_line {m : Nat} {l : List Tx} (h : keysOk m l = true) (hm : m ≤ 8) (st : Store) : m__law_keys_line [.lst (strL l)] st = .ok (.str (U (fk (sortL l)))) st := by
  have h1 := keys_sum h
  have h2 := keysOk_len h
  simp [m__law_keys_line, t__law_keys_line, l_comma, l_minus, ne_nil (keysOk_words h)]
  by_cases hl : l = []
  · subst hl; simp [sortL, fk]
  · have hs : sortL l ≠ [] := fun e => hl (List.eq_nil_of_length_eq_zero (by rw [← sortL_len, e]; rfl))
    simp [hl]
    rw [lc_str (f := fun t => .str (U t)) (by omega) (fun t ht => by simp [strF])]
    have e : (l.map fun t => D.str (U t)) = strL l := rfl
    have hsum := keys_sum (keysOk_sort h).1
    have ej : joinF (U [44]) st [.lst (strL (sortL l))] = some (.str (U (TL.joinL [44] (sortL l)))) := join_r (l := sortL l) (by simp) (by rw [sortL_len]; simp at hsum ⊢; omega)
    simp [e, sorted_strs (l := l) (by omega), ej, fk, hs]
/-! told contents -/
def rowD (r : Rw) : D := .tup [.str (U r.1), .lst (strL r.2.1), .str (U r.2.2)]
def toldD (rs : List Rw) (v : List Tx) (n : Nat) (s : Option (List Tx)) : D := .tup [.lst (rs.map rowD), .lst (strL v), .int n, optL s]
theorem sorted_rows {rs : List Rw} (nd : (rs.map (·.1)).Nodup) : sortedAF st [.lst (rs.map rowD)] = some (.lst ((sortR rs).map rowD)) := by
  have e0 : sortedF st [.lst (rs.map rowD)] = none ∨ rs = [] := by
    cases rs with
    | nil => exact .inr rfl
    | cons a rs => exact .inl (by simp [sortedF, intsOf, strsOf, rowD])
  have hh : headsOf (rs.map rowD) = some (rs.map fun r => U r.1) := by
    induction rs with
    | nil => rfl
    | cons a rs ih =>
      have ih := ih (List.nodup_cons.mp nd).2 (by
        cases rs with
        | nil => exact .inr rfl
        | cons a rs => exact .inl (by simp [sortedF, intsOf, strsOf, rowD]))
      simp [headsOf, headS, rowD] at ih ⊢
      rw [ih]
  have hd : distS (rs.map fun r => U r.1) = true := by
    clear hh e0
    induction rs with
    | nil => rfl
    | cons a rs ih =>
      rw [List.map_cons, List.nodup_cons] at nd
      simp only [List.map_cons, distS, Bool.and_eq_true]
      refine ⟨List.all_eq_true.mpr fun j hj => ?_, ih nd.2⟩
      obtain ⟨r, hr, rfl⟩ := List.mem_map.mp hj
      simp
      exact fun e => nd.1 (List.mem_map.mpr ⟨r, hr, e⟩)
  have ht : sortT (rs.map rowD) = (sortR rs).map rowD := by
    unfold sortT sortR
    exact (List.map_mergeSort (r := rowLe) (s := fun a b => leS (hdS a) (hdS b)) (f := rowD) fun a ha b hb => rfl).symm
  rcases e0 with e0 | rfl
  · unfold sortedAF sortedTF
    rw [e0]
    simp only [lst_lst, hh]
    rw [if_pos hd, ht]
  · simp [sortedAF, sortedF, intsOf, sortI, sortR]
theorem str_num {n : Nat} (h : n ≤ 4) : strF st [.int n] = some (.str (U (TL.numL n))) := by
  have : n = 0 ∨ n = 1 ∨ n = 2 ∨ n = 3 ∨ n = 4 := by omega
  show (if ((n : Nat) : Int).natAbs.log2 < 1920 then some (D.str (Str.ofString (toString ((n : Nat) : Int)))) else none) = _
  rw [if_pos (by rcases this with rfl | rfl | rfl | rfl | rfl <;> decide)]
  exact congrArg (fun z => some (D.str z)) (num_U n)
theorem q_law_line (rs : List Rw) (v : List Tx) (n : Nat) (s : Option (List Tx)) (h : rawOk (mkCon rs v n s) = true) (nd : RNd (mkCon rs v n s)) (st : Store) :
    m__law_line [toldD rs v n s] st = .ok (.str (U (fmt (mkCon rs v n s).sorted))) st := by
  have hc := canon_sorted h nd
  obtain ⟨p1, p2, p3, p4, p5⟩ := raw_parts h
  have hh := head_len hc.1
  have ht := tail_len hc.1
  have hs := rows_sum hc.1
  have q4 : n ≤ 4 := p4
  have q2 : rs.length ≤ 3 := p2
  have q3 : keysOk 4 v = true := p3
  have nd' : (rs.map (·.1)).Nodup := nd
  have hn0 := raw_ne hc.1
  have k3 := (canon_sorted h nd).1
  obtain ⟨c1, c2, c3, c4, c5⟩ := raw_parts k3
  have v1 := fk_len c3 (by omega)
  have v2 := fk_len c5 (by omega)
  simp [m__law_line, t__law_line, toldD, l_slash, l_bar, l_blank, sorted_rows nd']
  rw [lc_of (f := fun r => .str (U (rowL (r.1, sortL r.2.1, r.2.2)))) (by rw [(sortR_perm _).length_eq]; omega) (fun r hr => by
    have hr' := raw_roles h r ((sortR_perm _).mem_iff.mp hr)
    have w1 := (word_len hr'.1).2
    have w2 := fk_len (keysOk_sort hr'.2.1).1 (by omega)
    have w3 := (word_len hr'.2.2).2
    have ej : joinF (U [32]) st [.lst (strL [r.1, fk (sortL r.2.1), r.2.2])] = some (.str (U (TL.joinL [32] [r.1, fk (sortL r.2.1), r.2.2]))) := join_r (l := [r.1, fk (sortL r.2.1), r.2.2]) (by simp) (by simp; omega)
    rw [rowL_join (r.1, sortL r.2.1, r.2.2)] at ej
    simp at ej
    simp [rowD, q_keys_line hr'.2.1, ej])]
  have el : ((sortR rs).map fun r => D.str (U (rowL (r.1, sortL r.2.1, r.2.2)))) = strL ((mkCon rs v n s).sorted.roles.map rowL) := by simp [strL, Con.sorted, mkCon, Function.comp_def]
  have ej : joinF (U [32, 47, 32]) st [.lst (strL ((mkCon rs v n s).sorted.roles.map rowL))] = some (.str (U (headL (mkCon rs v n s).sorted))) := join_r (l := (mkCon rs v n s).sorted.roles.map rowL) (by simp) (by simp [Con.sorted, (sortR_perm _).length_eq, Function.comp_def] at hs p2 ⊢; omega)
  rw [el, fmt_eq hn0]
  have e2 : joinF (U [32]) st [.lst (strL (tailT (mkCon rs v n s).sorted))] = some (.str (U (tailL (mkCon rs v n s).sorted))) := join_r (l := tailT (mkCon rs v n s).sorted) (by simp) (by simp [tailT, num1 c4]; omega)
  cases s with
  | none =>
    have e3 : tailT (mkCon rs v n none).sorted = [fk (sortL v), TL.numL n, fk (sortL v)] := rfl
    rw [e3] at e2
    simp at e2
    simp [optL, q_keys_line q3, str_num q4, ej, e2]
    repeat rw [if_pos (by omega)]
  | some s =>
    have q5 : keysOk 4 s = true := p5
    have e3 : tailT (mkCon rs v n (some s)).sorted = [fk (sortL v), TL.numL n, fk (sortL s)] := rfl
    rw [e3] at e2
    simp at e2
    simp [optL, q_keys_line q3, q_keys_line q5, str_num q4, ej, e2]
    repeat rw [if_pos (by omega)]
theorem pairs_rows (rs : List Rw) : pairsOfD (rs.map fun r => .tup [.str (U r.1), partD r]) = some (rolesD rs) := by
  induction rs with
  | nil => rfl
  | cons a rs ih => simp [pairsOfD, pairOf, rolesD] at ih ⊢; rw [ih]
theorem rolesD_keys (rs : List Rw) : (rolesD rs).map (·.1) = (rs.map (·.1)).map fun t => (Sum.inr (U t) : Key) := by simp [rolesD, Function.comp_def]
theorem dict_rows {rs : List Rw} (nd : (rs.map (·.1)).Nodup) : dictF st [.lst (rs.map fun r => .tup [.str (U r.1), partD r])] = some (.dct (rolesD rs)) := by
  show (pairsOfD _).map (fun ps => D.dct (mergeD [] ps)) = _
  rw [pairs_rows, Option.map_some, merge_nil (by rw [rolesD_keys, nodup_keys]; exact nd)]
theorem raw_in {rs : List Rw} {v : List Tx} {n : Nat} {s : Option (List Tx)} (h : rawOk (mkCon rs v n s) = true) (nd : RNd (mkCon rs v n s)) : RawIn (mkCon rs v n s) := by
  obtain ⟨p1, p2, p3, p4, p5⟩ := raw_parts h
  have lk : ∀ {m : Nat} {l : List Tx}, keysOk m l = true → m ≤ 8 → l.length < 4000 ∧ LenOk l := fun {m l} hk hm => by
    have := keysOk_len hk
    exact ⟨by omega, fun t ht => by have := (word_len (keysOk_words hk t ht)).2; omega⟩
  refine ⟨by omega, fun r hr => ?_, nd, lk p3 (by omega), lk p5 (by omega)⟩
  obtain ⟨w1, w2, w3⟩ := raw_roles h r hr
  exact ⟨by have := (word_len w1).2; omega, (lk w2 (by omega)).1, (lk w2 (by omega)).2, by have := (word_len w3).2; omega⟩
theorem q_law_contents (rs : List Rw) (v : List Tx) (n : Nat) (s : Option (List Tx)) (h : rawOk (mkCon rs v n s) = true) (nd : RNd (mkCon rs v n s)) (st : Store) :
    m__law_contents [toldD rs v n s] st = .ok (conObj (mkCon rs v n s).sorted) st := by
  have nd' : (rs.map (·.1)).Nodup := nd
  have p2 : rs.length ≤ 3 := (raw_parts h).2.1
  have hi := q_init rs v n s (raw_in h nd) h st
  simp [m__law_contents, t__law_contents, toldD]
  rw [lc_of (f := fun r => .tup [.str (U r.1), partD r]) (by omega) (fun r hr => by
    simp [rowD, partD])]
  simp [dict_rows nd', hi]
end
end T78
end
section
set_option Elab.async false
set_option linter.all false
set_option maxRecDepth 100000
set_option maxHeartbeats 1000000
set_option autoImplicit false
/-! the law's draws -/
namespace T78
open PySem PySem.Spec L2 DL MM
/-- a stream at place j -/
def V (j : Nat) (st : Store) : Prop := ∃ a b : Int, st[j]? = some (.lst [.int a, .int b]) ∧ 0 ≤ a ∧ 0 ≤ b ∧ b < 2147483647
section
variable {st : Store} {j : Nat}
theorem lst_cell {xs : List D} (h : st[j]? = some (.lst xs)) : lstOf st (.cell j) = some xs := by simp [lstOf, h]
theorem subs_cell {xs : List D} {k : Int} (h : st[j]? = some (.lst xs)) : subsD st (.cell j) (.int k) = atI xs k := by
  have e : seqOf st (.cell j) = some xs := by simp [seqOf, lstOf, h]
  simp [subsD, e]
theorem q_draw (c : Nat) (h0 : 0 < c) (h1 : c < 1000000) (hv : V j st) : ∃ (r : Nat) (st' : Store), m__law_draw [.cell j, .int c] st = .ok (.int r) st' ∧ r < c ∧ V j st' := by
  obtain ⟨a, b, hs, ha, hb, hb2⟩ := hv
  have hj : j < st.length := by
    rcases Nat.lt_or_ge j st.length with h | h
    · exact h
    · rw [List.getElem?_eq_none h] at hs; cases hs
  have s0 := subs_cell (k := 0) hs
  have s1 := subs_cell (k := 1) hs
  have p0 : ∀ d, oPutC st (.cell j) (.int 0) d = fun env => .nx env (st.set j (.lst [d, .int b])) := fun d => by
    funext env; exact putC_of (m := 0) hs (by show ixN 2 0 = some 0; decide)
  have p1 : ∀ d, oPutC st (.cell j) (.int 1) d = fun env => .nx env (st.set j (.lst [.int a, d])) := fun d => by
    funext env; exact putC_of (m := 1) hs (by show ixN 2 1 = some 1; decide)
  have hset : ∀ x : Cell, (st.set j x)[j]? = some x := fun x => by rw [List.getElem?_set_self hj]
  by_cases h : 0 < a
  · refine ⟨(a % (c : Int)).toNat, _, ?_, ?_, a / (c : Int), b, hset _, Int.ediv_nonneg ha (by omega), hb, hb2⟩
    · have e : ((a % (c : Int)).toNat : Int) = a % (c : Int) := Int.toNat_of_nonneg (Int.emod_nonneg _ (by omega))
      simp [m__law_draw, t__law_draw, s0, h, p0, h0, show (c : Int) < 1073741824 by omega, e]
    · have := Int.emod_lt_of_pos a (show (0 : Int) < c by omega)
      omega
  · have hb' : 0 ≤ (b * 39373 + 7) % 2147483647 := Int.emod_nonneg _ (by omega)
    have hb3 : (b * 39373 + 7) % 2147483647 < 2147483647 := Int.emod_lt_of_pos _ (by omega)
    have z1 := subs_cell (k := 1) (hset (.lst [.int a, .int ((b * 39373 + 7) % 2147483647)]))
    simp at z1
    have e : (((((b * 39373 + 7) % 2147483647) * ((b * 39373 + 7) % 2147483647) % 2147483629 / 32 % (c : Int)).toNat : Nat) : Int) = ((b * 39373 + 7) % 2147483647) * ((b * 39373 + 7) % 2147483647) % 2147483629 / 32 % (c : Int) := Int.toNat_of_nonneg (Int.emod_nonneg _ (by omega))
    refine ⟨(((b * 39373 + 7) % 2147483647) * ((b * 39373 + 7) % 2147483647) % 2147483629 / 32 % (c : Int)).toNat, st.set j (.lst [.int a, .int ((b * 39373 + 7) % 2147483647)]), ?_, ?_, a, (b * 39373 + 7) % 2147483647, hset _, ha, hb', hb3⟩
    · rw [e]
      generalize hB : (b * 39373 + 7) % 2147483647 = B at *
      simp [m__law_draw, t__law_draw, s0, s1, h, p1, z1, h0, hB, show -18446744073709551616 < B by omega, show B < 18446744073709551616 by omega]
    · have := Int.emod_lt_of_pos (((b * 39373 + 7) % 2147483647) * ((b * 39373 + 7) % 2147483647) % 2147483629 / 32) (show (0 : Int) < c by omega)
      omega
end
end T78
end
section
set_option Elab.async false
set_option linter.all false
set_option maxRecDepth 100000
set_option maxHeartbeats 1000000
set_option autoImplicit false
/-! the law's words -/
namespace MM
open PySem PySem.Spec L2 DL
section
variable {α β γ : Type} {step : D → Store → Out (Option γ)} {g : α → D} {ok : Store → Bool}
theorem turns_all (ho : okT ok) (V : Store → Prop) (P : β → Prop) (f : β → γ) : ∀ {l : List α} {s : Store}, V s → (∀ x ∈ l, ∀ s, V s → ∃ b s', step (g x) s = .ok (some (f b)) s' ∧ V s' ∧ P b) →
    ∃ (bs : List β) (s' : Store), turns ok step (l.map g) s = .ok (bs.map f) s' ∧ V s' ∧ bs.length = l.length ∧ ∀ b ∈ bs, P b
  | [], s, hv, _ => ⟨[], s, by simp [turns, ho s], hv, rfl, by simp⟩
  | x :: l, s, hv, h => by
    obtain ⟨b, s1, e1, v1, p1⟩ := h x List.mem_cons_self s hv
    obtain ⟨bs, s2, e2, v2, l2, p2⟩ := turns_all (l := l) ho V P f v1 fun y hy => h y (List.mem_cons_of_mem _ hy)
    refine ⟨b :: bs, s2, ?_, v2, by simp [l2], fun c hc => ?_⟩
    · show (if ok s = true then (step (g x) s).bind fun o s1 => (turns ok step (l.map g) s1).bind fun r s2 => .ok (o.toList ++ r) s2 else .bad) = _
      rw [if_pos (ho s), e1, bind_ok', e2, bind_ok']
      rfl
    · rcases List.mem_cons.mp hc with rfl | hc
      · exact p1
      · exact p2 c hc
theorem turns_sub (ho : okT ok) (V : Store → Prop) (f : α → γ) : ∀ {l : List α} {s : Store}, V s → (∀ x ∈ l, ∀ s, V s → ∃ s', (step (g x) s = .ok (some (f x)) s' ∨ step (g x) s = .ok none s') ∧ V s') →
    ∃ (l' : List α) (s' : Store), turns ok step (l.map g) s = .ok (l'.map f) s' ∧ V s' ∧ l'.Sublist l
  | [], s, hv, _ => ⟨[], s, by simp [turns, ho s], hv, .slnil⟩
  | x :: l, s, hv, h => by
    obtain ⟨s1, e1, v1⟩ := h x List.mem_cons_self s hv
    obtain ⟨l', s2, e2, v2, l2⟩ := turns_sub (l := l) ho V f v1 fun y hy => h y (List.mem_cons_of_mem _ hy)
    have e0 : turns ok step ((x :: l).map g) s = (step (g x) s).bind fun o s1 => (turns ok step (l.map g) s1).bind fun r s2 => .ok (o.toList ++ r) s2 := by
      show (if ok s = true then (step (g x) s).bind fun o s1 => (turns ok step (l.map g) s1).bind fun r s2 => .ok (o.toList ++ r) s2 else .bad) = _
      rw [if_pos (ho s)]
    rw [e0]
    rcases e1 with e1 | e1
    · exact ⟨x :: l', s2, by rw [e1, bind_ok', e2, bind_ok']; rfl, v2, l2.cons_cons x⟩
    · exact ⟨l', s2, by rw [e1, bind_ok', e2, bind_ok']; rfl, v2, l2.cons x⟩
end
section
variable {α β : Type} {g : α → D} {st : Store} {step : D → Store → Out (Option D)}
theorem lc_all (V : Store → Prop) (P : β → Prop) (f : β → D) {l : List α} (hl : l.length ≤ 16777216) (hv : V st) (h : ∀ x ∈ l, ∀ s, V s → ∃ b s', step (g x) s = .ok (some (f b)) s' ∧ V s' ∧ P b) :
    ∃ (bs : List β) (s' : Store), oLc ⟨l.map g, none⟩ step st = .ok (.lst (bs.map f)) s' ∧ V s' ∧ bs.length = l.length ∧ ∀ b ∈ bs, P b := by
  obtain ⟨bs, s', e, r⟩ := turns_all (ok := WD.ok ⟨l.map g, none⟩) okT_none V P f hv h
  refine ⟨bs, s', ?_, r⟩
  unfold oLc
  rw [if_pos (by rw [List.length_map, sizeL]; exact hl), e, bind_ok']
theorem lc_sub (V : Store → Prop) (f : α → D) {l : List α} (hl : l.length ≤ 16777216) (hv : V st) (h : ∀ x ∈ l, ∀ s, V s → ∃ s', (step (g x) s = .ok (some (f x)) s' ∨ step (g x) s = .ok none s') ∧ V s') :
    ∃ (l' : List α) (s' : Store), oLc ⟨l.map g, none⟩ step st = .ok (.lst (l'.map f)) s' ∧ V s' ∧ l'.Sublist l := by
  obtain ⟨bs, s', e, r⟩ := turns_sub (ok := WD.ok ⟨l.map g, none⟩) okT_none V f hv h
  refine ⟨bs, s', ?_, r⟩
  unfold oLc
  rw [if_pos (by rw [List.length_map, sizeL]; exact hl), e, bind_ok']
theorem join_ones (w : Tx) : TL.joinL [] (w.map fun c => [c]) = w := by
  induction w with
  | nil => rfl
  | cons a w ih =>
    cases w with
    | nil => rfl
    | cons b w =>
      rw [List.map_cons, join_cons (by simp), ih]; rfl
theorem atI_lt {xs : List D} {n : Nat} (h : n < xs.length) : atI xs (n : Int) = some xs[n] := atI_nat (List.getElem?_eq_getElem h)
end
end MM
namespace T78
open PySem PySem.Spec L2 DL MM
section
variable {st : Store} {j : Nat}
theorem q_choose {xs : List D} (h0 : 0 < xs.length) (h1 : xs.length < 1000000) (hv : V j st) : ∃ (i : Nat) (h : i < xs.length) (st' : Store), m__law_choose [.cell j, .lst xs] st = .ok xs[i] st' ∧ V j st' := by
  obtain ⟨r, st', e, hr, v'⟩ := q_draw xs.length h0 h1 hv
  exact ⟨r, hr, st', by simp [m__law_choose, t__law_choose, e, atI_lt hr], v'⟩
theorem q_choose_chr {z : Tx} (h0 : 0 < z.length) (h1 : z.length < 1000000) (hv : V j st) : ∃ (c : Nat) (st' : Store), m__law_choose [.cell j, .str (U z)] st = .ok (.str (U [c])) st' ∧ V j st' ∧ c ∈ z := by
  obtain ⟨r, st', e, hr, v'⟩ := q_draw z.length h0 h1 hv
  have es : subsD st' (.str (U z)) (.int r) = some (.str (U [z[r]])) := by
    rw [subs_str (by omega)]
    have : atI z (r : Int) = some z[r] := atI_nat (List.getElem?_eq_getElem hr)
    rw [this]; rfl
  exact ⟨z[r], st', by simp [m__law_choose, t__law_choose, e, es, show z.length ≤ 16777216 by omega], v', List.getElem_mem hr⟩
theorem q_some {l : List Tx} (h1 : l.length < 1000000) (hv : V j st) : ∃ (l' : List Tx) (st' : Store), m__law_some [.cell j, .lst (strL l)] st = .ok (.lst (strL l')) st' ∧ V j st' ∧ l'.Sublist l := by
  simp [m__law_some, t__law_some]
  generalize hX : oLc _ _ _ = X
  have key : ∃ (l' : List Tx) (s' : Store), X = .ok (.lst (strL l')) s' ∧ V j s' ∧ l'.Sublist l := by
    rw [← hX]
    refine lc_sub (V j) (fun t => .str (U t)) (by omega) hv (fun t ht s hvs => ?_)
    obtain ⟨r, s', e, hr, v'⟩ := q_draw 2 (by omega) (by omega) hvs
    refine ⟨s', ?_, v'⟩
    simp at e
    by_cases h0 : r = 0
    · refine .inl ?_
      simp [e, h0]
    · refine .inr ?_
      simp [e, h0]
  obtain ⟨l', s', rfl, v', hs⟩ := key
  exact ⟨l', s', by simp, v', hs⟩
theorem ofEmpty : Str.ofString "" = U [] := rfl
/-- up to three letters -/
theorem q_words_part {FE : DEnv → Store → Out D} (n : Nat) (hn : n ≤ 3) (hv : V j st) (env : DEnv) (h : ∀ i s, V j s → ∃ (c : Nat) (s' : Store), FE (env.set 6 (.val (.int i))) s = .ok (.str (U [c])) s' ∧ V j s' ∧ lowB c = true) :
    ∃ (w : Tx) (s' : Store), oLc ⟨(List.range n).map fun (i : Nat) => .int (i : Int), none⟩ (stepOf [6] (.v 6) tYesD FE env) st = .ok (.lst (strL (w.map fun c => [c]))) s' ∧ V j s' ∧ w.length = n ∧ ∀ c ∈ w, lowB c = true := by
  obtain ⟨w, s', e, v', l', p'⟩ := lc_all (st := st) (g := fun (i : Nat) => D.int (i : Int)) (l := List.range n) (step := stepOf [6] (.v 6) tYesD FE env) (V j) (fun c => lowB c = true) (fun c => D.str (U [c])) (by simp; omega) hv (fun i hi s hvs => by
    obtain ⟨c, s', e, v', hc⟩ := h i s hvs
    exact ⟨c, s', by simp [e], v', hc⟩)
  exact ⟨w, s', by rw [e]; simp [strL, Function.comp_def], v', by simpa using l', p'⟩
def stepL : List Nat := [1, 3, 5, 7, 9, 11, 15, 17, 19, 21, 23, 25]
theorem q_step (hv : V j st) : ∃ (k : Nat) (st' : Store), m__law_choose [.cell j, .lst [.int 1, .int 3, .int 5, .int 7, .int 9, .int 11, .int 15, .int 17, .int 19, .int 21, .int 23, .int 25]] st = .ok (.int k) st' ∧ V j st' ∧ k ∈ stepL := by
  obtain ⟨i, hi, s2, e2, v2⟩ := q_choose (xs := stepL.map fun (k : Nat) => .int (k : Int)) (by simp [stepL]) (by simp [stepL]) hv
  have hi' : i < stepL.length := by simpa using hi
  rw [List.getElem_map] at e2
  exact ⟨stepL[i], s2, e2, v2, List.getElem_mem hi'⟩
def wordAt (f k : Nat) (hd tl : Tx) (i : Nat) : Tx := hd ++ [97 + (f + k * i) % 26] ++ tl
theorem step_inj {f k a b : Nat} (hk : k ∈ stepL) (ha : a < 8) (hb : b < 8) (h : (f + k * a) % 26 = (f + k * b) % 26) : a = b := by
  simp [stepL] at hk
  rcases hk with rfl | rfl | rfl | rfl | rfl | rfl | rfl | rfl | rfl | rfl | rfl | rfl <;> omega
theorem wordAt_inj {f k : Nat} {hd tl : Tx} {a b : Nat} (hk : k ∈ stepL) (ha : a < 8) (hb : b < 8) (h : wordAt f k hd tl a = wordAt f k hd tl b) : a = b := by
  unfold wordAt at h
  rw [List.append_assoc, List.append_assoc] at h
  have h := List.append_cancel_left h
  simp at h
  exact step_inj hk ha hb (by omega)
theorem words_nodup {f k : Nat} {hd tl : Tx} (hk : k ∈ stepL) {n : Nat} (hn : n ≤ 8) : ((List.range n).map (wordAt f k hd tl)).Nodup := by
  have h := List.nodup_range (n := n)
  unfold List.Nodup at h ⊢
  rw [List.pairwise_map]
  refine List.Pairwise.imp_of_mem (fun {a b} ha hb hab e => hab (wordAt_inj hk ?_ ?_ e)) h
  · have := List.mem_range.mp ha; omega
  · have := List.mem_range.mp hb; omega
theorem wordAt_ok {f k : Nat} {hd tl : Tx} (i : Nat) (h1 : hd.length ≤ 3) (h2 : tl.length ≤ 3) (h3 : ∀ c ∈ hd, lowB c = true) (h4 : ∀ c ∈ tl, lowB c = true) : wordB (wordAt f k hd tl i) = true ∧ (wordAt f k hd tl i).length ≤ 7 := by
  refine ⟨?_, by simp [wordAt]; omega⟩
  simp only [wordB, Bool.and_eq_true, decide_eq_true_eq, List.all_eq_true]
  refine ⟨by simp [wordAt]; omega, by simp [wordAt]; omega, fun c hc => ?_⟩
  simp [wordAt] at hc
  rcases hc with hc | hc | hc
  · exact h3 c hc
  · subst hc
    simp [lowB]
    omega
  · exact h4 c hc
theorem low_at (i : Nat) (h : i < 26) : atI lowL (i : Int) = some (97 + i) := by
  refine atI_nat ?_
  have : ∀ i, i < 26 → lowL[i]? = some (97 + i) := by decide
  exact this i h
theorem q_words (n : Nat) (hn : n ≤ 8) (hv : V j st) : ∃ (ws : List Tx) (st' : Store), m__law_words [.cell j, .int n] st = .ok (.lst (strL ws)) st' ∧ V j st' ∧ ws.length = n ∧ ws.Nodup ∧ ∀ w ∈ ws, wordB w = true ∧ w.length ≤ 7 := by
  obtain ⟨f, s1, e1, hf, v1⟩ := q_draw 26 (by omega) (by omega) hv
  obtain ⟨k, s2, e2, v2, hk⟩ := q_step v1
  obtain ⟨k1, s3, e3, hk1, v3⟩ := q_draw 4 (by omega) (by omega) v2
  simp at e1 e3
  simp [m__law_words, t__law_words, e1, e2, e3, l_low, ofEmpty]
  rw [rg1_n (by omega)]
  simp
  have hch : ∀ s, V j s → ∃ (c : Nat) (s' : Store), m__law_choose [.cell j, .str (U lowL)] s = .ok (.str (U [c])) s' ∧ V j s' ∧ lowB c = true := fun s hs => by
    obtain ⟨c, s', e, v', hc⟩ := q_choose_chr (z := lowL) (by simp [lowL]) (by simp [lowL]) hs
    exact ⟨c, s', e, v', by rw [← low_mem]; exact decide_eq_true hc⟩
  generalize hX : oLc _ _ _ = X
  have key : ∃ (w : Tx) (s' : Store), X = .ok (.lst (strL (w.map fun c => [c]))) s' ∧ V j s' ∧ w.length = k1 ∧ ∀ c ∈ w, lowB c = true := by
    rw [← hX]
    refine q_words_part k1 (by omega) v3 _ fun i s hs => ?_
    obtain ⟨c, s', e, v', hc⟩ := hch s hs
    exact ⟨c, s', by simp [e], v', hc⟩
  obtain ⟨hd, s4, rfl, v4, hl, hlow⟩ := key
  have ej : joinF (U []) s4 [.lst (strL (hd.map fun c => [c]))] = some (.str (U hd)) := by
    have := join_r (st := s4) (a := []) (l := hd.map fun c => [c]) (d := .lst (strL (hd.map fun c => [c]))) (by simp) (by
      have := sum_le (n := 1) (l := hd.map fun c => [c]) (by intro t ht; obtain ⟨c, _, rfl⟩ := List.mem_map.mp ht; simp)
      simp at this ⊢; omega)
    rw [this, join_ones]
  obtain ⟨k2, s5, e5, hk2, v5⟩ := q_draw 4 (by omega) (by omega) v4
  simp at e5
  simp [ej, e5]
  rw [rg1_n (by omega)]
  simp
  generalize hX : oLc _ _ _ = X
  have key : ∃ (w : Tx) (s' : Store), X = .ok (.lst (strL (w.map fun c => [c]))) s' ∧ V j s' ∧ w.length = k2 ∧ ∀ c ∈ w, lowB c = true := by
    rw [← hX]
    refine q_words_part k2 (by omega) v5 _ fun i s hs => ?_
    obtain ⟨c, s', e, v', hc⟩ := hch s hs
    exact ⟨c, s', by simp [e], v', hc⟩
  obtain ⟨tl, s6, rfl, v6, hl2, hlow2⟩ := key
  have ej2 : joinF (U []) s6 [.lst (strL (tl.map fun c => [c]))] = some (.str (U tl)) := by
    have := join_r (st := s6) (a := []) (l := tl.map fun c => [c]) (d := .lst (strL (tl.map fun c => [c]))) (by simp) (by
      have := sum_le (n := 1) (l := tl.map fun c => [c]) (by intro t ht; obtain ⟨c, _, rfl⟩ := List.mem_map.mp ht; simp)
      simp at this ⊢; omega)
    rw [this, join_ones]
  simp [ej2]
  rw [rg1_n (by omega)]
  simp
  refine ⟨(List.range n).map (wordAt f k hd tl), s6, ?_, v6, by simp, words_nodup hk hn, fun w hw => by
    obtain ⟨i, _, rfl⟩ := List.mem_map.mp hw
    exact wordAt_ok i (by omega) (by omega) hlow hlow2⟩
  have hk26 : k < 26 := by
    simp [stepL] at hk
    omega
  rw [lc_of (f := fun i => .str (U (wordAt f k hd tl i))) (by simp; omega) (fun i hi => by
    have hi := List.mem_range.mp hi
    have em : ((f : Int) + (k : Int) * (i : Int)) % 26 = (((f + k * i) % 26 : Nat) : Int) := by push_cast; rfl
    have es : subsD s6 (.str (U lowL)) (.int (((f : Int) + (k : Int) * (i : Int)) % 26)) = some (.str (U [97 + (f + k * i) % 26])) := by
      rw [em, subs_str (by simp [lowL]), low_at _ (by omega)]; rfl
    have hm : mulD s6 (.int k) (.int i) = some (.int ((k : Int) * i)) := by
      rw [mul_ii, if_pos]
      rw [Bool.or_eq_true]
      left
      rw [Bool.and_eq_true, decide_eq_true_eq, decide_eq_true_eq]
      exact ⟨by omega, by omega⟩
    clear em
    simp [-mul_ii, hm, es, wordAt]
    rw [if_pos (by omega), if_pos (by omega)])]
  simp [strL, Function.comp_def]
end
end T78
end
section
set_option Elab.async false
set_option linter.all false
set_option maxRecDepth 100000
set_option maxHeartbeats 1000000
set_option autoImplicit false
/-! told contents -/
namespace T78
open PySem PySem.Spec L2 DL MM
section
variable {st : Store} {j : Nat}
theorem keysOk_of {m : Nat} {l base : List Tx} (nd : l.Nodup) (hs : l ⊆ base) (hb : base.length ≤ m) (hw : ∀ t ∈ base, wordB t = true) : keysOk m l = true := by
  simp only [keysOk, Bool.and_eq_true, decide_eq_true_eq, List.all_eq_true]
  exact ⟨Nat.le_trans (nd.length_le_of_subset hs) hb, fun t ht => hw t (hs ht), nd⟩
def rowB (r : Rw) : Bool := keysOk 8 r.2.1 && wordB r.2.2
def toldI (j : Nat) (parts keys hands pre : List Tx) (env : DEnv) (s : Store) : Prop := ∃ (rs : List Rw) (z5 z6 z7 : Slot), env = [.val (.cell j), .val (.lst (strL parts)), .val (.lst (strL keys)), .val (.lst (strL hands)), .own (.lst (rs.map rowD)), z5, z6, z7, .no, .no, .no] ∧ V j s ∧ rs.map (·.1) = pre ∧ (∀ r ∈ rs, rowB r = true)
theorem q_told (parts keys hands : List Tx) (hp : parts.length ≤ 3) (hk : keys.length = 8) (hh : hands.length ≤ 4) (kn : keys.Nodup) (kw : ∀ t ∈ keys, wordB t = true) (hn : hands.Nodup) (hw : ∀ t ∈ hands, wordB t = true) (hv : V j st) :
    ∃ (rs : List Rw) (v : List Tx) (n : Nat) (s : Option (List Tx)) (st' : Store), m__law_told [.cell j, .lst (strL parts), .lst (strL keys), .lst (strL hands)] st = .ok (toldD rs v n s) st' ∧ V j st' ∧
      rs.map (·.1) = parts ∧ (∀ r ∈ rs, rowB r = true) ∧ keysOk 4 v = true ∧ (∀ l, s = some l → keysOk 4 l = true) := by
  simp [m__law_told, t__law_told]
  generalize hX : forGo _ _ _ _ _ = X
  have key : ∃ env' s', X = .nx env' s' ∧ toldI j parts keys hands ([] ++ parts) env' s' := by
    rw [← hX]
    refine for_inv (g := fun t => D.str (U t)) (l := parts) (done := []) (toldI j parts keys hands) (fun pre x post e hx env s hI => ?_) ⟨[], .no, .no, .no, rfl, hv, rfl, by simp⟩
    obtain ⟨rs, z5, z6, z7, he, hvs, hr, hb⟩ := hI
    subst he
    have hlen : rs.length < 16777216 := by
      have := congrArg List.length hr
      have e2 := congrArg List.length e
      simp at this e2
      omega
    obtain ⟨likes, s1, e1, v1, hl⟩ := q_some (l := keys) (by omega) hvs
    obtain ⟨i, hi, s2, e2, v2⟩ := q_choose (xs := strL keys) (by simp; omega) (by simp; omega) v1
    have hi' : i < keys.length := by simpa using hi
    have e3 : (strL keys)[i] = .str (U keys[i]) := by simp [strL]
    rw [e3] at e2
    have own_in : keys[i] ∈ keys := List.getElem_mem hi'
    have hlk : keysOk 8 likes = true := keysOk_of (kn.sublist hl) hl.subset (by omega) kw
    have hww : wordB keys[i] = true := kw _ own_in
    generalize keys[i] = own at *
    obtain ⟨r6, s3, e6, h6, v3⟩ := q_draw 6 (by omega) (by omega) v2
    simp at e6
    have hll := keysOk_len hlk
    have good : ∀ {l : List Tx}, keysOk 8 l = true → ∀ r ∈ rs ++ [(x, l, own)], rowB r = true := fun {l} hl r hr => by
      rcases List.mem_append.mp hr with hr | hr
      · exact hb r hr
      · simp at hr; subst hr; simp [rowB, hl, hww]
    by_cases hm : own ∈ likes
    · refine ⟨_, s2, ?_, rs ++ [(x, likes, own)], .val (.str (U x)), .val (.lst (strL likes)), .val (.str (U own)), rfl, v2, by simp [hr], ?_⟩
      · simp [e1, e2, nin_lst, hm, hlen, rowD]
      · exact good hlk
    · by_cases h0 : 0 < r6
      · refine ⟨_, s3, ?_, rs ++ [(x, likes ++ [own], own)], .val (.str (U x)), .val (.lst (strL (likes ++ [own]))), .val (.str (U own)), rfl, v3, by simp [hr], ?_⟩
        · simp [e1, e2, nin_lst, hm, e6, h0, hlen, rowD, strL_app, show likes.length ≤ 16777215 by omega]
        · refine good (keysOk_of (List.nodup_append.mpr ⟨kn.sublist hl, by simp, fun a ha b hb e => hm (by simp at hb; rw [← hb, ← e]; exact ha)⟩) (fun t ht => ?_) (by omega) kw)
          rcases List.mem_append.mp ht with ht | ht
          · exact hl.subset ht
          · simp at ht; rw [ht]; exact own_in
      · refine ⟨_, s3, ?_, rs ++ [(x, likes, own)], .val (.str (U x)), .val (.lst (strL likes)), .val (.str (U own)), rfl, v3, by simp [hr], ?_⟩
        · simp [e1, e2, nin_lst, hm, e6, h0, hlen, rowD]
        · exact good hlk
  obtain ⟨env', s1, rfl, rs, z5, z6, z7, rfl, v1, hr, hb⟩ := key
  simp
  obtain ⟨v, s2, e2, v2, hl⟩ := q_some (l := hands) (by omega) v1
  obtain ⟨n, s3, e3, h3, v3⟩ := q_draw 3 (by omega) (by omega) v2
  obtain ⟨b, s4, e4, h4, v4⟩ := q_draw 3 (by omega) (by omega) v3
  simp at e3 e4
  simp [e2, e3, e4]
  have hb' : ∀ (a : Tx) (a1 : List Tx) (b : Tx), (a, a1, b) ∈ rs → rowB (a, a1, b) = true := fun a a1 b h => hb _ h
  have kv : keysOk 4 v = true := keysOk_of (hn.sublist hl) hl.subset hh hw
  by_cases h0 : 0 < b
  · exact ⟨rs, v, n, none, s4, by simp [h0, toldD, optL], v4, by simpa using hr, hb', kv, fun l e => by cases e⟩
  · obtain ⟨g, s5, e5, v5, hg⟩ := q_some (l := hands) (by omega) v4
    refine ⟨rs, v, n, some g, s5, by simp [h0, e5, toldD, optL], v5, by simpa using hr, hb', kv, fun l e => ?_⟩
    cases e
    exact keysOk_of (hn.sublist hg) hg.subset hh hw
/-! streams -/
def streamT : Ss := (.cons (.set 3 (.bc .max (.cons (.var 2) (.cons (.bin .Sub (.neg (.int 1)) (.var 2)) .nil)))) (.cons (.set 4 (.bin .Mod (.bin .Mult (.bin .Add (.bin .Add (.bin .Add (.bin .Mod (.var 3) (.int 2147483629)) (.bin .Mult (.bin .Mult (.int 7919) (.var 1)) (.var 1))) (.bin .Mult (.int 31) (.var 1))) (.int 17)) (.int 48271)) (.int 2147483647))) (.cons (.ret (.reg (.lst (.cons (.bin .Mult (.var 3) (.bc .int (.cons (.cmp .GtE (.var 3) (.bin .Pow (.int 10) (.int 18))) .nil))) (.cons (.var 4) .nil))))) .nil)))
theorem max_ii {a b : Int} : maxF st [.int a, .int b] = some (.int (if b > a then b else a)) := rfl
theorem int_bl {b : Bool} : intF st [.bl b] = some (.int (if b then 1 else 0)) := rfl
theorem v_new {a b : Int} (ha : 0 ≤ a) (hb : 0 ≤ b) (hb2 : b < 2147483647) : V st.length (st ++ [.lst [.int a, .int b]]) := ⟨a, b, by simp, ha, hb, hb2⟩
theorem mul_of {a b : Int} (h : -(2 ^ 64) < b ∧ b < 2 ^ 64) : mulD st (.int a) (.int b) = some (.int (a * b)) := by
  rw [mul_ii, if_pos]
  rw [Bool.or_eq_true]
  right
  rw [Bool.and_eq_true, decide_eq_true_eq, decide_eq_true_eq]
  exact h
theorem q_stream_tail (ns : List Int) (k : Nat) (hk : k ≤ 8) (z : Int) (st : Store) : ∃ st', oFn (evSs Zs streamT [.val (.scr ns), .val (.int k), .val (.int z), .no, .no] st) = .ok (.cell st.length) st' ∧ V st.length st' := by
  have hS : 0 ≤ (if z < -1 - z then -1 - z else z) := by split <;> omega
  have m1 := mul_of (st := st) (a := 7919) (b := k) ⟨by omega, by omega⟩
  have m2 := mul_of (st := st) (a := 7919 * k) (b := k) ⟨by omega, by omega⟩
  have m3 := mul_of (st := st) (a := 31) (b := k) ⟨by omega, by omega⟩
  have m4 : ∀ a, mulD st (.int a) (.int 48271) = some (.int (a * 48271)) := fun a => mul_of ⟨by omega, by omega⟩
  have hp : powD st (.int 10) (.int 18) = some (.int (10 ^ 18)) := by rw [pow_ii, if_pos (by decide)]; rfl
  simp [-mul_ii, -pow_ii, streamT, max_ii, int_bl, m1, m2, m3, m4, hp]
  generalize (if z < -1 - z then -1 - z else z) = S at *
  have m5 := mul_of (st := st) (a := S) (b := if 1000000000000000000 ≤ S then 1 else 0) (by split <;> decide)
  have hb1 : 0 ≤ (S % 2147483629 + 7919 * (k : Int) * k + 31 * k + 17) * 48271 % 2147483647 := Int.emod_nonneg _ (by omega)
  have hb2 : (S % 2147483629 + 7919 * (k : Int) * k + 31 * k + 17) * 48271 % 2147483647 < 2147483647 := Int.emod_lt_of_pos _ (by omega)
  generalize (S % 2147483629 + 7919 * (k : Int) * k + 31 * k + 17) * 48271 % 2147483647 = B at *
  refine ⟨st ++ [.lst [.int (S * if 1000000000000000000 ≤ S then 1 else 0), .int B]], ?_, v_new ?_ hb1 hb2⟩
  · simp [-mul_ii, m5]
  · split <;> omega
theorem q_stream (ns : List Int) (k : Nat) (hk : k ≤ 8) (st : Store) : ∃ st', m__law_stream [.scr ns, .int k] st = .ok (.cell st.length) st' ∧ V st.length st' := by
  have e : m__law_stream [.scr ns, .int k] st = if k < ns.length then oFn (evSs Zs streamT [.val (.scr ns), .val (.int k), .val (.int (ns.getD k 0)), .no, .no] st) else oFn (evSs Zs streamT [.val (.scr ns), .val (.int k), .val (.int 0), .no, .no] st) := by
    have h0 : k < ns.length → atI (ns.map D.int) (k : Int) = some (.int (ns.getD k 0)) := fun h => atI_nat (by rw [List.getElem?_map, List.getElem?_eq_getElem h]; simp [List.getD_eq_getElem?_getD, List.getElem?_eq_getElem h])
    by_cases h : k < ns.length
    · simp [m__law_stream, t__law_stream, h, h0 h, streamT]
    · simp [m__law_stream, t__law_stream, h, streamT]
  rw [e]
  split
  · exact q_stream_tail ns k hk _ st
  · exact q_stream_tail ns k hk _ st
end
end T78
end
section
set_option Elab.async false
set_option linter.all false
set_option maxRecDepth 100000
set_option maxHeartbeats 1000000
set_option autoImplicit false
/-! texts that are no texts of contents: the mathematics -/
namespace MM
open PySem SX DL
theorem sp_cnt (c : Nat) : ∀ t : Tx, (sp c t).length = t.count c + 1
  | [] => rfl
  | x :: r => by
    have ih := sp_cnt c r
    by_cases hx : x = c
    · subst hx; simp [sp, ih]
    · simp only [sp, if_neg hx]
      cases h : sp c r with
      | nil => exact absurd h (sp_ne c r)
      | cons a b =>
        rw [h] at ih
        simp at ih ⊢
        rw [List.count_cons_of_ne (by simpa using hx)]
        exact ih
theorem tail_three {ts : List Tx} (h : tailB ts = true) : ∃ v n s, ts = [v, n, s] ∧ keysB 4 v = true ∧ numB n = true ∧ keysB 4 s = true := by
  match ts, h with
  | [v, n, s], h =>
    simp only [tailB, Bool.and_eq_true] at h
    exact ⟨v, n, s, rfl, h⟩
theorem canB_step {n : Nat} {prev : Option Tx} {ts : List Tx} (h : canB n prev ts = true) : ∃ (m : Nat) (r k u se : Tx) (rest : List Tx), n = m + 1 ∧ ts = r :: k :: u :: se :: rest ∧ wordB r = true ∧ prevB prev r = true ∧ keysB 8 k = true ∧ wordB u = true ∧
    ((se = [47] ∧ canB m (some r) rest = true) ∨ (se = [124] ∧ tailB rest = true)) := by
  match n, ts, h with
  | m + 1, r :: k :: u :: se :: rest, h =>
    simp only [canB, Bool.and_eq_true] at h
    obtain ⟨h1, h2, h3, h4, h5⟩ := h
    refine ⟨m, r, k, u, se, rest, rfl, rfl, h1, h2, h3, h4, ?_⟩
    by_cases hs : se = [47]
    · rw [if_pos hs] at h5; exact .inl ⟨hs, h5⟩
    · rw [if_neg hs, Bool.and_eq_true, decide_eq_true_eq] at h5; exact .inr h5
  | 0, _, h => simp [canB] at h
  | m + 1, [], h => simp [canB] at h
  | m + 1, [_], h => simp [canB] at h
  | m + 1, [_, _], h => simp [canB] at h
  | m + 1, [_, _, _], h => simp [canB] at h
theorem canB_len : ∀ {n : Nat} {prev : Option Tx} {ts : List Tx}, canB n prev ts = true → ∃ m, 1 ≤ m ∧ m ≤ n ∧ ts.length = 4 * m + 3
  | 0, _, _, h => by simp [canB] at h
  | n + 1, prev, ts, h => by
    obtain ⟨m, r, k, u, se, rest, hm, rfl, _, _, _, _, h5⟩ := canB_step h
    cases hm
    rcases h5 with ⟨_, h5⟩ | ⟨_, h5⟩
    · obtain ⟨m, h1, h2, h3⟩ := canB_len h5
      exact ⟨m + 1, by omega, by omega, by simp [h3]; omega⟩
    · obtain ⟨v, n, s, rfl, _⟩ := tail_three h5
      exact ⟨1, by omega, by omega, rfl⟩
theorem bar_word : wordB [124] = false := rfl
theorem bar_keys (m : Nat) : keysB m [124] = false := by
  simp [keysB, sp, bar_word]
theorem canB_bar {b : List Tx} : ∀ {n : Nat} {prev : Option Tx} {a : List Tx}, [124] ∉ a → canB n prev (a ++ [124] :: b) = true → tailB b = true ∧ a.length % 4 = 3
  | 0, _, _, _, h => by simp [canB] at h
  | n + 1, prev, a, ha, h => by
    obtain ⟨m, r, k, u, se, rest, hm, e, h1, _, h3, h4, h5⟩ := canB_step h
    cases hm
    match a, ha, e with
    | [], _, e => simp at e; rw [← e.1] at h1; cases h1
    | [_], _, e => simp at e; rw [← e.2.1, bar_keys] at h3; cases h3
    | [_, _], _, e => simp at e; rw [← e.2.2.1] at h4; cases h4
    | [_, _, _], _, e =>
      simp at e
      obtain ⟨_, _, _, e1, e2⟩ := e
      subst e1; subst e2
      rcases h5 with ⟨z, _⟩ | ⟨_, h5⟩
      · cases z
      · exact ⟨h5, rfl⟩
    | x :: y :: z :: w :: a, ha, e =>
      simp at e
      obtain ⟨_, _, _, e1, e2⟩ := e
      subst e1; subst e2
      rcases h5 with ⟨_, h5⟩ | ⟨z, _⟩
      · have ih := canB_bar (a := a) (fun hm => ha (by simp [hm])) h5
        exact ⟨ih.1, by simp; omega⟩
      · exact absurd (by simp [z]) ha
def tokOk (t : Tx) : Prop := t ≠ [] ∧ pl t
theorem word_tok {t : Tx} (h : wordB t = true) : tokOk t := ⟨fun e => (by rw [e] at h; cases h), word_pl h⟩
theorem keys_tok {m : Nat} {t : Tx} (h : keysB m t = true) : tokOk t := by
  simp only [keysB, Bool.or_eq_true, Bool.and_eq_true, decide_eq_true_eq, List.all_eq_true] at h
  rcases h with rfl | ⟨_, h, _⟩
  · exact ⟨by simp, fun c hc => by simp at hc; omega⟩
  · have e := join_sp 44 t
    refine ⟨fun z => ?_, fun c hc => ?_⟩
    · rw [z] at h; have := h [] (by simp [sp]); cases this
    · rw [← e] at hc
      rcases mem_join hc with hc | ⟨p, hp, hc⟩
      · simp at hc; omega
      · exact word_pl (h p hp) c hc
theorem num_tok {t : Tx} (h : numB t = true) : tokOk t := by
  simp [numB] at h
  rcases h with rfl | rfl | rfl | rfl | rfl <;> exact ⟨by simp, fun c hc => by simp at hc; omega⟩
theorem canB_ok : ∀ {n : Nat} {prev : Option Tx} {ts : List Tx}, canB n prev ts = true → ∀ t ∈ ts, tokOk t
  | 0, _, _, h, _, _ => by simp [canB] at h
  | n + 1, prev, ts, h, t, ht => by
    obtain ⟨m, r, k, u, se, rest, hm, rfl, h1, h2, h3, h4, h5⟩ := canB_step h
    cases hm
    simp only [List.mem_cons] at ht
    rcases ht with rfl | rfl | rfl | rfl | ht
    · exact word_tok h1
    · exact keys_tok h3
    · exact word_tok h4
    · rcases h5 with ⟨rfl, _⟩ | ⟨rfl, _⟩ <;> exact ⟨by simp, fun c hc => by simp at hc; omega⟩
    · rcases h5 with ⟨_, h5⟩ | ⟨_, h5⟩
      · exact canB_ok h5 t ht
      · obtain ⟨v, n, s, rfl, k1, k2, k3⟩ := tail_three h5
        simp only [List.mem_cons, List.not_mem_nil, or_false] at ht
        rcases ht with rfl | rfl | rfl
        · exact keys_tok k1
        · exact num_tok k2
        · exact keys_tok k3
theorem canB_rows {ts : List Tx} : ∀ {l : List Rw} {n : Nat} {prev : Option Tx}, l ≠ [] → canB n prev (rowsT l ++ [47] :: ts) = true → ∃ n' r, r ∈ l ∧ canB n' (some r.1) ts = true
  | [], _, _, h, _ => absurd rfl h
  | [r], n, prev, _, h => by
    obtain ⟨m, r', k, u, se, rest, hm, e, h1, h2, h3, h4, h5⟩ := canB_step h
    simp [rowsT] at e
    obtain ⟨rfl, _, _, rfl, rfl⟩ := e
    rcases h5 with ⟨_, h5⟩ | ⟨z, _⟩
    · exact ⟨m, r, by simp, h5⟩
    · cases z
  | r :: s :: l, n, prev, _, h => by
    obtain ⟨m, r', k, u, se, rest, hm, e, h1, h2, h3, h4, h5⟩ := canB_step h
    simp [rowsT] at e
    obtain ⟨rfl, _, _, rfl, rfl⟩ := e
    rcases h5 with ⟨_, h5⟩ | ⟨z, _⟩
    · obtain ⟨n', x, hx, hc⟩ := canB_rows (l := s :: l) (by simp) h5
      exact ⟨n', x, List.mem_cons_of_mem _ hx, hc⟩
    · cases z
/-! ### the bent texts -/
def BadT (x : Tx) : Prop := x.length ≤ 3000 ∧ canB 3 none (sp 32 x) = false
theorem bad_of {x : Tx} (hl : x.length ≤ 3000) (h : canB 3 none (sp 32 x) = true → False) : BadT x := by
  refine ⟨hl, ?_⟩
  cases e : canB 3 none (sp 32 x) with
  | false => rfl
  | true => exact (h e).elim
theorem bad_cnt {x : Tx} (hl : x.length ≤ 3000) (h : (sp 32 x).length % 4 ≠ 3) : BadT x := bad_of hl fun z => by
  obtain ⟨m, _, _, e⟩ := canB_len z
  omega
theorem bad_tok {x : Tx} (hl : x.length ≤ 3000) {t : Tx} (ht : t ∈ sp 32 x) (h : ¬ tokOk t) : BadT x := bad_of hl fun z => h (canB_ok z t ht)
theorem no_nil : ¬ tokOk [] := fun h => h.1 rfl
theorem no_chr {t : Tx} {c : Nat} (hc : c ∈ t) (h : c < 44 ∨ c = 46 ∨ (52 < c ∧ c < 97) ∨ 122 < c ∧ c ≠ 124) : ¬ tokOk t := fun z => by
  have := z.2 c hc
  omega
section
variable {c : Con}
theorem rows_nobarT (h : rawOk c = true) : [124] ∉ rowsT c.roles := fun hm => by
  have hd : 124 ∉ headL c := rows_nobar h
  have e := join_sp 32 (headL c)
  rw [sp_head h] at e
  have key : ∀ {l : List Tx} {t : Tx} {x : Nat}, t ∈ l → x ∈ t → x ∈ TL.joinL [32] l := by
    intro l
    induction l with
    | nil => intro t x h; simp at h
    | cons a l ih =>
      intro t x h hx
      cases l with
      | nil => simp at h; subst h; exact hx
      | cons b l =>
        rw [join_cons (by simp)]
        rcases List.mem_cons.mp h with rfl | h
        · exact List.mem_append_left _ hx
        · exact List.mem_append_right _ (List.mem_append_right _ (ih h hx))
  exact hd (by rw [← e]; exact key hm (by simp))
/-- another tail -/
theorem sp_bar (h : rawOk c = true) (t : Tx) : sp 32 (headL c ++ 32 :: 124 :: 32 :: t) = rowsT c.roles ++ [124] :: sp 32 t := by
  rw [sp_app, sp_head h]
  rw [show (124 :: 32 :: t : Tx) = [124] ++ 32 :: t from rfl, sp_app]
  rfl
theorem bad_tail (h : canon c) {t : Tx} (ht : tailB (sp 32 t) = false) (hl : t.length ≤ 1000) : BadT (headL c ++ 32 :: 124 :: 32 :: t) := by
  refine bad_of (by have := head_len h.1; simp; omega) fun z => ?_
  rw [sp_bar h.1] at z
  have := (canB_bar (rows_nobarT h.1) z).1
  rw [ht] at this
  cases this
theorem rows_cnt (h : rawOk c = true) : (rowsT c.roles).length % 4 = 3 ∧ (rowsT c.roles).length ≤ 11 := by
  have := rowsT_len (raw_ne h)
  have := (raw_parts h).2.1
  omega
end
end MM
end
section
set_option Elab.async false
set_option linter.all false
set_option maxRecDepth 100000
set_option maxHeartbeats 1000000
set_option autoImplicit false
/-! the bent texts, one by one -/
namespace MM
open PySem SX DL
theorem sp_mem {c x : Nat} {t : Tx} (h : x ∈ t) (hx : x ≠ c) : ∃ p ∈ sp c t, x ∈ p := by
  have e := join_sp c t
  rw [← e] at h
  rcases mem_join h with h | h
  · simp at h; exact absurd h hx
  · exact h
theorem bad_chr {t : Tx} (hl : t.length ≤ 3000) {x : Nat} (h : x ∈ t) (hb : x < 32 ∨ (33 ≤ x ∧ x < 44) ∨ x = 46 ∨ (52 < x ∧ x < 97) ∨ 122 < x ∧ x ≠ 124) : BadT t := by
  obtain ⟨p, hp, hx⟩ := sp_mem (c := 32) h (by omega)
  exact bad_tok hl hp (no_chr hx (by omega))
theorem canB_hasbar {n : Nat} {prev : Option Tx} {ts : List Tx} (h : canB n prev ts = true) : [124] ∈ ts := by
  induction n generalizing prev ts with
  | zero => simp [canB] at h
  | succ n ih =>
    obtain ⟨m, r, k, u, se, rest, hm, rfl, h1, h2, h3, h4, h5⟩ := canB_step h
    cases hm
    rcases h5 with ⟨_, h5⟩ | ⟨rfl, _⟩
    · simp [ih h5]
    · simp
theorem nil_bad : BadT [] := ⟨by simp, by decide⟩
section
variable {c : Con}
theorem fmt_cnt (h : rawOk c = true) : (sp 32 (fmt c)).length % 4 = 3 := by
  have := rows_cnt h
  rw [sp_fmt h]
  simp [toks, tailT]
  omega
theorem bad5 (h : canon c) : BadT (fmt c ++ [32]) := by
  refine bad_tok (t := []) (by have := fmt_len h.1; simp; omega) ?_ no_nil
  rw [sp_app]; simp [sp]
theorem bad6 (h : canon c) : BadT (32 :: fmt c) := by
  refine bad_tok (t := []) (by have := fmt_len h.1; simp; omega) ?_ no_nil
  rw [sp_cons]; simp
theorem bad7 (h : canon c) : BadT (fmt c ++ [10]) := bad_chr (x := 10) (by have := fmt_len h.1; simp; omega) (by simp) (by omega)
theorem bad9 (h : canon c) : BadT (headL c ++ 124 :: tailL c) := by
  refine bad_cnt (by have := head_len h.1; have := tail_len h.1; simp; omega) ?_
  have h1 := sp_cnt 32 (headL c)
  have h2 := sp_cnt 32 (tailL c)
  rw [sp_head h.1] at h1
  rw [sp_tail h.1] at h2
  have h3 := rows_cnt h.1
  rw [sp_cnt]
  simp [tailT] at h2 ⊢
  omega
theorem bad10 (h : canon c) : BadT (headL c) := bad_of (by have := head_len h.1; omega) fun z => by
  rw [sp_head h.1] at z
  exact rows_nobarT h.1 (canB_hasbar z)
theorem bad11 (h : canon c) : BadT (tailL c) := bad_of (by have := tail_len h.1; omega) fun z => by
  rw [sp_tail h.1] at z
  obtain ⟨m, h1, _, h3⟩ := canB_len z
  simp [tailT] at h3
  omega
theorem bad12 (h : canon c) : BadT (headL c ++ 32 :: 124 :: 32 :: (tailL c ++ 32 :: 124 :: 32 :: tailL c)) := by
  refine bad_tail h ?_ (by have := tail_len h.1; simp; omega)
  have e : sp 32 (tailL c ++ 32 :: 124 :: 32 :: tailL c) = tailT c ++ [124] :: tailT c := by
    rw [sp_app, sp_tail h.1, show (124 :: 32 :: tailL c : Tx) = [124] ++ 32 :: tailL c from rfl, sp_app, sp_tail h.1]; rfl
  rw [e]; rfl
theorem bad13 (h : canon c) : BadT (headL c ++ 32 :: 47 :: 32 :: 124 :: 32 :: tailL c) := by
  refine bad_cnt (by have := head_len h.1; have := tail_len h.1; simp; omega) ?_
  have h1 := sp_cnt 32 (headL c)
  have h2 := sp_cnt 32 (tailL c)
  rw [sp_head h.1] at h1
  rw [sp_tail h.1] at h2
  have h3 := rows_cnt h.1
  rw [sp_cnt]
  simp [tailT] at h2 ⊢
  omega
theorem bad16 (h : canon c) : BadT (fmt c ++ [32, 120]) := by
  refine bad_cnt (by have := fmt_len h.1; simp; omega) ?_
  have h1 := sp_cnt 32 (fmt c)
  have h3 := fmt_cnt h.1
  rw [sp_cnt]
  simp
  omega
theorem bad17 (h : canon c) : BadT (120 :: 32 :: fmt c) := by
  refine bad_cnt (by have := fmt_len h.1; simp; omega) ?_
  have h1 := sp_cnt 32 (fmt c)
  have h3 := fmt_cnt h.1
  rw [sp_cnt]
  simp
  omega
theorem bad18 (h : canon c) : BadT (headL c ++ 32 :: 120 :: 32 :: 124 :: 32 :: tailL c) := by
  refine bad_cnt (by have := head_len h.1; have := tail_len h.1; simp; omega) ?_
  have h1 := sp_cnt 32 (headL c)
  have h2 := sp_cnt 32 (tailL c)
  rw [sp_head h.1] at h1
  rw [sp_tail h.1] at h2
  have h3 := rows_cnt h.1
  rw [sp_cnt]
  simp [tailT] at h2 ⊢
  omega
theorem numB_fk {m : Nat} {l : List Tx} (h : keysOk m l = true) : numB (fk l) = false := by
  cases e : numB (fk l) with
  | false => rfl
  | true =>
    have hk := fk_kp (keysOk_words h)
    simp [numB] at e
    rcases e with e | e | e | e | e <;> (rw [e] at hk; have := hk _ (List.mem_singleton.mpr rfl); omega)
theorem bad19 (h : canon c) : BadT (tailL c ++ 32 :: 124 :: 32 :: headL c) := by
  refine bad_of (by have := head_len h.1; have := tail_len h.1; simp; omega) fun z => ?_
  have e : sp 32 (tailL c ++ 32 :: 124 :: 32 :: headL c) = tailT c ++ [124] :: rowsT c.roles := by
    rw [sp_app, sp_tail h.1, show (124 :: 32 :: headL c : Tx) = [124] ++ 32 :: headL c from rfl, sp_app, sp_head h.1]; rfl
  rw [e] at z
  have hb : [124] ∉ tailT c := fun hm => by
    obtain ⟨p1, p2, p3, p4, p5⟩ := raw_parts h.1
    simp [tailT, num1 p4] at hm
    rcases hm with hm | hm | hm
    · have := fk_kp (keysOk_words p3) 124 (by rw [← hm]; simp); omega
    · omega
    · have := fk_kp (keysOk_words p5) 124 (by rw [← hm]; simp); omega
  have ht := (canB_bar hb z).1
  obtain ⟨v, n, s, e2, _, k2, _⟩ := tail_three ht
  have hr := raw_roles h.1
  match hc : c.roles, raw_ne h.1 with
  | [r], _ =>
    rw [hc] at e2 hr
    simp [rowsT] at e2
    rw [← e2.2.1, numB_fk (hr r (by simp)).2.1] at k2
    cases k2
  | r :: s :: l, _ =>
    have := congrArg List.length e2
    have e3 := rowsT_len (l := c.roles) (raw_ne h.1)
    rw [hc] at e3 this
    simp at e3 this
    omega
theorem bad20 (h : canon c) : BadT (headL c ++ 32 :: 47 :: 32 :: (headL c ++ 32 :: 124 :: 32 :: tailL c)) := by
  refine bad_of (by have := head_len h.1; have := tail_len h.1; simp; omega) fun z => ?_
  have e : sp 32 (headL c ++ 32 :: 47 :: 32 :: (headL c ++ 32 :: 124 :: 32 :: tailL c)) = rowsT c.roles ++ [47] :: (rowsT c.roles ++ [124] :: tailT c) := by
    rw [sp_app, sp_head h.1, show (47 :: 32 :: (headL c ++ 32 :: 124 :: 32 :: tailL c) : Tx) = [47] ++ 32 :: (headL c ++ 32 :: 124 :: 32 :: tailL c) from rfl, sp_app, sp_bar h.1, sp_tail h.1]; rfl
  rw [e] at z
  obtain ⟨n', r, hr, z⟩ := canB_rows (raw_ne h.1) z
  obtain ⟨m, r', k, u, se, rest, hm, e2, h1, h2, _⟩ := canB_step z
  have hasc := asc_pairwise h.2.1
  rw [List.pairwise_map] at hasc
  have h2 : r.1 < r' := of_decide_eq_true h2
  match hc : c.roles, raw_ne h.1 with
  | r0 :: l, _ =>
    have e3 : r' = r0.1 := by
      rw [hc] at e2
      cases l with
      | nil => simp [rowsT] at e2; exact e2.1.symm
      | cons s l => simp [rowsT] at e2; exact e2.1.symm
    subst e3
    rw [hc] at hr hasc
    rcases List.mem_cons.mp hr with rfl | hr
    · exact List.lt_irrefl _ h2
    · exact List.lt_irrefl _ (List.lt_trans h2 ((List.pairwise_cons.mp hasc).1 r hr))
theorem keys_comma {m n : Nat} {l : List Tx} (h : keysOk m l = true) : keysB n (fk l ++ [44]) = false := by
  have e : sp 44 (fk l ++ [44]) = sp 44 (fk l) ++ [[]] := by rw [show fk l ++ [44] = fk l ++ 44 :: [] from rfl, sp_app]; rfl
  have hne : fk l ++ [44] ≠ [45] := fun z => by
    have := congrArg List.getLast? z
    simp at this
  have hw : wordB [] = false := rfl
  simp [keysB, e, hne, hw]
theorem bad21 (h : canon c) : BadT (headL c ++ 32 :: 124 :: 32 :: (tailL c ++ [44])) := by
  obtain ⟨p1, p2, p3, p4, p5⟩ := raw_parts h.1
  refine bad_tail h ?_ (by have := tail_len h.1; simp; omega)
  have e : tailL c ++ [44] = fk c.vouch ++ 32 :: (TL.numL c.need ++ 32 :: (fk c.sign ++ [44])) := by simp [tailL]
  have f1 : 32 ∉ fk c.vouch := pl_no (fk_pl (keysOk_words p3))
  have f2 : 32 ∉ TL.numL c.need := pl_no (num_pl p4)
  have f3 : 32 ∉ fk c.sign ++ [44] := by
    have := pl_no (fk_pl (keysOk_words p5))
    simp [this]
  rw [e, sp_app, sp_app, sp_free f1, sp_free f2, sp_free f3]
  simp [tailB, keys_comma p5]
/-- a 0 behind a blank of the tail -/
theorem keys_zero {m n : Nat} {l : List Tx} (h : keysOk m l = true) : keysB n (48 :: fk l) = false := by
  have e : ∃ a r, sp 44 (48 :: fk l) = (48 :: a) :: r := by
    simp only [sp]
    cases hs : sp 44 (fk l) with
    | nil => exact absurd hs (sp_ne _ _)
    | cons a r => exact ⟨a, r, by simp⟩
  obtain ⟨a, r, e⟩ := e
  have hw : wordB (48 :: a) = false := by simp [wordB, lowB]
  simp [keysB, e, hw]
theorem bad22 (h : canon c) {p q : Tx} (hpq : tailL c = p ++ 32 :: q) : BadT (headL c ++ 32 :: 124 :: 32 :: (p ++ 32 :: 48 :: q)) := by
  obtain ⟨p1, p2, p3, p4, p5⟩ := raw_parts h.1
  have hl := tail_len h.1
  rw [hpq] at hl
  simp at hl
  refine bad_tail h ?_ (by simp; omega)
  have e := sp_tail h.1
  rw [hpq, sp_app] at e
  rw [sp_app]
  have e2 : ∀ q0 qs, sp 32 q = q0 :: qs → sp 32 (48 :: q) = (48 :: q0) :: qs := fun q0 qs hq => by
    simp [sp, hq]
  cases hq : sp 32 q with
  | nil => exact absurd hq (sp_ne _ _)
  | cons q0 qs =>
    rw [e2 q0 qs hq]
    rw [hq] at e
    cases hp : sp 32 p with
    | nil => exact absurd hp (sp_ne _ _)
    | cons a as =>
      rw [hp] at e
      match as, qs, e with
      | [], [s], e =>
        simp [tailT] at e
        obtain ⟨rfl, rfl, rfl⟩ := e
        simp [tailB, num1 p4, numB]
      | [b], [], e =>
        simp [tailT] at e
        obtain ⟨rfl, rfl, rfl⟩ := e
        simp [tailB, keys_zero p5]
      | [], [], e => simp [tailT] at e
      | [], _ :: _ :: _, e => simp [tailT] at e
      | [b], _ :: _, e => simp [tailT] at e
      | _ :: _ :: _, _, e => simp [tailT] at e
/-- the first role's name -/
def name0 (c : Con) : Tx := (c.roles.map (·.1)).headD []
theorem name0_word (h : canon c) : wordB (name0 c) = true := by
  have := raw_roles h.1
  match hc : c.roles, raw_ne h.1 with
  | r :: l, _ =>
    rw [hc] at this
    simp [name0, hc]
    exact (this r (by simp)).1
theorem bad25 (h : canon c) {k t : Tx} (hk : 32 ∉ k) (hb : keysB 8 k = false) (hl : k.length ≤ 100) (ht : t.length ≤ 1000) : BadT (name0 c ++ 32 :: (k ++ 32 :: t)) := by
  have hw := name0_word h
  have hn := (word_len hw).2
  refine bad_of (by simp; omega) fun z => ?_
  rw [sp_app, sp_app, sp_free (word_not hw (by omega)), sp_free hk] at z
  obtain ⟨m, r, k', u, se, rest, hm, e, h1, h2, h3, _⟩ := canB_step z
  simp at e
  rw [← e.2.1, hb] at h3
  cases h3
theorem bad26 (h : canon c) {u t : Tx} (hk : 32 ∉ u) (hb : wordB u = false) (hl : u.length ≤ 100) (ht : t.length ≤ 1000) : BadT (name0 c ++ 32 :: 45 :: 32 :: (u ++ 32 :: t)) := by
  have hw := name0_word h
  have hn := (word_len hw).2
  refine bad_of (by simp; omega) fun z => ?_
  have e0 : sp 32 (45 :: 32 :: (u ++ 32 :: t)) = [45] :: u :: sp 32 t := by
    rw [show (45 :: 32 :: (u ++ 32 :: t) : Tx) = [45] ++ 32 :: (u ++ 32 :: t) from rfl, sp_app, sp_app, sp_free hk]; rfl
  rw [sp_app, e0, sp_free (word_not hw (by omega))] at z
  obtain ⟨m, r, k', u', se, rest, hm, e, h1, h2, h3, h4, _⟩ := canB_step z
  simp at e
  rw [← e.2.2.1, hb] at h4
  cases h4
theorem bad26b {u t : Tx} (hk : 32 ∉ u) (hb : wordB u = false) (hl : u.length ≤ 100) (ht : t.length ≤ 1000) : BadT (u ++ 32 :: t) := by
  refine bad_of (by simp; omega) fun z => ?_
  rw [sp_app, sp_free hk] at z
  obtain ⟨m, r, k', u', se, rest, hm, e, h1, _⟩ := canB_step z
  simp at e
  rw [← e.1, hb] at h1
  cases h1
end
end MM
end
section
set_option Elab.async false
set_option linter.all false
set_option maxRecDepth 100000
set_option maxHeartbeats 1000000
set_option autoImplicit false
/-! replace, upper -/
namespace MM
open PySem SX DL PySem.StrLaws
open PySem.Builtin PySem.Builtin.Str
theorem U_of {x : Str} {l : Tx} (h : x.cps.toList = l) : x = U l := TL.ext_tl h
theorem replace_U {y z x : Tx} (hy : y ≠ []) : Txt.replace (U x) (U y) (U z) = U (replL y z x) := by
  refine U_of ?_
  rw [replace_list (by rw [U_length]; cases y with | nil => exact absurd rfl hy | cons a r => simp)]
  rfl
theorem replL_len {y z x : Tx} (hy : y ≠ []) : (replL y z x).length ≤ x.length + (x.length + 1) * z.length := by
  have := TK.replace_len (U x) (U y) (U z)
  rw [replace_U hy] at this
  simpa using this
theorem repl_part {y z p t : Tx} (hy : y ≠ []) (h : ∀ k, k < p.length → ¬ ((p ++ (y ++ t)).drop k).take y.length = y) : replL y z (p ++ (y ++ t)) = p ++ (z ++ replL y z t) := by
  have e := repl_copy (y := y) (z := z) (L := p ++ (y ++ t)) p.length 0 (fun k _ hk => h k (by omega)) (by simp)
  rw [List.drop_zero, Nat.zero_add, List.take_left, List.drop_left] at e
  rw [e]
  cases y with
  | nil => exact absurd rfl hy
  | cons a r =>
    rw [List.cons_append, replL_hit (by simp) (by simp)]
    simp
theorem repl_blank {z p t : Tx} (h : 32 ∉ p) : replL [32] z (p ++ 32 :: t) = p ++ (z ++ replL [32] z t) := by
  refine repl_part (y := [32]) (by simp) fun k hk e => ?_
  rw [List.drop_append_of_le_length (by omega)] at e
  cases e2 : p.drop k with
  | nil => have := congrArg List.length e2; simp at this; omega
  | cons a r =>
    rw [e2] at e
    simp at e
    exact h (List.mem_of_mem_drop (i := k) (by rw [e2, e]; simp))
section
variable {c : Con}
theorem head_name (h : canon c) : ∃ t, headL c = name0 c ++ 32 :: t := by
  match hc : c.roles, raw_ne h.1 with
  | [r], _ => exact ⟨fk r.2.1 ++ ([32] ++ r.2.2), by simp [headL, name0, hc, rowL, TL.joinL]⟩
  | r :: s :: l, _ => exact ⟨fk r.2.1 ++ ([32] ++ r.2.2) ++ ([32, 47, 32] ++ TL.joinL [32, 47, 32] ((s :: l).map rowL)), by simp [headL, name0, hc, rowL, TL.joinL]⟩
theorem fmt_name (h : canon c) : ∃ t, fmt c = name0 c ++ 32 :: t := by
  obtain ⟨t, e⟩ := head_name h
  exact ⟨t ++ ([32, 124, 32] ++ tailL c), by rw [fmt_eq (raw_ne h.1), e]; simp⟩
theorem name0_free (h : canon c) : 32 ∉ name0 c := word_not (name0_word h) (by omega)
theorem bad8 (h : canon c) : BadT (replL [32] [32, 32] (fmt c)) := by
  obtain ⟨t, e⟩ := fmt_name h
  refine bad_tok (t := []) ?_ ?_ no_nil
  · have := replL_len (y := [32]) (z := [32, 32]) (x := fmt c) (by simp)
    have := fmt_len h.1
    simp at *; omega
  · rw [e, repl_blank (name0_free h), show name0 c ++ ([32, 32] ++ replL [32] [32, 32] t) = name0 c ++ 32 :: ([] ++ 32 :: replL [32] [32, 32] t) from rfl, sp_app, sp_app]
    simp [sp]
theorem repl9 (h : canon c) : replL [32, 124, 32] [124] (fmt c) = headL c ++ 124 :: tailL c := by
  have hp : 124 ∉ headL c := rows_nobar h.1
  have hq : 124 ∉ tailL c := tail_nobar h.1
  rw [fmt_eq (raw_ne h.1), repl_part (by simp) fun k hk e => by
    have := pre_bar (q := tailL c) hp hk
    unfold TL.pre at this
    rw [e] at this
    simp at this]
  have e : replL [32, 124, 32] [124] (tailL c) = tailL c := by
    have := repl_none (y := [32, 124, 32]) (z := [124]) (L := tailL c) (a := 0) fun k _ e => by
      have := pre_bar2 (i := k) hq
      unfold TL.pre at this
      rw [e] at this
      simp at this
    simpa using this
  rw [e]; rfl
theorem bad14 (h : canon c) : BadT (replL [32] [9] (headL c)) := by
  obtain ⟨t, e⟩ := head_name h
  refine bad_chr (x := 9) ?_ ?_ (by omega)
  · have := replL_len (y := [32]) (z := [9]) (x := headL c) (by simp)
    have := head_len h.1
    simp at *; omega
  · rw [e, repl_blank (name0_free h)]; simp
theorem bad15 (h : canon c) : BadT ((fmt c).map PyProof.Rows.up1) := by
  obtain ⟨t, e⟩ := fmt_name h
  have hw := word_iff.mp (name0_word h)
  obtain ⟨a, r, ea⟩ : ∃ a r, name0 c = a :: r := by
    cases hn : name0 c with
    | nil => rw [hn] at hw; simp at hw
    | cons a r => exact ⟨a, r, rfl⟩
  have ha := hw.2 a (by rw [ea]; simp)
  refine bad_chr (x := a - 32) (by have := fmt_len h.1; simp; omega) ?_ (by omega)
  rw [e, ea]
  simp
  left
  simp [PyProof.Rows.up1, ha]
theorem fmt_low (h : canon c) : (fmt c).all (fun x => decide (x < 128)) = true := by
  rw [List.all_eq_true]
  intro x hx
  have : x < 128 := by
    rcases mem_join hx with hx | ⟨t, ht, hx⟩
    · simp at hx; omega
    · have := toks_pl h.1 t ht x hx; omega
  exact decide_eq_true this
end
/-! one only -/
theorem occ_le1 (s sub : Str) (hi : Nat) : ∀ (l : List Nat) (st : Array Nat × Nat), st.fst.size ≤ 1 → (forIn l st (occBody s sub hi 1)).run.fst.size ≤ 1
  | [], _, h => h
  | a :: l, st, h => by
    rw [List.forIn_cons]
    unfold occBody
    split
    · rename_i hc
      refine occ_le1 s sub hi l _ ?_
      have hc := hc.1.1.1
      show (st.fst.push a).size ≤ 1
      rw [Array.size_push]
      omega
    · exact occ_le1 s sub hi l _ h
theorem occ_one {x : Tx} {c : Nat} (h : c ∈ x) : ∃ a, occurrences (U x) (U [c]) 0 (U x).length 1 = [a] ∧ a < x.length ∧ x[a]? = some c := by
  have h1 : (!(occurrences (U x) (U [c]) 0 (U x).length 1).isEmpty) = true := by
    have e : (!(occurrences (U x) (U [c]) 0 (U x).length 1).isEmpty) = decide (c ∈ x) := SX.in_one x c
    rw [e]; exact decide_eq_true h
  obtain ⟨f, hc⟩ := occ_chain (U x) (U [c]) 1
  have hl : (occurrences (U x) (U [c]) 0 (U x).length 1).length ≤ 1 := by
    rw [occ_eq]
    have := occ_le1 (U x) (U [c]) (U x).length (List.range' 0 ((U x).length + 1)) (#[], 0) (by simp)
    simpa using this
  match ho : occurrences (U x) (U [c]) 0 (U x).length 1, hl, h1, hc with
  | [], _, h1, _ => simp at h1
  | [a], _, _, hc =>
    refine ⟨a, rfl, ?_, ?_⟩
    · have := hc.2.1.1
      rw [U_length] at this
      simp at this
      omega
    · exact (subAt_one (U x) c a).mp hc.2.1
  | _ :: _ :: _, hl, _, _ => simp at hl
theorem replaceN_U {x z : Tx} {c : Nat} (h : c ∈ x) : ∃ p q, x = p ++ c :: q ∧ replaceN (U x) (U [c]) (U z) 1 = U (p ++ z ++ q) := by
  obtain ⟨a, e, hl, ha⟩ := occ_one h
  refine ⟨x.take a, x.drop (a + 1), ?_, ?_⟩
  · have : x.drop a = c :: x.drop (a + 1) := by
      rw [List.drop_eq_getElem_cons hl]
      rw [List.getElem?_eq_getElem hl] at ha
      rw [Option.some.inj ha]
    rw [← this, List.take_append_drop]
  · have el : limitOf (U x) 1 = 1 := rfl
    unfold replaceN
    rw [el, e]
    have ez : ((U [c]).length == 0) = false := rfl
    simp only [List.isEmpty_cons, ez, Bool.false_and, Bool.or_self]
    rw [if_neg Bool.false_ne_true]
    refine U_of ?_
    have ep : partsBetween (U x) [a] (U [c]).length = [strSub (U x) 0 a, strSub (U x) (a + 1) (U x).length] := rfl
    rw [ep, glued_list]
    have e3 : (x.drop (a + 1)).take (x.length - (a + 1)) = x.drop (a + 1) := List.take_of_length_le (by simp)
    simp only [glueT, glueL, strSub_toList, U_length]
    show (x.drop 0).take (a - 0) ++ (z ++ ((x.drop (a + 1)).take (x.length - (a + 1)) ++ [])) = _
    rw [e3]
    simp
end MM
end
section
set_option Elab.async false
set_option linter.all false
set_option maxRecDepth 100000
set_option maxHeartbeats 2000000
set_option autoImplicit false
/-! _law_bad_texts (printed by mkM12.py) -/
namespace T78
open PySem PySem.Spec L2 DL MM
@[simp] theorem L0 : Str.ofString "" = U [] := by decide +kernel
@[simp] theorem L1 : Str.ofString " " = U [32] := by decide +kernel
@[simp] theorem L2 : Str.ofString "|" = U [124] := by decide +kernel
@[simp] theorem L3 : Str.ofString " | " = U [32, 124, 32] := by decide +kernel
@[simp] theorem L4 : Str.ofString "\n" = U [10] := by decide +kernel
@[simp] theorem L5 : Str.ofString "  " = U [32, 32] := by decide +kernel
@[simp] theorem L6 : Str.ofString "\t" = U [9] := by decide +kernel
@[simp] theorem L7 : Str.ofString " x" = U [32, 120] := by decide +kernel
@[simp] theorem L8 : Str.ofString "x " = U [120, 32] := by decide +kernel
@[simp] theorem L9 : Str.ofString " x | " = U [32, 120, 32, 124, 32] := by decide +kernel
@[simp] theorem L10 : Str.ofString " / " = U [32, 47, 32] := by decide +kernel
@[simp] theorem L11 : Str.ofString "," = U [44] := by decide +kernel
@[simp] theorem L12 : Str.ofString " 0" = U [32, 48] := by decide +kernel
@[simp] theorem L13 : Str.ofString " / | " = U [32, 47, 32, 124, 32] := by decide +kernel
@[simp] theorem L14 : Str.ofString "5" = U [53] := by decide +kernel
@[simp] theorem L15 : Str.ofString "-1" = U [45, 49] := by decide +kernel
@[simp] theorem L16 : Str.ofString "x" = U [120] := by decide +kernel
@[simp] theorem L17 : Str.ofString "00" = U [48, 48] := by decide +kernel
@[simp] theorem L18 : Str.ofString "01" = U [48, 49] := by decide +kernel
@[simp] theorem L19 : Str.ofString "+1" = U [43, 49] := by decide +kernel
@[simp] theorem L20 : Str.ofString "1.0" = U [49, 46, 48] := by decide +kernel
@[simp] theorem L21 : Str.ofString "10" = U [49, 48] := by decide +kernel
@[simp] theorem L22 : Str.ofString "a,a" = U [97, 44, 97] := by decide +kernel
@[simp] theorem L23 : Str.ofString "b,a" = U [98, 44, 97] := by decide +kernel
@[simp] theorem L24 : Str.ofString "a,,b" = U [97, 44, 44, 98] := by decide +kernel
@[simp] theorem L25 : Str.ofString ",a" = U [44, 97] := by decide +kernel
@[simp] theorem L26 : Str.ofString "a," = U [97, 44] := by decide +kernel
@[simp] theorem L27 : Str.ofString "A" = U [65] := by decide +kernel
@[simp] theorem L28 : Str.ofString "a1" = U [97, 49] := by decide +kernel
@[simp] theorem L29 : Str.ofString "abcdefghi" = U [97, 98, 99, 100, 101, 102, 103, 104, 105] := by decide +kernel
@[simp] theorem L30 : Str.ofString "a,b,c,d,e" = U [97, 44, 98, 44, 99, 44, 100, 44, 101] := by decide +kernel
@[simp] theorem L31 : Str.ofString "a b" = U [97, 32, 98] := by decide +kernel
@[simp] theorem L32 : Str.ofString "--" = U [45, 45] := by decide +kernel
@[simp] theorem L33 : Str.ofString "a,-" = U [97, 44, 45] := by decide +kernel
@[simp] theorem L34 : Str.ofString "a,b,c,d,e,f,g,h,i" = U [97, 44, 98, 44, 99, 44, 100, 44, 101, 44, 102, 44, 103, 44, 104, 44, 105] := by decide +kernel
@[simp] theorem L35 : Str.ofString "-" = U [45] := by decide +kernel
@[simp] theorem L36 : Str.ofString "a,b" = U [97, 44, 98] := by decide +kernel
@[simp] theorem L37 : Str.ofString " | - " = U [32, 124, 32, 45, 32] := by decide +kernel
@[simp] theorem L38 : Str.ofString " -" = U [32, 45] := by decide +kernel
@[simp] theorem L39 : Str.ofString " 1 -" = U [32, 49, 32, 45] := by decide +kernel
@[simp] theorem L40 : Str.ofString " | - 1 " = U [32, 124, 32, 45, 32, 49, 32] := by decide +kernel
@[simp] theorem L41 : Str.ofString " a | " = U [32, 97, 32, 124, 32] := by decide +kernel
@[simp] theorem L42 : Str.ofString " - " = U [32, 45, 32] := by decide +kernel
@[simp] theorem L43 : Str.ofString " - a | " = U [32, 45, 32, 97, 32, 124, 32] := by decide +kernel
@[simp] theorem L44 : Str.ofString "b - a / a - a | - 0 -" = U [98, 32, 45, 32, 97, 32, 47, 32, 97, 32, 45, 32, 97, 32, 124, 32, 45, 32, 48, 32, 45] := by decide +kernel
@[simp] theorem L45 : Str.ofString "a - a / a - b | - 0 -" = U [97, 32, 45, 32, 97, 32, 47, 32, 97, 32, 45, 32, 98, 32, 124, 32, 45, 32, 48, 32, 45] := by decide +kernel
@[simp] theorem L46 : Str.ofString "a - a / b - a / c - a / d - a | - 0 -" = U [97, 32, 45, 32, 97, 32, 47, 32, 98, 32, 45, 32, 97, 32, 47, 32, 99, 32, 45, 32, 97, 32, 47, 32, 100, 32, 45, 32, 97, 32, 124, 32, 45, 32, 48, 32, 45] := by decide +kernel
section
variable {st : Store}
def AllBad (ds : List D) : Prop := ∀ d ∈ ds, ∃ x, d = .str (U x) ∧ BadT x
theorem allBad_nil : AllBad [] := fun d h => by simp at h
theorem allBad_app {a b : List D} (ha : AllBad a) (hb : AllBad b) : AllBad (a ++ b) := fun d h => by
  rcases List.mem_append.mp h with h | h
  · exact ha d h
  · exact hb d h
theorem allBad_cons {x : Tx} {l : List D} (h : BadT x) (hl : AllBad l) : AllBad (.str (U x) :: l) := fun d hd => by
  rcases List.mem_cons.mp hd with rfl | hd
  · exact ⟨x, rfl, h⟩
  · exact hl d hd
def badE (TD : D) (c : Con) (R : List D) (z : Slot) (ds : List D) : DEnv := [.val TD, .val (.str (U (fmt c))), .val (.lst R), .val (.str (U (headL c))), .val (.str (U (tailL c))), .own (.lst ds), z]
def badI (TD : D) (c : Con) (R : List D) (st : Store) (base : Nat) (pre : List Tx) (env : DEnv) (s : Store) : Prop := s = st ∧ ∃ z ds, env = badE TD c R z ds ∧ AllBad ds ∧ ds.length ≤ base + 2 * pre.length
def odd1 : List Tx := [[53], [45, 49], [120], [], [48, 48], [48, 49], [43, 49], [49, 46, 48], [49, 48]]
def odd2 : List Tx := [[97, 44, 97], [98, 44, 97], [97, 44, 44, 98], [44, 97], [97, 44], [65], [97, 49], [97, 98, 99, 100, 101, 102, 103, 104, 105], [97, 44, 98, 44, 99, 44, 100, 44, 101], [], [97, 32, 98], [45, 45], [97, 44, 45]]
def odd3 : List Tx := [[97, 44, 97], [98, 44, 97], [44, 97], [97, 44], [65], [97, 98, 99, 100, 101, 102, 103, 104, 105], [97, 44, 98, 44, 99, 44, 100, 44, 101, 44, 102, 44, 103, 44, 104, 44, 105], [], [97, 44, 45]]
def odd4 : List Tx := [[], [65], [45], [97, 44, 98], [97, 98, 99, 100, 101, 102, 103, 104, 105]]
theorem odd1_bad : ∀ t ∈ odd1, tailB (sp 32 (45 :: 32 :: (t ++ [32, 45]))) = false ∧ t.length ≤ 20 := by decide
theorem odd2_bad : ∀ t ∈ odd2, tailB (sp 32 (t ++ [32, 49, 32, 45])) = false ∧ tailB (sp 32 (45 :: 32 :: 49 :: 32 :: t)) = false ∧ t.length ≤ 20 := by decide
theorem odd3_bad : ∀ t ∈ odd3, keysB 8 t = false ∧ 32 ∉ t ∧ t.length ≤ 20 := by decide
theorem odd4_bad : ∀ t ∈ odd4, wordB t = false ∧ 32 ∉ t ∧ t.length ≤ 20 := by decide
theorem q_bad_texts (rs : List Rw) (v : List Tx) (n : Nat) (s : Option (List Tx)) (h : rawOk (mkCon rs v n s) = true) (nd : RNd (mkCon rs v n s)) (st : Store) :
    ∃ ds, m__law_bad_texts [toldD rs v n s] st = .ok (.lst ds) st ∧ AllBad ds ∧ ds.length ≤ 1000 := by
  have hc := canon_sorted h nd
  have el := q_law_line rs v n s h nd st
  have nd' : (rs.map (·.1)).Nodup := nd
  have hn : ((sortR rs).map (·.1)).headD [] = name0 (mkCon rs v n s).sorted := by simp [name0, Con.sorted, mkCon, Function.comp_def]
  have ht : ∃ T, toldD rs v n s = .tup T := ⟨_, rfl⟩
  have hsub : subsD st (toldD rs v n s) (.int 0) = some (.lst (rs.map rowD)) := by simp [toldD]
  generalize (mkCon rs v n s).sorted = c at *
  generalize toldD rs v n s = TD at *
  have e1 := split_r (st := st) (a := fmt c) (b := [32, 124, 32]) (by simp) (by decide) (by have := fmt_len hc.1; omega)
  have e2 : halves (fmt c) = [headL c, tailL c] := by rw [fmt_eq (raw_ne hc.1)]; exact halves_two (rows_nobar hc.1) (tail_nobar hc.1)
  have e1 : splitF (U (fmt c)) st [.str (U [32, 124, 32])] = some (.lst (strL (halves (fmt c)))) := e1
  rw [e2] at e1
  have hl := fmt_len hc.1
  have hh := head_len hc.1
  have hn0 := (word_len (name0_word hc)).2
  have htl := tail_len hc.1
  have hR : (((sortR rs).map rowD).headD .non) = .tup [.str (U (name0 c)), ((((sortR rs).map fun r => D.lst (strL r.2.1)).headD .non)), ((((sortR rs).map fun r => D.str (U r.2.2)).headD .non))] ∧ (sortR rs) ≠ [] := by
    have hw := word_len (name0_word hc)
    cases hs : sortR rs with
    | nil =>
      have e0 : name0 c = [] := by rw [← hn, hs]; rfl
      rw [e0] at hw; simp at hw
    | cons r l => rw [hs] at hn; simp at hn; simp [rowD, hn]
  have hR0 : atI ((sortR rs).map rowD) 0 = some (.tup [.str (U (name0 c)), ((((sortR rs).map fun r => D.lst (strL r.2.1)).headD .non)), ((((sortR rs).map fun r => D.str (U r.2.2)).headD .non))]) := by
    rw [← hR.1]
    cases hs : sortR rs with
    | nil => exact absurd hs hR.2
    | cons r l => simp
  generalize (((sortR rs).map fun r => D.lst (strL r.2.1)).headD .non) = X1 at *
  generalize (((sortR rs).map fun r => D.str (U r.2.2)).headD .non) = X2 at *
  have hup : upperF (U (fmt c)) st [] = some (.str (U ((fmt c).map PyProof.Rows.up1))) := by
    show (if (U (fmt c)).length ≤ 5592405 then some (D.str (Txt.upper (U (fmt c)))) else none) = _
    rw [if_pos (by rw [U_length]; omega)]
    exact congrArg (fun z => some (D.str z)) (SX.upper_S (fmt_low hc))
  have hjoin : joinF (U [32, 124, 32]) st [.lst [.str (U (tailL c)), .str (U (headL c))]] = some (.str (U (tailL c ++ 32 :: 124 :: 32 :: headL c))) := by
    have := join_r (st := st) (a := [32, 124, 32]) (d := .lst (strL [tailL c, headL c])) (l := [tailL c, headL c]) rfl (by simp; omega)
    simpa [TL.joinL] using this
  obtain ⟨p22, q22, e22, r22⟩ := replaceN_U (x := tailL c) (z := [32, 48]) (c := 32) (by simp [tailL])
  have l22 : p22.length + 1 + q22.length ≤ 80 := by
    have := congrArg List.length e22
    simp at this
    omega
  have lim : limitOf (U (tailL c)) 1 = 1 := rfl
  have b22 := bad22 hc e22
  have b21 := bad21 hc
  rw [show headL c ++ 32 :: 124 :: 32 :: (tailL c ++ [44]) = fmt c ++ [44] by rw [fmt_eq (raw_ne hc.1)]; simp] at b21
  have b8 := bad8 hc
  have b9 := bad9 hc
  rw [← repl9 hc] at b9
  have b14 := bad14 hc
  simp [m__law_bad_texts, t__law_bad_texts, el, hsub, sorted_rows nd', e1]
  repeat rw [if_pos (by omega)]
  simp [hup, hjoin]
  repeat rw [if_pos (by omega)]
  simp only [lim, r22, U_length, U_app]
  rw [if_pos (by simp; omega), replace_U (by simp), replace_U (by simp), replace_U (by simp)]
  generalize hX : forGo _ _ _ _ _ = X
  have key : ∃ env' s', X = .nx env' s' ∧ badI TD c ((sortR rs).map rowD) st 22 ([] ++ odd1) env' s' := by
    rw [← hX]
    refine for_inv (g := fun t => D.str (U t)) (l := odd1) (done := []) (badI TD c ((sortR rs).map rowD) st 22) (fun pre x post e hx env s hI => ?_) ⟨rfl, .no, _, rfl, ?_, ?_⟩
    · obtain ⟨rfl, z, ds, rfl, ha, hlen⟩ := hI
      have hb := odd1_bad x hx
      have hpl : pre.length ≤ 20 := by
        have := congrArg List.length e
        simp [odd1] at this
        omega
      refine ⟨badE TD c ((sortR rs).map rowD) (.val (.str (U x))) (ds ++ [.str (U (headL c ++ 32 :: 124 :: 32 :: (45 :: 32 :: (x ++ [32, 45]))))]), s, ?_, rfl, _, _, rfl, allBad_app ha (allBad_cons (bad_tail hc hb.1 (by simp; omega)) allBad_nil), by simp; omega⟩
      simp [badE]
      repeat rw [if_pos (by omega)]
    · refine allBad_cons nil_bad (allBad_cons ⟨by simp, by decide⟩ (allBad_cons ⟨by simp, by decide⟩ (allBad_cons ⟨by simp, by decide⟩ (allBad_cons (bad5 hc) (allBad_cons (bad6 hc) (allBad_cons (bad7 hc) (allBad_cons b8 (allBad_cons b9 (allBad_cons (bad10 hc) (allBad_cons (bad11 hc) ?_))))))))))
      refine allBad_cons (bad12 hc) (allBad_cons (bad13 hc) (allBad_cons b14 (allBad_cons (bad15 hc) (allBad_cons (bad16 hc) (allBad_cons (bad17 hc) (allBad_cons (bad18 hc) (allBad_cons (bad19 hc) (allBad_cons (bad20 hc) (allBad_cons b21 (allBad_cons (by simpa using b22) allBad_nil))))))))))
    · simp
  obtain ⟨env', s2, e9, hs2, z, ds, e3, ha, hlen⟩ := key
  subst e9; subst e3; rw [hs2]
  simp [badE]
  clear hX
  generalize hX : forGo _ _ _ _ _ = X
  have hlen : ds.length ≤ 100 := by simp [odd1] at hlen; omega
  have key : ∃ env' s2, X = .nx env' s2 ∧ badI TD c ((sortR rs).map rowD) st 100 ([] ++ odd2) env' s2 := by
    rw [← hX]
    refine for_inv (g := fun t => D.str (U t)) (l := odd2) (done := []) (badI TD c ((sortR rs).map rowD) st 100) (fun pre x post e hx env s hI => ?_) ⟨rfl, _, _, rfl, ha, by simpa using hlen⟩
    · obtain ⟨rfl, z, ds, rfl, ha, hlen⟩ := hI
      have hb := odd2_bad x hx
      have hpl : pre.length ≤ 20 := by
        have := congrArg List.length e
        simp [odd2] at this
        omega
      refine ⟨badE TD c ((sortR rs).map rowD) (.val (.str (U x))) (ds ++ [.str (U (headL c ++ 32 :: 124 :: 32 :: (x ++ [32, 49, 32, 45]))), .str (U (headL c ++ 32 :: 124 :: 32 :: (45 :: 32 :: 49 :: 32 :: x)))]), s, ?_, rfl, _, _, rfl, allBad_app ha (allBad_cons (bad_tail hc hb.1 (by simp; omega)) (allBad_cons (bad_tail hc hb.2.1 (by simp; omega)) allBad_nil)), by simp; omega⟩
      simp [badE]
      repeat rw [if_pos (by omega)]
  obtain ⟨env', s2, e9, hs2, z, ds, e3, ha, hlen⟩ := key
  subst e9; subst e3; rw [hs2]
  simp [badE]
  clear hX
  generalize hX : forGo _ _ _ _ _ = X
  have hlen : ds.length ≤ 200 := by simp [odd2] at hlen; omega
  have key : ∃ env' s2, X = .nx env' s2 ∧ badI TD c ((sortR rs).map rowD) st 200 ([] ++ odd3) env' s2 := by
    rw [← hX]
    refine for_inv (g := fun t => D.str (U t)) (l := odd3) (done := []) (badI TD c ((sortR rs).map rowD) st 200) (fun pre x post e hx env s hI => ?_) ⟨rfl, _, _, rfl, ha, by simpa using hlen⟩
    · obtain ⟨rfl, z, ds, rfl, ha, hlen⟩ := hI
      have hb := odd3_bad x hx
      have hpl : pre.length ≤ 20 := by
        have := congrArg List.length e
        simp [odd3] at this
        omega
      refine ⟨badE TD c ((sortR rs).map rowD) (.val (.str (U x))) (ds ++ [.str (U (name0 c ++ 32 :: (x ++ 32 :: (97 :: 32 :: 124 :: 32 :: tailL c))))]), s, ?_, rfl, _, _, rfl, allBad_app ha (allBad_cons (bad25 hc hb.2.1 hb.1 (by omega) (by simp; omega)) allBad_nil), by simp; omega⟩
      simp [badE, hR0]
      repeat rw [if_pos (by omega)]
  obtain ⟨env', s2, e9, hs2, z, ds, e3, ha, hlen⟩ := key
  subst e9; subst e3; rw [hs2]
  simp [badE]
  clear hX
  generalize hX : forGo _ _ _ _ _ = X
  have hlen : ds.length ≤ 300 := by simp [odd3] at hlen; omega
  have key : ∃ env' s2, X = .nx env' s2 ∧ badI TD c ((sortR rs).map rowD) st 300 ([] ++ odd4) env' s2 := by
    rw [← hX]
    refine for_inv (g := fun t => D.str (U t)) (l := odd4) (done := []) (badI TD c ((sortR rs).map rowD) st 300) (fun pre x post e hx env s hI => ?_) ⟨rfl, _, _, rfl, ha, by simpa using hlen⟩
    · obtain ⟨rfl, z, ds, rfl, ha, hlen⟩ := hI
      have hb := odd4_bad x hx
      have hpl : pre.length ≤ 20 := by
        have := congrArg List.length e
        simp [odd4] at this
        omega
      refine ⟨badE TD c ((sortR rs).map rowD) (.val (.str (U x))) (ds ++ [.str (U (name0 c ++ 32 :: 45 :: 32 :: (x ++ 32 :: (124 :: 32 :: tailL c)))), .str (U (x ++ 32 :: (45 :: 32 :: 97 :: 32 :: 124 :: 32 :: tailL c)))]), s, ?_, rfl, _, _, rfl, allBad_app ha (allBad_cons (bad26 hc hb.2.1 hb.1 (by omega) (by simp; omega)) (allBad_cons (bad26b hb.2.1 hb.1 (by omega) (by simp; omega)) allBad_nil)), by simp; omega⟩
      simp [badE, hR0]
      repeat rw [if_pos (by omega)]
  obtain ⟨env', s2, e9, hs2, z, ds, e3, ha, hlen⟩ := key
  subst e9; subst e3; rw [hs2]
  have hlen : ds.length ≤ 400 := by simp [odd4] at hlen; omega
  refine ⟨ds ++ [.str (U [98, 32, 45, 32, 97, 32, 47, 32, 97, 32, 45, 32, 97, 32, 124, 32, 45, 32, 48, 32, 45]), .str (U [97, 32, 45, 32, 97, 32, 47, 32, 97, 32, 45, 32, 98, 32, 124, 32, 45, 32, 48, 32, 45]), .str (U [97, 32, 45, 32, 97, 32, 47, 32, 98, 32, 45, 32, 97, 32, 47, 32, 99, 32, 45, 32, 97, 32, 47, 32, 100, 32, 45, 32, 97, 32, 124, 32, 45, 32, 48, 32, 45])], ?_, allBad_app ha (allBad_cons ⟨by simp, by decide⟩ (allBad_cons ⟨by simp, by decide⟩ (allBad_cons ⟨by simp, by decide⟩ allBad_nil))), by simp; omega⟩
  simp [badE, show ds.length ≤ 16777213 by omega]
end
end T78
end
section
set_option Elab.async false
set_option linter.all false
set_option maxRecDepth 100000
set_option maxHeartbeats 2000000
set_option autoImplicit false
/-! the law -/
namespace T78
open PySem PySem.Spec L2 DL MM
section
variable {st : Store}
theorem repr_U {x : Tx} (hx : x.length ≤ 1000) (h : ∀ c ∈ x, c < 1000) : ∃ y, reprF st [.str (U x)] = some (.str y) := by
  refine ⟨reprText (U x), ?_⟩
  show (if (reprText (U x)).length ≤ sizeLine then some (D.str (reprText (U x))) else none) = _
  rw [if_pos]
  have := StrLaws.reprText_len (U x) (fun c hc => by have := h c hc; omega)
  rw [U_length] at this
  rw [sizeL]
  omega
theorem ne_wrong : neD st wrongD (.lst [.str "0", .bl true]) = some (.bl false) := by
  have h1 : pyOf (.lst [.str "0", .bl true]) = some (.list [.str "0", .bool true]) := by simp [pyOf, pyAll]
  have h2 : SeqAt.shaped (.list [.str "0", .bool true]) = true := by decide +kernel
  have h3 : PyData.eqv (.list [.str "0", .bool true]) (.list [.str "0", .bool true]) = true := by decide +kernel
  have e : eqD0 st wrongD (.lst [.str "0", .bl true]) = some (.bl true) := by
    show deepEq st (.lst [.str "0", .bl true]) (.lst [.str "0", .bl true]) = _
    unfold deepEq
    simp only [deref, h1]
    rw [if_pos ⟨h2, h2⟩, h3]
  simp [neD, e, notD]
theorem for_invD {body : D → DEnv → Store → SO} (I : DEnv → Store → Prop) {l : List D} (h : ∀ x ∈ l, ∀ env s, I env s → ∃ env' s', body x env s = .nx env' s' ∧ I env' s') {env : DEnv} {s : Store} (hi : I env s) :
    ∃ env' s', forGo (WD.ok ⟨l, none⟩) body l env s = .nx env' s' ∧ I env' s' := by
  have := for_inv (g := id) (body := body) (l := l) (done := []) (fun _ env s => I env s) (fun pre x post e hx env s hI => h x hx env s hI) hi
  simpa using this
def lawE (ns : List Int) (z1 z2 z3 z4 z5 z6 z7 z8 z9 z10 z11 : Slot) : DEnv := [.val (.scr ns), z1, z2, z3, z4, z5, z6, z7, z8, z9, z10, z11, .no]
theorem min_ii {a b : Int} : minF st [.int a, .int b] = some (.int (if b < a then b else a)) := rfl
theorem told_ok {parts : List Tx} {rs : List Rw} {v : List Tx} {n : Nat} {s : Option (List Tx)} (h1 : 1 ≤ parts.length) (h3 : parts.length ≤ 3) (pn : parts.Nodup) (pw : ∀ t ∈ parts, wordB t = true) (hr : rs.map (·.1) = parts) (hb : ∀ r ∈ rs, rowB r = true) (kv : keysOk 4 v = true) (ks : ∀ l, s = some l → keysOk 4 l = true) (hn : n ≤ 4) :
    rawOk (mkCon rs v n s) = true ∧ RNd (mkCon rs v n s) := by
  have hl : rs.length = parts.length := by rw [← hr, List.length_map]
  have k2 : keysOk 4 (s.getD v) = true := by
    cases s with
    | none => exact kv
    | some l => exact ks l rfl
  refine ⟨?_, by show (rs.map (·.1)).Nodup; rw [hr]; exact pn⟩
  simp only [rawOk, mkCon, Bool.and_eq_true, List.all_eq_true]
  refine ⟨decide_eq_true (by show 1 ≤ rs.length; omega), decide_eq_true (by show rs.length ≤ 3; omega), fun r hr2 => ?_, kv, decide_eq_true hn, k2⟩
  have hw : wordB r.1 = true := pw _ (by rw [← hr]; exact List.mem_map.mpr ⟨r, hr2, rfl⟩)
  have := hb r hr2
  simp only [rowB, Bool.and_eq_true] at this
  exact ⟨hw, this⟩
theorem fmt_small {c : Con} (h : canon c) : ∀ x ∈ fmt c, x < 1000 := fun x hx => by
  rcases mem_join hx with hx | ⟨t, ht, hx⟩
  · simp at hx; omega
  · have := toks_pl h.1 t ht x hx; omega
theorem w_web : Str.ofString "web" = U [119, 101, 98] := by decide +kernel
theorem w_app : Str.ofString "app" = U [97, 112, 112] := by decide +kernel
theorem w_a : Str.ofString "a" = U [97] := by decide +kernel
theorem w_b : Str.ofString "b" = U [98] := by decide +kernel
theorem w_c : Str.ofString "c" = U [99] := by decide +kernel
theorem w_v : Str.ofString "v" = U [118] := by decide +kernel
theorem w_l1 : Str.ofString "app a,b a / web c c | v 1 v" = U [97, 112, 112, 32, 97, 44, 98, 32, 97, 32, 47, 32, 119, 101, 98, 32, 99, 32, 99, 32, 124, 32, 118, 32, 49, 32, 118] := by decide +kernel
theorem w_l2 : Str.ofString "a - b | - 0 -" = U [97, 32, 45, 32, 98, 32, 124, 32, 45, 32, 48, 32, 45] := by decide +kernel
def rsA : List Rw := [([119, 101, 98], [[99]], [99]), ([97, 112, 112], [[98], [97]], [97])]
def rsB : List Rw := [([97], [], [98])]
def cA : Con := ⟨[([97, 112, 112], [[97], [98]], [97]), ([119, 101, 98], [[99]], [99])], [[118]], 1, [[118]]⟩
def cB : Con := ⟨[([97], [], [98])], [], 0, []⟩
theorem sortL_two (a b : Tx) : sortL [a, b] = if b < a then [b, a] else [a, b] := by
  unfold sortL
  by_cases h : b < a <;> simp [List.mergeSort, List.merge, h]
theorem sorted_A : (mkCon rsA [[118]] 1 none).sorted = cA := by
  have e : sortR rsA = [([97, 112, 112], [[98], [97]], [97]), ([119, 101, 98], [[99]], [99])] := by
    unfold sortR rsA
    simp [List.mergeSort, List.merge, rowLe]
    decide
  have e1 : sortL [[98], [97]] = [[97], [98]] := by rw [sortL_two, if_pos (by decide)]
  have e2 : ∀ t : Tx, sortL [t] = [t] := fun t => by simp [sortL]
  simp [Con.sorted, mkCon, e, e1, e2, cA]
theorem sorted_B : (mkCon rsB [] 0 none).sorted = cB := by
  simp [Con.sorted, mkCon, rsB, sortR, sortL, cB]
theorem q_plain (st : Store) : m_Contents_2 [.dct [(.inr (U [119, 101, 98]), .tup [.lst [.str (U [99])], .str (U [99])]), (.inr (U [97, 112, 112]), .tup [.lst [.str (U [98]), .str (U [97])], .str (U [97])])], .lst [.str (U [118])]] st = .ok (conObj cA) st := by
  have h := q_init rsA [[118]] 1 none (raw_in (by decide) (by unfold RNd; decide)) (by decide) st
  rw [sorted_A] at h
  exact h
theorem q_plain2 (st : Store) : m_Contents_needed_2 [.dct [(.inr (U [97]), .tup [.lst [], .str (U [98])])], .lst [], .int 0] st = .ok (conObj cB) st := by
  have h := q_init rsB [] 0 none (raw_in (by decide) (by unfold RNd; decide)) (by decide) st
  rw [sorted_B] at h
  exact h
theorem q_law (ns : List Int) : ∃ st, m_law [.scr ns] [] = .ok (.bl true) st := by
  have hN : ∃ N : Nat, N ≤ 8 ∧ maxF [] [.int 1, .int (if (ns.length : Int) < 8 then (ns.length : Int) else 8)] = some (.int (N : Int)) := by
    refine ⟨max 1 (min 8 ns.length), by omega, ?_⟩
    rw [max_ii]
    refine congrArg (fun z => some (D.int z)) ?_
    split <;> split <;> omega
  obtain ⟨N, hN8, hN⟩ := hN
  simp [m_law, t_law, min_ii, hN]
  rw [rg1_n (by omega)]
  simp
  generalize hX : forGo _ _ _ _ _ = X
  have key : ∃ env' s', X = .nx env' s' ∧ ∃ z1 z2 z3 z4 z5 z6 z7 z8 z9 z10 z11, env' = lawE ns z1 z2 z3 z4 z5 z6 z7 z8 z9 z10 z11 := by
    rw [← hX]
    refine for_rng (g := fun (j : Nat) => D.int (j : Int)) (fun _ env _ => ∃ z1 z2 z3 z4 z5 z6 z7 z8 z9 z10 z11, env = lawE ns z1 z2 z3 z4 z5 z6 z7 z8 z9 z10 z11) (fun k hk env s hI => ?_) ⟨_, _, _, _, _, _, _, _, _, _, _, rfl⟩
    obtain ⟨z1, z2, z3, z4, z5, z6, z7, z8, z9, z10, z11, rfl⟩ := hI
    obtain ⟨s1, e1, v1⟩ := q_stream ns k (by omega) s
    generalize s.length = j at *
    obtain ⟨r, s2, e2, hr, v2⟩ := q_draw 3 (by omega) (by omega) v1
    obtain ⟨parts, s3, e3, v3, lp, np, wp⟩ := q_words (1 + r) (by omega) v2
    obtain ⟨keys, s4, e4, v4, lk, nk, wk⟩ := q_words 8 (by omega) v3
    obtain ⟨hands, s5, e5, v5, lh, nh, wh⟩ := q_words 4 (by omega) v4
    obtain ⟨rs, v, n0, sg, s6, e6, v6, r1, r2, r3, r4⟩ := q_told parts keys hands (by omega) (by omega) (by omega) nk (fun t ht => (wk t ht).1) nh (fun t ht => (wh t ht).1) v5
    obtain ⟨n, s7, e7, hn, v7⟩ := q_draw 5 (by omega) (by omega) v6
    obtain ⟨ok, nd⟩ := told_ok (n := n) (s := sg) (by omega) (by omega) np (fun t ht => (wp t ht).1) r1 r2 r3 r4 (by omega)
    have hc := canon_sorted ok nd
    have c1 := fun st => q_law_contents rs v n sg ok nd st
    have c2 := fun st => q_law_line rs v n sg ok nd st
    have c3 := fun st => q_format_contents _ hc.1 (canon_nd hc) st
    have c4 := fun st => q_parse_fmt hc st
    have c5 := fun st => q_eq _ hc.1 (canon_nd hc) st
    obtain ⟨ds, c6, hds, lds⟩ := q_bad_texts rs v n sg ok nd s7
    obtain ⟨y, c7⟩ := repr_U (st := s7) (x := fmt (mkCon rs v n sg).sorted) (by have := fmt_len hc.1; omega) (fmt_small hc)
    have t0 : toldD rs v n0 sg = .tup [.lst (rs.map rowD), .lst (strL v), .int n0, optL sg] := rfl
    have t1 : D.tup [.lst (rs.map rowD), .lst (strL v), .int n, optL sg] = toldD rs v n sg := rfl
    simp at e2 e3 e4 e5 e6 e7
    simp [lawE, e1, e2, e3, e4, e5, e6, t0, e7, t1, c1, c3, c2, c7, c4, c5, c6]
    clear e1 e2 e3 e4 e5 e6 t0 t1 c1 c2 c3 c4 c5 c6 c7
    generalize hY : forGo _ _ _ _ _ = Y
    have key : ∃ env' s', Y = .nx env' s' ∧ ∃ z, env' = [Slot.val (D.scr ns), Slot.val (D.int ↑k), Slot.val (D.cell j), Slot.val (D.lst (strL parts)),
                Slot.val (D.lst (strL keys)), Slot.val (D.lst (strL hands)), Slot.val (toldD rs v n sg),
                Slot.val (conObj (mkCon rs v n sg).sorted), Slot.val (D.str (U (fmt (mkCon rs v n sg).sorted))),
                Slot.val (conObj (mkCon rs v n sg).sorted), z, z11, Slot.no] := by
      rw [← hY]
      refine for_invD (fun env _ => ∃ z, env = [Slot.val (D.scr ns), Slot.val (D.int ↑k), Slot.val (D.cell j), Slot.val (D.lst (strL parts)),
                Slot.val (D.lst (strL keys)), Slot.val (D.lst (strL hands)), Slot.val (toldD rs v n sg),
                Slot.val (conObj (mkCon rs v n sg).sorted), Slot.val (D.str (U (fmt (mkCon rs v n sg).sorted))),
                Slot.val (conObj (mkCon rs v n sg).sorted), z, z11, Slot.no]) (fun d hd env s hI => ?_) ⟨_, rfl⟩
      obtain ⟨z, rfl⟩ := hI
      obtain ⟨x, rfl, hx⟩ := hds d hd
      refine ⟨_, s, ?_, .val (.str (U x)), rfl⟩
      simp [q_wrong hx.1 hx.2, ne_wrong]
    obtain ⟨env', s', rfl, z, rfl⟩ := key
    simp
    clear hY
    generalize hY : forGo _ _ _ _ _ = Y
    have key : ∃ env' s', Y = .nx env' s' ∧ ∃ z11, env' = [Slot.val (D.scr ns), Slot.val (D.int ↑k), Slot.val (D.cell j), Slot.val (D.lst (strL parts)),
                Slot.val (D.lst (strL keys)), Slot.val (D.lst (strL hands)), Slot.val (toldD rs v n sg),
                Slot.val (conObj (mkCon rs v n sg).sorted), Slot.val (D.str (U (fmt (mkCon rs v n sg).sorted))),
                Slot.val (conObj (mkCon rs v n sg).sorted), z, z11, Slot.no] := by
      rw [← hY]
      refine for_invD (fun env _ => ∃ z11, env = [Slot.val (D.scr ns), Slot.val (D.int ↑k), Slot.val (D.cell j), Slot.val (D.lst (strL parts)),
                Slot.val (D.lst (strL keys)), Slot.val (D.lst (strL hands)), Slot.val (toldD rs v n sg),
                Slot.val (conObj (mkCon rs v n sg).sorted), Slot.val (D.str (U (fmt (mkCon rs v n sg).sorted))),
                Slot.val (conObj (mkCon rs v n sg).sorted), z, z11, Slot.no]) (fun d hd env s hI => ?_) ⟨_, rfl⟩
      obtain ⟨z11, rfl⟩ := hI
      have hns : isinstF Zs s [d, .ty "str"] = some (.bl false) := by
        simp only [List.mem_cons, List.not_mem_nil, or_false] at hd
        rcases hd with rfl | rfl | rfl | rfl | rfl | rfl | rfl
        · exact i_non_str
        · exact i_int_str
        · exact i_bl_str
        · exact i_lst_str
        · exact i_tup_str
        · exact i_dct_str
        · exact i_con_str
      refine ⟨_, s, ?_, .val d, rfl⟩
      simp [q_wrong_other hns, ne_wrong]
    obtain ⟨env', s', rfl, z, rfl⟩ := key
    simp
  obtain ⟨env', s', rfl, z1, z2, z3, z4, z5, z6, z7, z8, z9, z10, z11, rfl⟩ := key
  simp [lawE]
  clear hX
  have m1 : mergeD [] [((.inr (U [119, 101, 98]) : Key), D.tup [.lst [.str (U [99])], .str (U [99])]), (.inr (U [97, 112, 112]), .tup [.lst [.str (U [98]), .str (U [97])], .str (U [97])])] = [(.inr (U [119, 101, 98]), .tup [.lst [.str (U [99])], .str (U [99])]), (.inr (U [97, 112, 112]), .tup [.lst [.str (U [98]), .str (U [97])], .str (U [97])])] := merge_nil (by simp)
  have m2 : mergeD [] [((.inr (U [97]) : Key), D.tup [.lst [], .str (U [98])])] = [(.inr (U [97]), .tup [.lst [], .str (U [98])])] := merge_nil (by simp)
  have f1 := fun st => q_format_contents cA (by decide) (by unfold RNd; decide) st
  have f2 := fun st => q_format_contents cB (by decide) (by unfold RNd; decide) st
  have g1 : fmt cA = [97, 112, 112, 32, 97, 44, 98, 32, 97, 32, 47, 32, 119, 101, 98, 32, 99, 32, 99, 32, 124, 32, 118, 32, 49, 32, 118] := by decide +kernel
  have g2 : fmt cB = [97, 32, 45, 32, 98, 32, 124, 32, 45, 32, 48, 32, 45] := by decide +kernel
  rw [g1] at f1
  rw [g2] at f2
  simp [w_web, w_app, w_a, w_b, w_c, w_v, w_l1, w_l2, m1, m2, q_plain, q_plain2, f1, f2]
end
end T78
end
theorem PySem.Challenge.cw_gaplesskeys_k78_texts_of_contents_holds : PySem.Challenge.rw_gaplesskeys_k78_texts_of_contents.Holds := by
  exact T78.holds fun ns _ _ => T78.q_law ns
