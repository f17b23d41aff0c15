import PyProof.Rows.All
import Wide.All
import OpenK.AllK
import Wide.FinOn
import HandS.ForMost
import HandS.ForExc
import HandS.Wide
import HandS.IsInst
import HandS.Defaults
import HandS.TupAny
import HandS.TupLe
import HandS.Lambda
import HandS.Conv
import HandS.CallSlots
import HandS.Style
import HandS.Zip
import HandS.Iter
import HandS.Head0
import HandS.Head1
import HandS.Head2
import HandS.HeadEnd
import HandS.HeadHook1
import HandS.HeadHook2
import HandS.HeadHook3
import HandS.HeadHook4
import HandS.TupLen
import HandS.Dict
import HandS.DictComp
import HandS.MakeKw
import HandS.MakeKwOnly
import KE.KDictPairs
import HandS.SlotsOwn
import KE.KEqDict
import HandS.TupSets
import HandS.FStr
import KE.GoesMore
import PyProof.Rows.Range3
import HandS.Codes
import KE.SortKeyHeap
import HandS.HeadWalk
import HandS.NestedK
import KE.KExcSuper
import HandS.ExcInit
import HandS.ExcField
import HandS.ExcIs
import HandS.HotCalls
import HandS.Nested
import KE.DataMinMax
import PySem.Challenge.RW_inkfractions_k02_edges_turned
set_option Elab.async false
set_option linter.all false
set_option Elab.async false
set_option maxRecDepth 100000
set_option maxHeartbeats 2000000
/-! DL: data as trees over the hand layer. R: a value of the abstract heap stands for a tree; mutable objects are cells of a store, named by loc. -/
namespace DL
open PySem PySem.Spec PyProof.Rows L2
/-- a function that a lambda has made: cl its cells, c its code object -/
structure LF where
  qual : Str
  params : Arguments
  body : Expr
  scope : Scope
  cl : List (Str × Addr)
  c : Addr
abbrev LF.fd (F : LF) (dV pm ctv : Value) : FuncData :=
  { name := "<lambda>", qualname := F.qual, params := F.params, body := .expr F.body, scope := F.scope, globals := mainGlobals, closure := F.cl, defaults := dV, kwdefaults := .none, doc := .none, pyModule := pm, annotations := none, code := .ref F.c, closureTuple := ctv, builtins := builtinsNs }
inductive D where
  | non | bl (b : Bool) | int (i : Int) | str (s : Str) | ty (n : String) | cst (a : Addr) | loc (i : Nat) | scr (ns : List Int)
  | lst (ds : List D) | tup (ds : List D) | ktp (ds : List D) | dk (es : List (Key × D)) | dt (es : List (List Key × D)) | obj (C : Addr) (fs : List (Str × D)) | tb (P : Addr) (q : Str)
  | exn (C : Addr) (fs : List (Str × D)) | fn (F : LF) (nd : Nat) (ws : List D)
abbrev Sto := List D
abbrev Loc := List (Option D)
def keyD : Key → D
  | .inl i => .int i
  | .inr s => .str s
/-- a list of the written part -/
def SqLK (K : PySem.W.Frag) (a : Addr) (xs : List V) : Prop :=
  ∃ (o : Obj) (its : Array Value) (n : Nat), K.lookup a = some o ∧ o.cls = .type "list" ∧ o.dict = none ∧ o.data = .seq its n ∧ its.size ≤ sizeLine ∧ Vals xs its.toList
/-- a tuple of the written part -/
def SqTK (K : PySem.W.Frag) (a : Addr) (xs : List V) : Prop :=
  ∃ (o : Obj) (its : Array Value) (n : Nat), K.lookup a = some o ∧ o.cls = .type "tuple" ∧ o.data = .seq its n ∧ its.size ≤ sizeLine ∧ Vals xs its.toList
/-- an exception's object: its class, its dict -/
def exh (e C dx : Addr) : HO := .ext fun h => ∃ (o : Obj) (vs : Array Value), h.get? e = some o ∧ o.cls = .ref C ∧ o.dict = some dx ∧ o.data = .fields vs
/-- the function F at f, dV its defaults -/
def FnD (f : Addr) (F : LF) (dV : Value) : HO := .ext fun h => ∃ pm ctv : Value, h.get? f = some ({ cls := .type "function", data := .func (F.fd dV pm ctv) } : Obj)
/-- its defaults: nd of them -/
def DflN (H : Hp) (dV : Value) (nd : Nat) : Prop := (nd = 0 ∧ dV = .none) ∨ ∃ (T : Addr) (vs : List V), dV = .ref T ∧ H T = some (.tup vs) ∧ vs.length = nd
/-- a cell that stays as it is -/
def exC (o : Obj) : HO := .frz o (.own 0)
/-- what the first captured cells hold -/
def ClV (M : Addr → Prop) (H : Hp) (cl : List (Str × Addr)) (vals : List V) : Prop := ∀ (i : Nat) v, vals[i]? = some v → ∃ y c o u, cl[i]? = some (y, c) ∧ ¬ M c ∧ H c = some (exC o) ∧ o.data = .cell (some u) ∧ RelV v u
section
variable (K : PySem.W.Frag) (M : Addr → Prop) (mu : List Addr) (H : Hp)
mutual
def R : D → V → Prop
  | .non, v => v = .non
  | .bl b, v => v = .bl b
  | .int i, v => v = .int i
  | .str s, v => v = .str s
  | .ty n, v => v = .ty n
  | .cst a, v => v = .ref a
  | .loc i, v => ∃ a, v = .ref a ∧ mu[i]? = some a
  | .scr ns, v => ∃ a, v = .ref a ∧ ((¬ M a ∧ L2.Rd H a (.lst (ns.map V.int))) ∨ SqLK K a (ns.map V.int))
  | .lst ds, v => ∃ a vs, v = .ref a ∧ ¬ M a ∧ H a = some (.lst vs) ∧ Rs ds vs
  | .tup ds, v => ∃ a vs, v = .ref a ∧ H a = some (.tup vs) ∧ Rs ds vs
  | .ktp ds, v => ∃ a vs, v = .ref a ∧ SqTK K a vs ∧ Rs ds vs
  | .dk kvs, v => ∃ a od es, v = .ref a ∧ H a = some (.frz od (.dK es)) ∧ es.map (·.1) = kvs.map (·.1) ∧ Rk kvs (es.map (·.2))
  | .dt kvs, v => ∃ a od es, v = .ref a ∧ H a = some (.frz od (.dT es)) ∧ es.map (·.1) = kvs.map (·.1) ∧ Rt kvs (es.map (·.2))
  | .obj C fs, v => ∃ a dx gs, v = .ref a ∧ ¬ M a ∧ H a = some (.ins C dx gs) ∧ gs.map (·.1) = fs.map (·.1) ∧ Rfs fs (gs.map (·.2))
  | .tb _ _, _ => False
  | .exn C fs, v => ∃ a dx gs, v = .ref a ∧ ¬ M a ∧ H a = some (exh a C dx) ∧ ¬ M dx ∧ H dx = some (.xd gs) ∧ gs.map (·.1) = fs.map (·.1) ∧ Rfs fs (gs.map (·.2))
  | .fn F nd ws, v => ∃ f dV vals, v = .ref f ∧ ¬ M f ∧ H f = some (FnD f F dV) ∧ ¬ M F.c ∧ H F.c = some (LamX.CodeO F.c F.qual) ∧ DflN H dV nd ∧ ClV M H F.cl vals ∧ Rs ws vals
def Rs : List D → List V → Prop
  | [], vs => vs = []
  | d :: ds, vs => ∃ v r, vs = v :: r ∧ R d v ∧ Rs ds r
def Rk : List (Key × D) → List V → Prop
  | [], vs => vs = []
  | (_, d) :: ds, vs => ∃ v r, vs = v :: r ∧ R d v ∧ Rk ds r
def Rt : List (List Key × D) → List V → Prop
  | [], vs => vs = []
  | (_, d) :: ds, vs => ∃ v r, vs = v :: r ∧ R d v ∧ Rt ds r
def Rfs : List (Str × D) → List V → Prop
  | [], vs => vs = []
  | (_, d) :: ds, vs => ∃ v r, vs = v :: r ∧ R d v ∧ Rfs ds r
end
/-- the table of code objects at P: each that it tells bears the name q, and is no cell -/
def TabM (P : Addr) (q : Str) : Prop := ∃ ps : Array Value, H P = some (.tbl ps) ∧ TriplesOk ps.toList ∧ ∀ (pos : Pos) (cv : Value), codeAmong pos ps.toList = some cv → ∃ c, cv = .ref c ∧ ¬ M c ∧ H c = some (LamX.CodeO c q)
/-- what stands at a cell's address -/
def Cl : D → Addr → Prop
  | .lst ds, a => ∃ vs, H a = some (.lst vs) ∧ Rs K M mu H ds vs
  | .dk kvs, a => ∃ es, H a = some (.dK es) ∧ es.map (·.1) = kvs.map (·.1) ∧ Rk K M mu H kvs (es.map (·.2))
  | .dt kvs, a => ∃ es, H a = some (.dT es) ∧ es.map (·.1) = kvs.map (·.1) ∧ Rt K M mu H kvs (es.map (·.2))
  | .obj C fs, a => ∃ dx gs, H a = some (.ins C dx gs) ∧ gs.map (·.1) = fs.map (·.1) ∧ Rfs K M mu H fs (gs.map (·.2))
  | .tb P q, a => a = P ∧ TabM M H P q
  | .non, _ => True
  | _, _ => False
structure Wok (S : Sto) : Prop where
  len : S.length = mu.length
  sub : ∀ a ∈ mu, M a
  nd : mu.Nodup
  tr : ∀ a, M a → H a ≠ none
  at_ : ∀ (i : Nat) a d, mu[i]? = some a → S[i]? = some d → Cl K M mu H d a
structure Env (ρ : Loc) (σ : L2.St) : Prop where
  len : ρ.length = σ.length
  get : ∀ (i : Nat) d, ρ[i]? = some (some d) → ∃ v, σ[i]? = some (some v) ∧ R K M mu H d v
end
/-- frozen, or a tuple: it stays for good -/
def isF (o : HO) : Prop := (∃ od u, o = .frz od u) ∨ ∃ xs, o = .tup xs
theorem isF_tup {xs : List V} : isF (.tup xs) := .inr ⟨xs, rfl⟩
theorem isF_frz {od : Obj} {u : HO} : isF (.frz od u) := .inl ⟨od, u, rfl⟩
/-- all but the cells is kept, and what is frozen -/
def Keep (mu : List Addr) (H H' : Hp) : Prop := ∀ b o, H b = some o → (b ∉ mu ∨ isF o) → H' b = some o
theorem Keep.refl (mu : List Addr) (H : Hp) : Keep mu H H := fun _ _ h _ => h
theorem Keep.trans {mu : List Addr} {H H1 H2 : Hp} (a : Keep mu H H1) (b : Keep mu H1 H2) : Keep mu H H2 := fun c o h n => b c o (a c o h n) n
theorem Keep.same {mu : List Addr} {H H1 : Hp} (a : Same H H1) : Keep mu H H1 := fun c o h _ => a c o h
/-- what trees lean on -/
structure Ext0 (M : Addr → Prop) (mu : List Addr) (H : Hp) (M' : Addr → Prop) (mu' : List Addr) (H' : Hp) : Prop where
  keepM : ∀ b o, H b = some o → (¬ M b ∨ isF o) → H' b = some o
  pre : ∃ l, mu' = mu ++ l
  dn : ∀ a, M' a → M a ∨ H a = none
/-- the world has grown -/
structure Ext (M : Addr → Prop) (mu : List Addr) (H : Hp) (M' : Addr → Prop) (mu' : List Addr) (H' : Hp) : Prop extends Ext0 M mu H M' mu' H' where
  keep : Keep mu H H'
  new : ∀ a ∈ mu', a ∈ mu ∨ H a = none
  up : ∀ a, M a → M' a
  sub : ∀ a ∈ mu, M a
theorem Ext.of {M : Addr → Prop} {mu : List Addr} {H H' : Hp} (s : ∀ a ∈ mu, M a) (k : Keep mu H H') : Ext M mu H M mu H' := ⟨⟨fun b o h n => k b o h (n.imp (fun n z => n (s b z)) id), ⟨[], by simp⟩, fun _ h => .inl h⟩, k, fun _ h => .inl h, fun _ h => h, s⟩
theorem Ext.refl {M : Addr → Prop} {mu : List Addr} {H : Hp} (s : ∀ a ∈ mu, M a) : Ext M mu H M mu H := .of s (.refl _ _)
theorem Ext.back {M M' : Addr → Prop} {mu mu' : List Addr} {H H' : Hp} (e : Ext M mu H M' mu' H') {a : Addr} (h : H' a = none) (n : a ∉ mu) : H a = none := by
  cases q : H a with
  | none => rfl
  | some o => rw [e.keep a o q (.inl n)] at h; cases h
theorem Ext.trans {M M1 M2 : Addr → Prop} {mu mu1 mu2 : List Addr} {H H1 H2 : Hp} (a : Ext M mu H M1 mu1 H1) (b : Ext M1 mu1 H1 M2 mu2 H2) : Ext M mu H M2 mu2 H2 := by
  have kp : Keep mu H H2 := fun c o h n => b.keep c o (a.keep c o h n) (n.imp (fun n z => by
    rcases a.new c z with q | q
    · exact n q
    · rw [h] at q; cases q) id)
  refine ⟨⟨fun c o h n => kp c o h (n.imp (fun n z => n (a.sub c z)) id), ?_, fun c h => ?_⟩, kp, fun c hc => ?_, fun c h => b.up c (a.up c h), a.sub⟩
  · obtain ⟨l, rfl⟩ := a.pre
    obtain ⟨l', rfl⟩ := b.pre
    exact ⟨l ++ l', by rw [List.append_assoc]⟩
  · rcases b.dn c h with q | q
    · exact a.dn c q
    · by_cases n : c ∈ mu
      · exact .inl (a.sub c n)
      · exact .inr (a.back q n)
  · rcases b.new c hc with q | q
    · exact a.new c q
    · by_cases n : c ∈ mu
      · exact .inl n
      · exact .inr (a.back q n)
section
variable {K : PySem.W.Frag} {M M' : Addr → Prop} {mu mu' : List Addr} {H H' : Hp}
theorem Ext0.okM (e : Ext0 M mu H M' mu' H') {a : Addr} {o : HO} (n : ¬ M a) (h : H a = some o) : ¬ M' a ∧ H' a = some o :=
  ⟨fun z => (e.dn a z).elim n fun q => (by rw [h] at q; cases q), e.keepM a o h (.inl n)⟩
theorem Ext0.at_ (e : Ext0 M mu H M' mu' H') {i : Nat} {a : Addr} (h : mu[i]? = some a) : mu'[i]? = some a := by
  obtain ⟨l, rfl⟩ := e.pre
  rw [List.getElem?_append_left (List.getElem?_eq_some_iff.mp h).1]
  exact h
theorem DflN.mono (e : Ext0 M mu H M' mu' H') {dV : Value} {nd : Nat} (h : DflN H dV nd) : DflN H' dV nd := h.imp id fun ⟨T, vs, h1, h2, h3⟩ => ⟨T, vs, h1, e.keepM T _ h2 (.inr isF_tup), h3⟩
theorem ClV.mono (e : Ext0 M mu H M' mu' H') {cl : List (Str × Addr)} {vals : List V} (h : ClV M H cl vals) : ClV M' H' cl vals := fun i v hv =>
  let ⟨y, c, o, u, h1, n, h2, h3, h4⟩ := h i v hv
  ⟨y, c, o, u, h1, (e.okM n h2).1, (e.okM n h2).2, h3, h4⟩
mutual
theorem R.mono (e : Ext0 M mu H M' mu' H') : ∀ (d : D) (v : V), R K M mu H d v → R K M' mu' H' d v
  | .non, v, h => h
  | .bl b, v, h => h
  | .int i, v, h => h
  | .str s, v, h => h
  | .ty n, v, h => h
  | .cst a, v, h => h
  | .loc i, v, ⟨a, h1, h2⟩ => ⟨a, h1, e.at_ h2⟩
  | .scr ns, v, ⟨a, h1, h2⟩ => ⟨a, h1, h2.imp (fun ⟨m, q⟩ => q.elim (fun q => ⟨(e.okM m q).1, .inl (e.okM m q).2⟩) (fun ⟨o, q⟩ => ⟨(e.okM m q).1, .inr ⟨o, (e.okM m q).2⟩⟩)) id⟩
  | .lst ds, v, ⟨a, vs, h1, h2, h3, h4⟩ => ⟨a, vs, h1, (e.okM h2 h3).1, (e.okM h2 h3).2, Rs.mono e ds vs h4⟩
  | .tup ds, v, ⟨a, vs, h1, h2, h4⟩ => ⟨a, vs, h1, e.keepM a _ h2 (.inr isF_tup), Rs.mono e ds vs h4⟩
  | .ktp ds, v, ⟨a, vs, h1, h2, h4⟩ => ⟨a, vs, h1, h2, Rs.mono e ds vs h4⟩
  | .dk kvs, v, ⟨a, od, es, h1, h3, h4, h5⟩ => ⟨a, od, es, h1, e.keepM a _ h3 (.inr isF_frz), h4, Rk.mono e kvs _ h5⟩
  | .dt kvs, v, ⟨a, od, es, h1, h3, h4, h5⟩ => ⟨a, od, es, h1, e.keepM a _ h3 (.inr isF_frz), h4, Rt.mono e kvs _ h5⟩
  | .obj C fs, v, ⟨a, dx, gs, h1, h2, h3, h4, h5⟩ => ⟨a, dx, gs, h1, (e.okM h2 h3).1, (e.okM h2 h3).2, h4, Rfs.mono e fs _ h5⟩
  | .tb _ _, _, h => h
  | .exn C fs, v, ⟨a, dx, gs, h1, h2, h3, h4, h5, h6, h7⟩ => ⟨a, dx, gs, h1, (e.okM h2 h3).1, (e.okM h2 h3).2, (e.okM h4 h5).1, (e.okM h4 h5).2, h6, Rfs.mono e fs _ h7⟩
  | .fn F nd ws, v, ⟨f, dV, vals, h1, h2, h3, h4, h5, h6, h7, h8⟩ => ⟨f, dV, vals, h1, (e.okM h2 h3).1, (e.okM h2 h3).2, (e.okM h4 h5).1, (e.okM h4 h5).2, h6.mono e, h7.mono e, Rs.mono e ws vals h8⟩
theorem Rs.mono (e : Ext0 M mu H M' mu' H') : ∀ (ds : List D) (vs : List V), Rs K M mu H ds vs → Rs K M' mu' H' ds vs
  | [], vs, h => h
  | d :: ds, vs, ⟨v, r, h1, h2, h3⟩ => ⟨v, r, h1, R.mono e d v h2, Rs.mono e ds r h3⟩
theorem Rk.mono (e : Ext0 M mu H M' mu' H') : ∀ (ds : List (Key × D)) (vs : List V), Rk K M mu H ds vs → Rk K M' mu' H' ds vs
  | [], vs, h => h
  | (_, d) :: ds, vs, ⟨v, r, h1, h2, h3⟩ => ⟨v, r, h1, R.mono e d v h2, Rk.mono e ds r h3⟩
theorem Rt.mono (e : Ext0 M mu H M' mu' H') : ∀ (ds : List (List Key × D)) (vs : List V), Rt K M mu H ds vs → Rt K M' mu' H' ds vs
  | [], vs, h => h
  | (_, d) :: ds, vs, ⟨v, r, h1, h2, h3⟩ => ⟨v, r, h1, R.mono e d v h2, Rt.mono e ds r h3⟩
theorem Rfs.mono (e : Ext0 M mu H M' mu' H') : ∀ (ds : List (Str × D)) (vs : List V), Rfs K M mu H ds vs → Rfs K M' mu' H' ds vs
  | [], vs, h => h
  | (_, d) :: ds, vs, ⟨v, r, h1, h2, h3⟩ => ⟨v, r, h1, R.mono e d v h2, Rfs.mono e ds r h3⟩
end
theorem TabM.mono (e : Ext0 M mu H M' mu' H') {P : Addr} {q : Str} (hq : H' P = H P) (t : TabM M H P q) : TabM M' H' P q := by
  obtain ⟨ps, h1, h2, h3⟩ := t
  refine ⟨ps, hq.trans h1, h2, fun pos cv hc => ?_⟩
  obtain ⟨c, e1, n, e2⟩ := h3 pos cv hc
  exact ⟨c, e1, (e.okM n e2).1, (e.okM n e2).2⟩
theorem Env.mono (e : Ext0 M mu H M' mu' H') {ρ : Loc} {σ : L2.St} (h : Env K M mu H ρ σ) : Env K M' mu' H' ρ σ := ⟨h.len, fun i d q => by
  obtain ⟨v, h1, h2⟩ := h.get i d q
  exact ⟨v, h1, R.mono e d v h2⟩⟩
end
end DL
set_option maxRecDepth 100000
set_option maxHeartbeats 2000000
namespace DL
open PySem PySem.Spec PyProof.Rows L2
abbrev Ex := Addr → List (Str × D) → Sto → Prop
abbrev DK := D → Sto → Prop
abbrev DW := Loc → Sto → DK → Ex → Prop
abbrev DWA := Loc → Sto → (List D → Sto → Prop) → Ex → Prop
abbrev DWT := Loc → Sto → (Bool → Sto → Prop) → Ex → Prop
section
variable (K : PySem.W.Frag) (M : Addr → Prop) (mu : List Addr) (H : Hp)
/-- an exception as a tree: its class, its fields -/
def XR (C : Value) (d : Option Addr) (c : Addr) (fs : List (Str × D)) : Prop :=
  C = .ref c ∧ ∃ a gs, d = some a ∧ ¬ M a ∧ H a = some (.xd gs) ∧ gs.map (·.1) = fs.map (·.1) ∧ Rfs K M mu H fs (gs.map (·.2))
def Nrm (P : DK) (Q : VK) : Prop := ∀ v H' d S', Keep mu H H' → Wok K M mu H' S' → R K M mu H' d v → P d S' → Q v H'
def NrmA (P : List D → Sto → Prop) (Q : List V → Hp → Prop) : Prop := ∀ v H' d S', Keep mu H H' → Wok K M mu H' S' → Rs K M mu H' d v → P d S' → Q v H'
def NrmT (P : Bool → Sto → Prop) (Q : Bool → Hp → Prop) : Prop := ∀ b H' S', Keep mu H H' → Wok K M mu H' S' → P b S' → Q b H'
def Exc (E : Ex) (W : Value → Option Addr → Hp → Prop) : Prop := ∀ C d H' c fs S', Keep mu H H' → Wok K M mu H' S' → XR K M mu H' C d c fs → E c fs S' → W C d H'
end
structure Rd (K : PySem.W.Frag) (W : WX) (t : TE) (w : DW) : Prop where
  run : ∀ (M : Addr → Prop) (mu : List Addr) (σ : L2.St) (ρ : Loc) (S : Sto) (H : Hp) (P : DK) (E : Ex) (Q : VK), Wok K M mu H S → Env K M mu H ρ σ → w ρ S P E → Nrm K M mu H P Q → Exc K M mu H E (fun C d H' => W C d σ H') → t σ H Q
structure RdA (K : PySem.W.Frag) (W : WX) (t : TA) (w : DWA) : Prop where
  run : ∀ (M : Addr → Prop) (mu : List Addr) (σ : L2.St) (ρ : Loc) (S : Sto) (H : Hp) (P : List D → Sto → Prop) (E : Ex) (Q : List V → Hp → Prop), Wok K M mu H S → Env K M mu H ρ σ → w ρ S P E → NrmA K M mu H P Q → Exc K M mu H E (fun C d H' => W C d σ H') → t σ H Q
structure RdT (K : PySem.W.Frag) (W : WX) (t : TT) (w : DWT) : Prop where
  run : ∀ (M : Addr → Prop) (mu : List Addr) (σ : L2.St) (ρ : Loc) (S : Sto) (H : Hp) (P : Bool → Sto → Prop) (E : Ex) (Q : Bool → Hp → Prop), Wok K M mu H S → Env K M mu H ρ σ → w ρ S P E → NrmT K M mu H P Q → Exc K M mu H E (fun C d H' => W C d σ H') → t σ H Q
structure DE (X : Cx) (W : WX) (e : Expr) (w : DW) : Prop where
  ex : ∃ t, PE X e t ∧ Rd X.K W t w
structure DA (X : Cx) (W : WX) (es : List Expr) (w : DWA) : Prop where
  ex : ∃ t, PA X es t ∧ RdA X.K W t w
structure DT (X : Cx) (W : WX) (e : Expr) (w : DWT) : Prop where
  ex : ∃ t, PT X e t ∧ RdT X.K W t w
structure DTW (X : Cx) (W : WX) (e : Expr) (w : DWT) : Prop where
  ex : ∃ t, PW X e t ∧ RdT X.K W t w
section
variable {K : PySem.W.Frag} {M : Addr → Prop} {mu : List Addr} {H H' : Hp} {S : Sto}
theorem Wok.ext (w : Wok K M mu H S) (k : Keep mu H H') : Ext M mu H M mu H' := .of w.sub k
theorem R.keep (w : Wok K M mu H S) (k : Keep mu H H') {d : D} {v : V} (r : R K M mu H d v) : R K M mu H' d v := R.mono (w.ext k).toExt0 d v r
theorem Rs.keep (w : Wok K M mu H S) (k : Keep mu H H') {d : List D} {v : List V} (r : Rs K M mu H d v) : Rs K M mu H' d v := Rs.mono (w.ext k).toExt0 d v r
theorem Env.keep (w : Wok K M mu H S) (k : Keep mu H H') {ρ : Loc} {σ : L2.St} (r : Env K M mu H ρ σ) : Env K M mu H' ρ σ := r.mono (w.ext k).toExt0
theorem Nrm.mono {P : DK} {Q : VK} (k : Keep mu H H') (n : Nrm K M mu H P Q) : Nrm K M mu H' P Q := fun v H2 d S' k2 => n v H2 d S' (k.trans k2)
theorem NrmA.mono {P : List D → Sto → Prop} {Q : List V → Hp → Prop} (k : Keep mu H H') (n : NrmA K M mu H P Q) : NrmA K M mu H' P Q := fun v H2 d S' k2 => n v H2 d S' (k.trans k2)
theorem NrmT.mono {P : Bool → Sto → Prop} {Q : Bool → Hp → Prop} (k : Keep mu H H') (n : NrmT K M mu H P Q) : NrmT K M mu H' P Q := fun b H2 S' k2 => n b H2 S' (k.trans k2)
theorem Exc.mono {E : Ex} {W : Value → Option Addr → Hp → Prop} (k : Keep mu H H') (n : Exc K M mu H E W) : Exc K M mu H' E W := fun C d H2 c fs S' k2 => n C d H2 c fs S' (k.trans k2)
theorem Rs.len : ∀ {ds : List D} {vs : List V}, Rs K M mu H ds vs → ds.length = vs.length
  | [], _, h => by rw [show _ = [] from h]; rfl
  | _ :: ds, _, ⟨v, r, e, _, t⟩ => by rw [e, List.length_cons, List.length_cons, Rs.len t]
theorem Rs.app : ∀ {ds es : List D} {vs us : List V}, Rs K M mu H ds vs → Rs K M mu H es us → Rs K M mu H (ds ++ es) (vs ++ us)
  | [], _, _, _, h, q => by rw [show _ = [] from h]; exact q
  | _ :: ds, _, _, _, ⟨v, r, e, a, t⟩, q => ⟨v, r ++ _, by rw [e]; rfl, a, Rs.app t q⟩
theorem Rs.get : ∀ {ds : List D} {vs : List V} {i : Nat} {d : D}, Rs K M mu H ds vs → ds[i]? = some d → ∃ v, vs[i]? = some v ∧ R K M mu H d v
  | [], _, _, _, _, h => by simp at h
  | x :: ds, _, 0, d, ⟨v, r, e, a, t⟩, h => by
    have h' : x = d := by simpa using h
    subst h'
    exact ⟨v, by rw [e]; rfl, a⟩
  | _ :: ds, _, i + 1, d, ⟨v, r, e, a, t⟩, h => by
    obtain ⟨u, h1, h2⟩ := Rs.get (i := i) (d := d) t (by simpa using h)
    exact ⟨u, by rw [e]; simpa using h1, h2⟩
theorem Rs.getV : ∀ {ds : List D} {vs : List V} {i : Nat} {v : V}, Rs K M mu H ds vs → vs[i]? = some v → ∃ d, ds[i]? = some d ∧ R K M mu H d v
  | [], _, i, _, e, h => by rw [show _ = [] from e] at h; simp at h
  | x :: ds, _, 0, v, ⟨u, r, e, a, t⟩, h => by
    rw [e] at h
    have h' : u = v := by simpa using h
    subst h'
    exact ⟨x, rfl, a⟩
  | _ :: ds, _, i + 1, v, ⟨u, r, e, a, t⟩, h => by
    rw [e] at h
    obtain ⟨d, h1, h2⟩ := Rs.getV (i := i) (v := v) t (by simpa using h)
    exact ⟨d, by simpa using h1, h2⟩
theorem Rs.take : ∀ {ds : List D} {vs : List V} (n : Nat), Rs K M mu H ds vs → Rs K M mu H (ds.take n) (vs.take n)
  | _, _, 0, _ => by simp only [List.take_zero]; rfl
  | [], _, n + 1, e => by rw [show _ = [] from e]; exact rfl
  | x :: ds, _, n + 1, ⟨u, r, e, a, t⟩ => ⟨u, r.take n, by rw [e]; rfl, a, Rs.take n t⟩
theorem Rs.drop : ∀ {ds : List D} {vs : List V} (n : Nat), Rs K M mu H ds vs → Rs K M mu H (ds.drop n) (vs.drop n)
  | _, _, 0, h => h
  | [], _, n + 1, e => by rw [show _ = [] from e]; exact rfl
  | x :: ds, _, n + 1, ⟨u, r, e, a, t⟩ => by rw [e]; exact Rs.drop n t
theorem Rs.set {d : D} {v : V} (hr : R K M mu H d v) : ∀ {ds : List D} {vs : List V} (n : Nat), Rs K M mu H ds vs → Rs K M mu H (ds.set n d) (vs.set n v)
  | [], _, n, e => by rw [show _ = [] from e]; exact rfl
  | x :: ds, _, 0, ⟨u, r, e, a, t⟩ => ⟨v, r, by rw [e]; rfl, hr, t⟩
  | x :: ds, _, n + 1, ⟨u, r, e, a, t⟩ => ⟨u, r.set n v, by rw [e]; rfl, a, Rs.set hr n t⟩
theorem notF_lst {H : Hp} {a : Addr} {xs : List V} (h : H a = some (.lst xs)) : ∀ q, H a = some q → ¬ isF q := fun q e z => by
  rw [h] at e
  rcases z with ⟨od, u, z⟩ | ⟨xs, z⟩ <;> (rw [z] at e; cases e)
theorem notF_dK {H : Hp} {a : Addr} {xs : List (Key × V)} (h : H a = some (.dK xs)) : ∀ q, H a = some q → ¬ isF q := fun q e z => by
  rw [h] at e
  rcases z with ⟨od, u, z⟩ | ⟨xs, z⟩ <;> (rw [z] at e; cases e)
theorem notF_dT {H : Hp} {a : Addr} {xs : List (List Key × V)} (h : H a = some (.dT xs)) : ∀ q, H a = some q → ¬ isF q := fun q e z => by
  rw [h] at e
  rcases z with ⟨od, u, z⟩ | ⟨xs, z⟩ <;> (rw [z] at e; cases e)
theorem notF_ins {H : Hp} {a C dx : Addr} {fs : List (Str × V)} (h : H a = some (.ins C dx fs)) : ∀ q, H a = some q → ¬ isF q := fun q e z => by
  rw [h] at e
  rcases z with ⟨od, u, z⟩ | ⟨xs, z⟩ <;> (rw [z] at e; cases e)
theorem Cl.keep (w : Wok K M mu H S) (k : Keep mu H H') {d : D} {a : Addr} (q : H' a = H a) (h : Cl K M mu H d a) : Cl K M mu H' d a := by
  have e := (w.ext k).toExt0
  cases d with
  | lst ds => obtain ⟨vs, h1, h2⟩ := h; exact ⟨vs, q.trans h1, Rs.mono e _ _ h2⟩
  | dk kvs => obtain ⟨es, h1, h2, h3⟩ := h; exact ⟨es, q.trans h1, h2, Rk.mono e _ _ h3⟩
  | dt kvs => obtain ⟨es, h1, h2, h3⟩ := h; exact ⟨es, q.trans h1, h2, Rt.mono e _ _ h3⟩
  | obj C fs => obtain ⟨dx, gs, h1, h2, h3⟩ := h; exact ⟨dx, gs, q.trans h1, h2, Rfs.mono e _ _ h3⟩
  | tb P z => obtain ⟨rfl, h⟩ := h; exact ⟨rfl, TabM.mono e q h⟩
  | _ => exact h
theorem Wok.alloc (w : Wok K M mu H S) {p : Addr} (hp : H p = none) (o : HO) : Wok K M mu (upd H p o) S ∧ Keep mu H (upd H p o) ∧ ¬ M p := by
  have k : Keep mu H (upd H p o) := fun b q h _ => by rw [upd_ne (ne_of_none h hp)]; exact h
  refine ⟨⟨w.len, w.sub, w.nd, fun a h => ?_, fun i a d h1 h2 => ?_⟩, k, fun h => w.tr p h hp⟩
  · by_cases e : a = p
    · rw [e, upd_same]; simp
    · rw [upd_ne e]; exact w.tr a h
  · have c := w.at_ i a d h1 h2
    have n : a ≠ p := fun e => w.tr a (w.sub a (List.mem_of_getElem? h1)) (by rw [e]; exact hp)
    exact c.keep w k (upd_ne n)
/-- a new list, a new tuple -/
theorem newL (w : Wok K M mu H S) {p : Addr} (hp : H p = none) {ds : List D} {vs : List V} (r : Rs K M mu H ds vs) : R K M mu (upd H p (.lst vs)) (.lst ds) (.ref p) :=
  let ⟨_, k, n⟩ := w.alloc hp (.lst vs)
  ⟨p, vs, rfl, n, upd_same, Rs.mono (w.ext k).toExt0 _ _ r⟩
theorem newT (w : Wok K M mu H S) {p : Addr} (hp : H p = none) {ds : List D} {vs : List V} (r : Rs K M mu H ds vs) : R K M mu (upd H p (.tup vs)) (.tup ds) (.ref p) :=
  let ⟨_, k, n⟩ := w.alloc hp (.tup vs)
  ⟨p, vs, rfl, upd_same, Rs.mono (w.ext k).toExt0 _ _ r⟩
/-- what a tree is worth: a cell's content -/
def cont (c z : D) : D := match c with
  | .lst ds => .lst ds
  | .dk ds => .dk ds
  | .dt ds => .dt ds
  | .obj C ds => .obj C ds
  | _ => z
def val (S : Sto) : D → D
  | .loc i => cont (S.getD i .non) (.loc i)
  | .ktp ds => .tup ds
  | d => d
theorem val_loc {S : Sto} {i : Nat} {c : D} (h : val S (.loc i) = c) (n : c ≠ .loc i) : S[i]? = some c := by
  have h' : cont (S.getD i .non) (.loc i) = c := h
  rw [List.getD_eq_getElem?_getD] at h'
  cases e : S[i]? with
  | none => rw [e] at h'; exact absurd h'.symm n
  | some x =>
    rw [e] at h'
    cases x with
    | lst _ => exact congrArg some h'
    | dk _ => exact congrArg some h'
    | dt _ => exact congrArg some h'
    | obj _ _ => exact congrArg some h'
    | _ => exact absurd h'.symm n
theorem val_ne_non {S : Sto} {i : Nat} : val S (.loc i) ≠ .non := fun h => by
  have h' : cont (S.getD i .non) (.loc i) = .non := h
  cases q : S.getD i .non <;> rw [q] at h' <;> simp [cont] at h'
theorem seq_lst (w : Wok K M mu H S) {x : D} {v : V} {ds : List D} (r : R K M mu H x v) (e : val S x = .lst ds) : ∃ a vs, v = .ref a ∧ H a = some (.lst vs) ∧ Rs K M mu H ds vs := by
  cases x with
  | loc i =>
    obtain ⟨a, h1, h2⟩ := r
    obtain ⟨vs, h3, h4⟩ : Cl K M mu H (.lst ds) a := w.at_ i a _ h2 (val_loc e (by simp))
    exact ⟨a, vs, h1, h3, h4⟩
  | lst es =>
    have e' : es = ds := by simpa [val] using e
    subst e'
    obtain ⟨a, vs, h1, _, h3, h4⟩ := r
    exact ⟨a, vs, h1, h3, h4⟩
  | _ => simp [val] at e
theorem SqTK.to {a : Addr} {xs : List V} (h : SqTK K a xs) : SqT K H a xs := .inr h
theorem seq_tup (w : Wok K M mu H S) {x : D} {v : V} {ds : List D} (r : R K M mu H x v) (e : val S x = .tup ds) : ∃ a vs, v = .ref a ∧ SqT K H a vs ∧ Rs K M mu H ds vs := by
  cases x with
  | loc i =>
    obtain ⟨a, h1, h2⟩ := r
    exact (show False from w.at_ i a _ h2 (val_loc e (by simp))).elim
  | tup es =>
    have e' : es = ds := by simpa [val] using e
    subst e'
    obtain ⟨a, vs, h1, h3, h4⟩ := r
    exact ⟨a, vs, h1, SqT.of h3, h4⟩
  | ktp es =>
    have e' : es = ds := by simpa [val] using e
    subst e'
    obtain ⟨a, vs, h1, h3, h4⟩ := r
    exact ⟨a, vs, h1, h3.to, h4⟩
  | _ => simp [val] at e
end
end DL
set_option maxRecDepth 100000
set_option maxHeartbeats 2000000
namespace DL
open PySem PySem.Spec PyProof.Rows L2
/-! ### names, constants -/
def wVar (i : Nat) : DW := fun ρ S P _ => match ρ.getD i none with
  | some d => P d S
  | none => False
def wC (d : D) : DW := fun _ S P _ => P d S
section
variable {X : Cx} {W : WX} {e a b c : Expr} {es : List Expr} {wa wb wc : DW} {w : DWA} {pos : Pos}
theorem de_of {t : TE} {w : DW} (h : PE X e t) (r : Rd X.K W t w) : DE X W e w := ⟨t, h, r⟩
theorem de_var (i : Nat) (h : PE X e (tVar i)) : DE X W e (wVar i) := ⟨_, h, ⟨fun M mu σ ρ S H P E Q ok en hw n _ => by
  unfold wVar at hw
  rw [List.getD_eq_getElem?_getD] at hw
  cases q : ρ[i]? with
  | none => rw [q] at hw; exact hw.elim
  | some o =>
    cases o with
    | none => rw [q] at hw; exact hw.elim
    | some d =>
      rw [q] at hw
      obtain ⟨v, h1, h2⟩ := en.get i d q
      exact ⟨v, h1, n v H d S (.refl _ _) ok h2 hw⟩⟩⟩
theorem de_tC {v : V} {d : D} (hr : ∀ M mu H, R X.K M mu H d v) (h : PE X e (tC v)) : DE X W e (wC d) := ⟨_, h, ⟨fun M mu σ ρ S H P E Q ok en hw n _ => n v H d S (.refl _ _) ok (hr M mu H) hw⟩⟩
theorem de_int {i : Int} {j : Nat} : DE X W (.Constant (.int i) j pos) (wC (.int i)) := de_tC (fun _ _ _ => rfl) pe_int
theorem de_str {s : Str} {j : Nat} : DE X W (.Constant (.str s) j pos) (wC (.str s)) := de_tC (fun _ _ _ => rfl) pe_str
theorem de_bl {i : Bool} {j : Nat} : DE X W (.Constant (.bool i) j pos) (wC (.bl i)) := de_tC (fun _ _ _ => rfl) pe_bl
theorem de_non {j : Nat} : DE X W (.Constant .none j pos) (wC .non) := de_tC (fun _ _ _ => rfl) pe_non
/-- a global that stands for d whatever the heap is -/
theorem de_glob {x : Str} {v : V} {u : Value} {d : D} (hg : Gl X x) (hm : X.mg x = some u) (r : RelV v u) (hr : ∀ M mu H, R X.K M mu H d v) (hd : (x == ("__debug__" : Str)) = false := by decide) : DE X W (.Name x pos) (wC d) := de_tC hr (pe_glob hg hm r hd)
/-- a built-in type as a value -/
theorem de_ty {x : Str} {n : String} (hg : Gl X x) (hm : X.mg x = none) (hv : bootBuiltins x = some (.type n)) (hn : x ≠ "__name__" := by decide) (hd : (x == ("__debug__" : Str)) = false := by decide) : DE X W (.Name x pos) (wC (.ty n)) :=
  de_tC (fun _ _ _ => rfl) (pe_bltn (v := .ty n) hg hm hv rfl hn hd)
/-! ### two in a row -/
def wSeq {α β : Type} (wa : Loc → Sto → (α → Sto → Prop) → Ex → Prop) (k : α → Loc → Sto → (β → Sto → Prop) → Ex → Prop) : Loc → Sto → (β → Sto → Prop) → Ex → Prop := fun ρ S P E => wa ρ S (fun x S1 => k x ρ S1 P E) E
/-! ### argument lists, displays -/
def wNil : DWA := fun _ S P _ => P [] S
def wCons (wa : DW) (w : DWA) : DWA := fun ρ S P E => wa ρ S (fun x S1 => w ρ S1 (fun xs S2 => P (x :: xs) S2) E) E
theorem da_nil : DA X W [] wNil := ⟨_, pa_nil, ⟨fun M mu σ ρ S H P E Q ok en hw n _ => n [] H [] S (.refl _ _) ok rfl hw⟩⟩
theorem da_cons (ha : DE X W e wa) (hs : DA X W es w) (h : starEach (e :: es) X.env = (false, eval e X.env) :: starEach es X.env := by rfl) : DA X W (e :: es) (wCons wa w) := by
  obtain ⟨ta, pa, ra⟩ := ha.ex
  obtain ⟨ts, ps, rs⟩ := hs.ex
  refine ⟨_, pa_cons pa ps h, ⟨fun M mu σ ρ S H P E Q ok en hw n x => ?_⟩⟩
  refine ra.run M mu σ ρ S H _ E _ ok en hw (fun v H1 d S1 k1 ok1 r1 h1 => ?_) x
  refine rs.run M mu σ ρ S1 H1 _ E _ ok1 (en.keep ok k1) h1 (fun vs H2 ds S2 k2 ok2 r2 h2 => ?_) (x.mono k1)
  exact n (v :: vs) H2 (d :: ds) S2 (k1.trans k2) ok2 ⟨v, vs, rfl, r1.keep ok1 k2, r2⟩ h2
def wLst (w : DWA) : DW := fun ρ S P E => w ρ S (fun ds S1 => ds.length ≤ 1000000 ∧ P (.lst ds) S1) E
def wTup (w : DWA) : DW := fun ρ S P E => w ρ S (fun ds S1 => ds.length ≤ 1000000 ∧ P (.tup ds) S1) E
theorem line_of {n : Nat} (h : n ≤ 1000000) : n ≤ sizeLine := by rw [sizeLine_eq]; omega
theorem de_lst (hs : DA X W es w) : DE X W (.List es pos) (wLst w) := by
  obtain ⟨ts, ps, rs⟩ := hs.ex
  refine ⟨_, pe_lst ps, ⟨fun M mu σ ρ S H P E Q ok en hw n x => ?_⟩⟩
  refine rs.run M mu σ ρ S H _ E _ ok en hw (fun vs H1 ds S1 k1 ok1 r1 h1 => ?_) x
  refine ⟨by rw [← r1.len]; exact line_of h1.1, fun p hp => ?_⟩
  obtain ⟨ok2, k2, _⟩ := ok1.alloc hp (.lst vs)
  exact n _ _ _ S1 (k1.trans k2) ok2 (newL ok1 hp r1) h1.2
theorem de_tup {k : Nat} (hs : DA X W es w) : DE X W (.Tuple es k pos) (wTup w) := by
  obtain ⟨ts, ps, rs⟩ := hs.ex
  refine ⟨_, pe_tup ps, ⟨fun M mu σ ρ S H P E Q ok en hw n x => ?_⟩⟩
  refine rs.run M mu σ ρ S H _ E _ ok en hw (fun vs H1 ds S1 k1 ok1 r1 h1 => ?_) x
  refine ⟨by rw [← r1.len]; exact line_of h1.1, fun p hp => ?_⟩
  obtain ⟨ok2, k2, _⟩ := ok1.alloc hp (.tup vs)
  exact n _ _ _ S1 (k1.trans k2) ok2 (newT ok1 hp r1) h1.2
/-! ### operators by values -/
abbrev DF2 := D → D → Sto → DK → Prop
def OpD (K : PySem.W.Frag) (r : R2) (f : DF2) : Prop := ∀ (M : Addr → Prop) (mu : List Addr) (H : Hp) (S : Sto) (x y : D) (v u : V) (P : DK) (Q : VK), Wok K M mu H S → R K M mu H x v → R K M mu H y u → f x y S P → Nrm K M mu H P Q → r v u H Q
def wOp (f : DF2) (wa wb : DW) : DW := fun ρ S P E => wa ρ S (fun x S1 => wb ρ S1 (fun y S2 => f x y S2 P) E) E
theorem rd_op {r : R2} {f : DF2} {K : PySem.W.Frag} {ta tb : TE} (hf : OpD K r f) (ra : Rd K W ta wa) (rb : Rd K W tb wb) : Rd K W (tOp r ta tb) (wOp f wa wb) := by
  refine ⟨fun M mu σ ρ S H P E Q ok en hw n x => ?_⟩
  refine ra.run M mu σ ρ S H _ E _ ok en hw (fun v H1 d S1 k1 ok1 r1 h1 => ?_) x
  refine rb.run M mu σ ρ S1 H1 _ E _ ok1 (en.keep ok k1) h1 (fun u H2 d2 S2 k2 ok2 r2 h2 => ?_) (x.mono k1)
  exact hf M mu H2 S2 d d2 v u P Q ok2 (r1.keep ok1 k2) r2 h2 (n.mono (k1.trans k2))
theorem de_op {op : Operator} {r : R2} {f : DF2} (ho : OpR X (binaryOp op) r) (hf : OpD X.K r f) (ha : DE X W a wa) (hb : DE X W b wb) : DE X W (.BinOp a op b pos) (wOp f wa wb) := by
  obtain ⟨ta, pa, ra⟩ := ha.ex
  obtain ⟨tb, pb, rb⟩ := hb.ex
  exact ⟨_, pe_op ho pa pb, rd_op hf ra rb⟩
theorem de_cmp {op : CmpOp} {r : R2} {f : DF2} (ho : OpR X (compareOp op) r) (hf : OpD X.K r f) (ha : DE X W a wa) (hb : DE X W b wb) (hm : behindInMarks op b = false := by first | exact nomark _ | rfl) : DE X W (.Compare a [op] [b] pos) (wOp f wa wb) := by
  obtain ⟨ta, pa, ra⟩ := ha.ex
  obtain ⟨tb, pb, rb⟩ := hb.ex
  exact ⟨_, pe_cmpR ho pa pb hm, rd_op hf ra rb⟩
/-- a value that is a bool, as a test -/
def wB (w : DW) : DWT := fun ρ S P E => w ρ S (fun x S1 => match x with
  | .bl k => P k S1
  | _ => False) E
theorem rd_test {K : PySem.W.Frag} {t : TE} {w : DW} (r : Rd K W t w) : RdT K W (tTest t) (wB w) := by
  refine ⟨fun M mu σ ρ S H P E Q ok en hw n x => ?_⟩
  refine r.run M mu σ ρ S H _ E _ ok en hw (fun v H1 d S1 k1 ok1 r1 h1 => ?_) x
  cases d with
  | bl k => exact ⟨k, r1, n k H1 S1 k1 ok1 h1⟩
  | _ => exact h1.elim
theorem dt_cmp {op : CmpOp} {r : R2} {f : DF2} (ho : OpR X (compareOp op) r) (hf : OpD X.K r f) (ha : DE X W a wa) (hb : DE X W b wb) (hm : behindInMarks op b = false := by first | exact nomark _ | rfl) : DT X W (.Compare a [op] [b] pos) (wB (wOp f wa wb)) := by
  obtain ⟨ta, pa, ra⟩ := ha.ex
  obtain ⟨tb, pb, rb⟩ := hb.ex
  exact ⟨_, pt_cmpR ho pa pb hm, rd_test (rd_op hf ra rb)⟩
theorem de_chain {op op' : CmpOp} {r r' : R2} {f f' : DF2} (ho : OpR X (compareOp op) r) (ho' : OpR X (compareOp op') r') (hf : OpD X.K r f) (hf' : OpD X.K r' f') (ha : DE X W a wa) (hb : DE X W b wb) (hc : DE X W c wc)
    (hm : lastMarks [op, op'] [b, c] = false := by with_unfolding_all rfl) : DE X W (.Compare a [op, op'] [b, c] pos)
      (fun ρ S P E => wa ρ S (fun x S1 => wb ρ S1 (fun y S2 => f x y S2 (fun z S3 => match z with
        | .bl k => if k = true then wc ρ S3 (fun u S4 => f' y u S4 P) E else P (.bl false) S3
        | _ => False)) E) E) := by
  obtain ⟨ta, pa, ra⟩ := ha.ex
  obtain ⟨tb, pb, rb⟩ := hb.ex
  obtain ⟨tc, pc, rc⟩ := hc.ex
  refine ⟨_, pe_chain ho ho' pa pb pc hm, ⟨fun M mu σ ρ S H P E Q ok en hw n x => ?_⟩⟩
  refine ra.run M mu σ ρ S H _ E _ ok en hw (fun v H1 d S1 k1 ok1 r1 h1 => ?_) x
  refine rb.run M mu σ ρ S1 H1 _ E _ ok1 (en.keep ok k1) h1 (fun u H2 d2 S2 k2 ok2 r2 h2 => ?_) (x.mono k1)
  refine hf M mu H2 S2 d d2 v u _ _ ok2 (r1.keep ok1 k2) r2 h2 (fun z H3 d3 S3 k3 ok3 r3 h3 => ?_)
  cases d3 with
  | bl k =>
    refine ⟨k, r3, ?_⟩
    cases k with
    | true =>
      have h3 : wc ρ S3 (fun u S4 => f' d2 u S4 P) E := h3
      rw [if_pos rfl]
      refine rc.run M mu σ ρ S3 H3 _ E _ ok3 ((en.keep ok k1).keep ok1 (k2.trans k3)) h3 (fun u' H4 d4 S4 k4 ok4 r4 h4 => ?_) (x.mono (k1.trans (k2.trans k3)))
      exact hf' M mu H4 S4 d2 d4 u u' P Q ok4 (r2.keep ok2 (k3.trans k4)) r4 h4 (n.mono (k1.trans (k2.trans (k3.trans k4))))
    | false =>
      have h3 : P (.bl false) S3 := h3
      rw [if_neg Bool.false_ne_true]
      exact n _ H3 (.bl false) S3 (k1.trans (k2.trans k3)) ok3 rfl h3
  | _ => exact h3.elim
theorem dt_chain {op op' : CmpOp} {r r' : R2} {f f' : DF2} (ho : OpR X (compareOp op) r) (ho' : OpR X (compareOp op') r') (hf : OpD X.K r f) (hf' : OpD X.K r' f') (ha : DE X W a wa) (hb : DE X W b wb) (hc : DE X W c wc)
    (hm : lastMarks [op, op'] [b, c] = false := by with_unfolding_all rfl) : DT X W (.Compare a [op, op'] [b, c] pos)
      (wB (fun ρ S P E => wa ρ S (fun x S1 => wb ρ S1 (fun y S2 => f x y S2 (fun z S3 => match z with
        | .bl k => if k = true then wc ρ S3 (fun u S4 => f' y u S4 P) E else P (.bl false) S3
        | _ => False)) E) E)) := by
  obtain ⟨ta, pa, ra⟩ := ha.ex
  obtain ⟨tb, pb, rb⟩ := hb.ex
  obtain ⟨tc, pc, rc⟩ := hc.ex
  refine ⟨_, pt_chain ho ho' pa pb pc hm, rd_test ⟨fun M mu σ ρ S H P E Q ok en hw n x => ?_⟩⟩
  refine ra.run M mu σ ρ S H _ E _ ok en hw (fun v H1 d S1 k1 ok1 r1 h1 => ?_) x
  refine rb.run M mu σ ρ S1 H1 _ E _ ok1 (en.keep ok k1) h1 (fun u H2 d2 S2 k2 ok2 r2 h2 => ?_) (x.mono k1)
  refine hf M mu H2 S2 d d2 v u _ _ ok2 (r1.keep ok1 k2) r2 h2 (fun z H3 d3 S3 k3 ok3 r3 h3 => ?_)
  cases d3 with
  | bl k =>
    refine ⟨k, r3, ?_⟩
    cases k with
    | true =>
      have h3 : wc ρ S3 (fun u S4 => f' d2 u S4 P) E := h3
      rw [if_pos rfl]
      refine rc.run M mu σ ρ S3 H3 _ E _ ok3 ((en.keep ok k1).keep ok1 (k2.trans k3)) h3 (fun u' H4 d4 S4 k4 ok4 r4 h4 => ?_) (x.mono (k1.trans (k2.trans k3)))
      exact hf' M mu H4 S4 d2 d4 u u' P Q ok4 (r2.keep ok2 (k3.trans k4)) r4 h4 (n.mono (k1.trans (k2.trans (k3.trans k4))))
    | false =>
      have h3 : P (.bl false) S3 := h3
      rw [if_neg Bool.false_ne_true]
      exact n _ H3 (.bl false) S3 (k1.trans (k2.trans k3)) ok3 rfl h3
  | _ => exact h3.elim
/-- one-place operators -/
def wUn (f : D → Sto → DK → Prop) (wa : DW) : DW := fun ρ S P E => wa ρ S (fun x S1 => f x S1 P) E
def negD (x : D) (S : Sto) (P : DK) : Prop := match x with
  | .int i => P (.int (-i)) S
  | _ => False
theorem de_neg (ha : DE X W a wa) : DE X W (.UnaryOp .USub a pos) (wUn negD wa) := by
  obtain ⟨ta, pa, ra⟩ := ha.ex
  refine ⟨_, pe_un un_neg pa, ⟨fun M mu σ ρ S H P E Q ok en hw n x => ?_⟩⟩
  refine ra.run M mu σ ρ S H _ E _ ok en hw (fun v H1 d S1 k1 ok1 r1 h1 => ?_) x
  cases d with
  | int i => exact ⟨i, r1, n _ H1 (.int (-i)) S1 k1 ok1 rfl h1⟩
  | _ => exact h1.elim
end
/-! ### int operators -/
section
variable {K : PySem.W.Frag}
def intD (C : Int → Int → Prop) (g : Int → Int → D) : DF2 := fun x y S P => match x, y with
  | .int i, .int j => C i j ∧ P (g i j) S
  | _, _ => False
theorem opd_I {C : Int → Int → Prop} {g : Int → Int → V} {g' : Int → Int → D} (hg : ∀ i j M mu H, R K M mu H (g' i j) (g i j)) : OpD K (rI C g) (intD C g') := by
  intro M mu H S x y v u P Q ok rx ry h n
  cases x with
  | int i =>
    cases y with
    | int j => exact ⟨i, j, rx, ry, h.1, n _ H _ S (.refl _ _) ok (hg i j M mu H) h.2⟩
    | _ => exact h.elim
  | _ => exact h.elim
def cmpD (g : Int → Int → Bool) : DF2 := fun x y S P => match x, y with
  | .int i, .int j => P (.bl (g i j)) S
  | _, _ => False
theorem opd_B {g : Int → Int → Bool} : OpD K (rI0 fun i j => .bl (g i j)) (cmpD g) := by
  intro M mu H S x y v u P Q ok rx ry h n
  cases x with
  | int i =>
    cases y with
    | int j => exact ⟨i, j, rx, ry, n _ H (.bl (g i j)) S (.refl _ _) ok rfl h⟩
    | _ => exact h.elim
  | _ => exact h.elim
/-- plus: ints, texts, lists, tuples -/
def rAddA (K : PySem.W.Frag) : R2 := fun x y H Q => (rI0 (fun i j => .int (i + j)) x y H Q ∨ (∃ i j, x = V.str i ∧ y = V.str j ∧ i.length + j.length ≤ sizeLine ∧ Q (.str (i ++ j)) H)) ∨ (rCat x y H Q ∨ rCatA K x y H Q)
theorem op_addA {X : Cx} : OpR X (binaryOp .Add) (rAddA X.K) := (OpR.or (OpR.or op_add op_add_str) (OpR.or op_cat op_catA))
/-- a tuple of the written part -/
def isK : D → Bool
  | .ktp _ => true
  | _ => false
theorem isK_tup {l : List D} : (isK (.tup l) = false) = True := propext ⟨fun _ => True.intro, fun _ => rfl⟩
def addD : DF2 := fun x y S P => match val S x, val S y with
  | .int i, .int j => P (.int (i + j)) S
  | .str a, .str b => a.length + b.length ≤ 1000000 ∧ P (.str (a ++ b)) S
  | .lst a, .lst b => a.length + b.length ≤ 1000000 ∧ P (.lst (a ++ b)) S
  | .tup a, .tup b => (isK x = false ∧ isK y = false) ∧ a.length + b.length ≤ 1000000 ∧ P (.tup (a ++ b)) S
  | _, _ => False
theorem val_int {M : Addr → Prop} {mu : List Addr} {H : Hp} {S : Sto} (w : Wok K M mu H S) {x : D} {v : V} {i : Int} (r : R K M mu H x v) (e : val S x = .int i) : v = .int i := by
  cases x with
  | loc j =>
    obtain ⟨a, h1, h2⟩ := r
    exact (show False from w.at_ j a _ h2 (val_loc e (by simp))).elim
  | int j =>
    have e' : j = i := by simpa [val] using e
    subst e'
    exact r
  | _ => simp [val] at e
theorem val_str {M : Addr → Prop} {mu : List Addr} {H : Hp} {S : Sto} (w : Wok K M mu H S) {x : D} {v : V} {i : Str} (r : R K M mu H x v) (e : val S x = .str i) : v = .str i := by
  cases x with
  | loc j =>
    obtain ⟨a, h1, h2⟩ := r
    exact (show False from w.at_ j a _ h2 (val_loc e (by simp))).elim
  | str j =>
    have e' : j = i := by simpa [val] using e
    subst e'
    exact r
  | _ => simp [val] at e
theorem opd_add : OpD K (rAddA K) addD := by
  intro M mu H S x y v u P Q ok rx ry h n
  unfold addD at h
  cases e1 : val S x with
  | int i =>
    cases e2 : val S y with
    | int j => rw [e1, e2] at h; exact .inl (.inl ⟨i, j, val_int ok rx e1, val_int ok ry e2, n _ H (.int (i + j)) S (.refl _ _) ok rfl h⟩)
    | _ => rw [e1, e2] at h; exact h.elim
  | str i =>
    cases e2 : val S y with
    | str j => rw [e1, e2] at h; exact .inl (.inr ⟨i, j, val_str ok rx e1, val_str ok ry e2, line_of h.1, n _ H (.str (i ++ j)) S (.refl _ _) ok rfl h.2⟩)
    | _ => rw [e1, e2] at h; exact h.elim
  | lst ds =>
    cases e2 : val S y with
    | lst es =>
      rw [e1, e2] at h
      obtain ⟨a, vs, rfl, ha, ra⟩ := seq_lst ok rx e1
      obtain ⟨b, us, rfl, hb, rb⟩ := seq_lst ok ry e2
      refine .inr (.inl ⟨a, b, vs, us, rfl, rfl, ha, hb, by rw [← ra.len, ← rb.len]; exact line_of h.1, fun p hp => ?_⟩)
      obtain ⟨ok2, k2, _⟩ := ok.alloc hp (.lst (vs ++ us))
      exact n _ _ _ S k2 ok2 (newL ok hp (ra.app rb)) h.2
    | _ => rw [e1, e2] at h; exact h.elim
  | tup ds =>
    cases e2 : val S y with
    | tup es =>
      rw [e1, e2] at h
      obtain ⟨a, vs, rfl, ha, ra⟩ := seq_tup ok rx e1
      obtain ⟨b, us, rfl, hb, rb⟩ := seq_tup ok ry e2
      have fin : ∀ p, H p = none → Q (.ref p) (upd H p (.tup (vs ++ us))) := fun p hp => by
        obtain ⟨ok2, k2, _⟩ := ok.alloc hp (.tup (vs ++ us))
        exact n _ _ _ S k2 ok2 (newT ok hp (ra.app rb)) h.2.2
      have as_ : ∀ {z : D} {q : Addr}, isK z = false → val S z = .tup (ds ++ es) → R K M mu H z (.ref q) → Q (.ref q) H := fun {z q} hk e r => by
        cases z with
        | tup l =>
          have e' : l = ds ++ es := by simpa [val] using e
          subst e'
          exact n _ H _ S (.refl _ _) ok r h.2.2
        | ktp _ => cases hk
        | loc j =>
          obtain ⟨a, h1, h2⟩ := r
          exact (show False from ok.at_ j a _ h2 (val_loc e (by simp))).elim
        | _ => simp [val] at e
      refine .inr (.inr ⟨a, b, vs, us, rfl, rfl, ha, hb, by rw [← ra.len, ← rb.len]; exact line_of h.2.1, fun z => ?_, fun _ z => ?_, fun _ _ => fin⟩)
      · have : ds = [] := by
          have := ra.len
          rw [z] at this
          exact List.length_eq_zero_iff.mp this
        subst this
        exact as_ (z := y) h.1.2 e2 ry
      · have : es = [] := by
          have := rb.len
          rw [z] at this
          exact List.length_eq_zero_iff.mp this
        subst this
        exact as_ (z := x) h.1.1 (by rw [e1, List.append_nil]) rx
    | _ => rw [e1, e2] at h; exact h.elim
  | _ => rw [e1] at h; exact h.elim
/-- times: ints; a list a number of times -/
def MulOk (i j : Int) : Prop := i.natAbs < 2 ^ 64 ∨ j.natAbs < 2 ^ 64 ∨ (i.natAbs < 10 ^ 3000 ∧ j.natAbs < 10 ^ 3000)
def rMulA : R2 := fun x y H Q => (rI CMulW (fun i j => .int (i * j)) x y H Q ∨ rI CMul (fun i j => .int (i * j)) x y H Q) ∨ rRep x y H Q
theorem op_mulA {X : Cx} : OpR X (binaryOp .Mult) rMulA := OpR.or (OpR.or op_mulW op_mul) op_rep
def mulD : DF2 := fun x y S P => match val S x, y with
  | .int i, .int j => MulOk i j ∧ P (.int (i * j)) S
  | .lst ds, .int k => (k ≤ 1000000 ∧ -1000000 ≤ k ∧ ds.length * k.toNat ≤ 1000000) ∧ P (.lst (List.replicate k.toNat ds).flatten) S
  | _, _ => False
theorem MulOk.wide {i j : Int} (h : i.natAbs < 10 ^ 3000 ∧ j.natAbs < 10 ^ 3000) : CMulW i j :=
  wide_mul (a := 10000) (b := 10000) (Nat.lt_of_lt_of_le h.1 (by decide +kernel)) (Nat.lt_of_lt_of_le h.2 (by decide +kernel)) (by decide) (by decide) (by decide)
theorem Rs.rep {M : Addr → Prop} {mu : List Addr} {H : Hp} {ds : List D} {vs : List V} (r : Rs K M mu H ds vs) : ∀ k : Nat, Rs K M mu H (List.replicate k ds).flatten (List.replicate k vs).flatten
  | 0 => rfl
  | k + 1 => by
    rw [List.replicate_succ, List.replicate_succ, List.flatten_cons, List.flatten_cons]
    exact r.app (Rs.rep r k)
theorem opd_mul : OpD K rMulA mulD := by
  intro M mu H S x y v u P Q ok rx ry h n
  unfold mulD at h
  cases e1 : val S x with
  | int i =>
    cases y with
    | int j =>
      rw [e1] at h
      have fin := n _ H (.int (i * j)) S (.refl _ _) ok rfl h.2
      rcases h.1 with q | q | q
      · exact .inl (.inr ⟨i, j, val_int ok rx e1, ry, .inl (by omega), fin⟩)
      · exact .inl (.inr ⟨i, j, val_int ok rx e1, ry, .inr (by omega), fin⟩)
      · exact .inl (.inl ⟨i, j, val_int ok rx e1, ry, MulOk.wide q, fin⟩)
    | _ => rw [e1] at h; exact h.elim
  | lst ds =>
    cases y with
    | int k =>
      rw [e1] at h
      obtain ⟨a, vs, rfl, ha, ra⟩ := seq_lst ok rx e1
      refine .inr ⟨a, k, vs, rfl, ry, ha, by omega, by omega, by rw [← ra.len]; exact line_of h.1.2.2, fun p hp => ?_⟩
      obtain ⟨ok2, k2, _⟩ := ok.alloc hp (.lst (List.replicate k.toNat vs).flatten)
      exact n _ _ _ S k2 ok2 (newL ok hp (ra.rep _)) h.2
    | _ => rw [e1] at h; exact h.elim
  | _ => rw [e1] at h; exact h.elim
end
end DL
set_option maxRecDepth 100000
set_option maxHeartbeats 2000000
namespace DL
open PySem PySem.Spec PyProof.Rows L2
/-! ### trees as the library's data -/
mutual
def toPy : D → Option PyData
  | .non => some .none
  | .bl b => some (.bool b)
  | .int i => some (.int i)
  | .str s => some (.str s)
  | .lst ds => (toPys ds).map .list
  | .tup ds => (toPys ds).map .tuple
  | .ktp ds => (toPys ds).map .tuple
  | _ => none
def toPys : List D → Option (List PyData)
  | [] => some []
  | d :: ds => match toPy d, toPys ds with
    | some p, some ps => some (p :: ps)
    | _, _ => none
end
section
variable {K : PySem.W.Frag} {M : Addr → Prop} {mu : List Addr} {H : Hp} {S : Sto}
mutual
theorem R.dp : ∀ (d : D) (v : V) (p : PyData), R K M mu H d v → toPy d = some p → Dp K H v p
  | .non, v, p, r, e => by obtain rfl : v = .non := r; obtain rfl : PyData.none = p := Option.some.inj e; exact .non
  | .bl b, v, p, r, e => by obtain rfl : v = .bl b := r; obtain rfl : PyData.bool b = p := Option.some.inj e; exact .bl b
  | .int b, v, p, r, e => by obtain rfl : v = .int b := r; obtain rfl : PyData.int b = p := Option.some.inj e; exact .int b
  | .str b, v, p, r, e => by obtain rfl : v = .str b := r; obtain rfl : PyData.str b = p := Option.some.inj e; exact .str b
  | .lst ds, v, p, r, e => by
    obtain ⟨a, vs, rfl, _, h3, h4⟩ := r
    obtain ⟨ps, h5, rfl⟩ := Option.map_eq_some_iff.mp (show (toPys ds).map PyData.list = some p from e)
    exact .lst (SqL.of h3) (Rs.dp ds vs ps h4 h5)
  | .tup ds, v, p, r, e => by
    obtain ⟨a, vs, rfl, h3, h4⟩ := r
    obtain ⟨ps, h5, rfl⟩ := Option.map_eq_some_iff.mp (show (toPys ds).map PyData.tuple = some p from e)
    exact .tup (SqT.of h3) (Rs.dp ds vs ps h4 h5)
  | .ty _, _, _, _, e => by simp [toPy] at e
  | .cst _, _, _, _, e => by simp [toPy] at e
  | .loc _, _, _, _, e => by simp [toPy] at e
  | .scr _, _, _, _, e => by simp [toPy] at e
  | .dk _, _, _, _, e => by simp [toPy] at e
  | .dt _, _, _, _, e => by simp [toPy] at e
  | .ktp ds, v, p, r, e => by
    obtain ⟨a, vs, rfl, h3, h4⟩ := r
    obtain ⟨ps, h5, rfl⟩ := Option.map_eq_some_iff.mp (show (toPys ds).map PyData.tuple = some p from e)
    exact .tup h3.to (Rs.dp ds vs ps h4 h5)
  | .obj _ _, _, _, _, e => by simp [toPy] at e
theorem Rs.dp : ∀ (ds : List D) (vs : List V) (ps : List PyData), Rs K M mu H ds vs → toPys ds = some ps → DpAll K H vs ps
  | [], vs, ps, r, e => by obtain rfl : vs = [] := r; obtain rfl : ([] : List PyData) = ps := Option.some.inj e; exact .nil
  | d :: ds, vs, ps, r, e => by
    obtain ⟨v, rr, rfl, h1, h2⟩ := r
    have e' : (match toPy d, toPys ds with
      | some p, some ps => some (p :: ps)
      | _, _ => none) = some ps := by rw [← e]; rfl
    cases e1 : toPy d with
    | none => rw [e1] at e'; cases e'
    | some p =>
      cases e2 : toPys ds with
      | none => rw [e1, e2] at e'; cases e'
      | some qs =>
        rw [e1, e2] at e'
        obtain rfl : p :: qs = ps := Option.some.inj e'
        exact .cons (R.dp d v p h1 e1) (Rs.dp ds rr qs h2 e2)
end
theorem val_dp (w : Wok K M mu H S) {x : D} {v : V} {p : PyData} (r : R K M mu H x v) (e : toPy (val S x) = some p) : Dp K H v p := by
  cases x with
  | loc i =>
    obtain ⟨a, rfl, h2⟩ := r
    cases q : val S (.loc i) with
    | lst ds =>
      rw [q] at e
      obtain ⟨vs, h3, h4⟩ : Cl K M mu H (.lst ds) a := w.at_ i a _ h2 (val_loc q (by simp))
      obtain ⟨ps, h5, rfl⟩ := Option.map_eq_some_iff.mp (show (toPys ds).map PyData.list = some p from e)
      exact .lst (SqL.of h3) (Rs.dp ds vs ps h4 h5)
    | loc _ => rw [q] at e; simp [toPy] at e
    | dk _ => rw [q] at e; simp [toPy] at e
    | dt _ => rw [q] at e; simp [toPy] at e
    | ktp _ => exact (show False from w.at_ i a _ h2 (val_loc q (by simp))).elim
    | obj _ _ => rw [q] at e; simp [toPy] at e
    | tb _ _ => rw [q] at e; simp [toPy] at e
    | ty _ => rw [q] at e; simp [toPy] at e
    | cst _ => rw [q] at e; simp [toPy] at e
    | scr _ => rw [q] at e; simp [toPy] at e
    | non => exact absurd q val_ne_non
    | _ => exact (show False from w.at_ i a _ h2 (val_loc q (by simp))).elim
  | _ => exact R.dp _ v p r e
/-! ### equality -/
def scalD : D → D → Option Bool
  | .non, .non => some true
  | .int i, .int j => some (decide (i = j))
  | .str i, .str j => some (decide (i = j))
  | .bl i, .bl j => some (decide (i = j))
  | .non, .int _ => some false | .int _, .non => some false | .non, .bl _ => some false | .bl _, .non => some false | .non, .str _ => some false | .str _, .non => some false
  | .int _, .str _ => some false | .str _, .int _ => some false | .bl _, .str _ => some false | .str _, .bl _ => some false
  | _, _ => none
theorem scalD_ok {x y : D} {v u : V} {b : Bool} (rx : R K M mu H x v) (ry : R K M mu H y u) (e : scalD x y = some b) : scal v u = true ∧ decide (v = u) = b := by
  cases x with
  | non =>
    obtain rfl : v = .non := rx
    cases y with
    | non => obtain rfl : u = .non := ry; cases e; exact ⟨rfl, by simp⟩
    | int j => obtain rfl : u = .int j := ry; cases e; exact ⟨rfl, by simp⟩
    | bl j => obtain rfl : u = .bl j := ry; cases e; exact ⟨rfl, by simp⟩
    | str j => obtain rfl : u = .str j := ry; cases e; exact ⟨rfl, by simp⟩
    | _ => cases e
  | int i =>
    obtain rfl : v = .int i := rx
    cases y with
    | non => obtain rfl : u = .non := ry; cases e; exact ⟨rfl, by simp⟩
    | int j => obtain rfl : u = .int j := ry; cases e; exact ⟨rfl, by simp⟩
    | str j => obtain rfl : u = .str j := ry; cases e; exact ⟨rfl, by simp⟩
    | _ => cases e
  | bl i =>
    obtain rfl : v = .bl i := rx
    cases y with
    | non => obtain rfl : u = .non := ry; cases e; exact ⟨rfl, by simp⟩
    | bl j => obtain rfl : u = .bl j := ry; cases e; exact ⟨rfl, by simp⟩
    | str j => obtain rfl : u = .str j := ry; cases e; exact ⟨rfl, by simp⟩
    | _ => cases e
  | str i =>
    obtain rfl : v = .str i := rx
    cases y with
    | non => obtain rfl : u = .non := ry; cases e; exact ⟨rfl, by simp⟩
    | int j => obtain rfl : u = .int j := ry; cases e; exact ⟨rfl, by simp⟩
    | bl j => obtain rfl : u = .bl j := ry; cases e; exact ⟨rfl, by simp⟩
    | str j => obtain rfl : u = .str j := ry; cases e; exact ⟨rfl, by simp⟩
    | _ => cases e
  | _ => cases y <;> cases e
def eqD (neg : Bool) : DF2 := fun x y S P => match scalD x y with
  | some b => P (.bl (if neg then !b else b)) S
  | none => match toPy (val S x), toPy (val S y) with
    | some p, some q => SeqAt.shaped p = true ∧ SeqAt.shaped q = true ∧ P (.bl (if neg then !PyData.eqv p q else PyData.eqv p q)) S
    | _, _ => False
theorem opd_eq : OpD K (fun x y H Q => rEq x y H Q ∨ rEqD K x y H Q) (eqD false) := by
  intro M mu H S x y v u P Q ok rx ry h n
  unfold eqD at h
  cases e0 : scalD x y with
  | some b =>
    rw [e0] at h
    obtain ⟨h1, h2⟩ := scalD_ok rx ry e0
    exact .inl ⟨h1, by rw [h2]; exact n _ H (.bl b) S (.refl _ _) ok rfl h⟩
  | none =>
    rw [e0] at h
    cases e1 : toPy (val S x) with
    | none => simp only [e1] at h
    | some p =>
      cases e2 : toPy (val S y) with
      | none => simp only [e1, e2] at h
      | some q =>
        simp only [e1, e2] at h
        exact .inr ⟨p, q, val_dp ok rx e1, val_dp ok ry e2, h.1, h.2.1, n _ H (.bl (PyData.eqv p q)) S (.refl _ _) ok rfl h.2.2⟩
theorem opd_ne : OpD K (fun x y H Q => rNe x y H Q ∨ rNeD K x y H Q) (eqD true) := by
  intro M mu H S x y v u P Q ok rx ry h n
  unfold eqD at h
  cases e0 : scalD x y with
  | some b =>
    rw [e0] at h
    obtain ⟨h1, h2⟩ := scalD_ok rx ry e0
    exact .inl ⟨h1, by rw [h2]; exact n _ H (.bl (!b)) S (.refl _ _) ok rfl h⟩
  | none =>
    rw [e0] at h
    cases e1 : toPy (val S x) with
    | none => simp only [e1] at h
    | some p =>
      cases e2 : toPy (val S y) with
      | none => simp only [e1, e2] at h
      | some q =>
        simp only [e1, e2] at h
        exact .inr ⟨p, q, val_dp ok rx e1, val_dp ok ry e2, h.1, h.2.1, n _ H (.bl (!PyData.eqv p q)) S (.refl _ _) ok rfl h.2.2⟩
/-! ### in -/
def toV : D → Option V
  | .non => some .non
  | .bl b => some (.bl b)
  | .int i => some (.int i)
  | .str s => some (.str s)
  | _ => none
theorem toV_ok {d : D} {v u : V} (r : R K M mu H d v) (e : toV d = some u) : v = u ∧ flatV u = true := by
  cases d with
  | non => obtain rfl : V.non = u := Option.some.inj e; exact ⟨r, rfl⟩
  | bl _ => obtain rfl : V.bl _ = u := Option.some.inj e; exact ⟨r, rfl⟩
  | int _ => obtain rfl : V.int _ = u := Option.some.inj e; exact ⟨r, rfl⟩
  | str _ => obtain rfl : V.str _ = u := Option.some.inj e; exact ⟨r, rfl⟩
  | _ => exact absurd e (by simp [toV])
def toVs : List D → Option (List V)
  | [] => some []
  | d :: ds => match toV d, toVs ds with
    | some v, some vs => some (v :: vs)
    | _, _ => none
theorem toVs_ok : ∀ {ds : List D} {vs us : List V}, Rs K M mu H ds vs → toVs ds = some us → vs = us ∧ us.all flatV = true
  | [], vs, us, r, e => by obtain rfl : vs = [] := r; obtain rfl : ([] : List V) = us := Option.some.inj e; exact ⟨rfl, rfl⟩
  | d :: ds, vs, us, r, e => by
    obtain ⟨v, rr, rfl, h1, h2⟩ := r
    have e' : (match toV d, toVs ds with
      | some v, some vs => some (v :: vs)
      | _, _ => none) = some us := by rw [← e]; rfl
    cases e1 : toV d with
    | none => rw [e1] at e'; cases e'
    | some p =>
      cases e2 : toVs ds with
      | none => rw [e1, e2] at e'; cases e'
      | some qs =>
        rw [e1, e2] at e'
        obtain rfl : p :: qs = us := Option.some.inj e'
        obtain ⟨a1, a2⟩ := toV_ok h1 e1
        obtain ⟨b1, b2⟩ := toVs_ok h2 e2
        exact ⟨by rw [a1, b1], by rw [List.all_cons, a2, b2]; rfl⟩
def inD (neg : Bool) : DF2 := fun x y S P => match toV x, val S y with
  | some v, .lst ds => (match toVs ds with
    | some vs => P (.bl (if neg then !inV v vs else inV v vs)) S
    | none => False)
  | some v, .tup ds => (match toVs ds with
    | some vs => P (.bl (if neg then !inV v vs else inV v vs)) S
    | none => False)
  | _, _ => False
theorem opd_in {neg : Bool} : OpD K (rIn K neg) (inD neg) := by
  intro M mu H S x y v u P Q ok rx ry h n
  unfold inD at h
  cases e1 : toV x with
  | none => rw [e1] at h; exact h.elim
  | some x' =>
    rw [e1] at h
    obtain ⟨rfl, fx⟩ := toV_ok rx e1
    cases e2 : val S y with
    | lst ds =>
      rw [e2] at h
      obtain ⟨a, vs, rfl, ha, ra⟩ := seq_lst ok ry e2
      cases e3 : toVs ds with
      | none => simp only [e3] at h
      | some us =>
        simp only [e3] at h
        obtain ⟨rfl, fs⟩ := toVs_ok ra e3
        exact ⟨a, _, rfl, .inl (SqL.of ha), fx, fs, n _ H (.bl _) S (.refl _ _) ok rfl h⟩
    | tup ds =>
      rw [e2] at h
      obtain ⟨a, vs, rfl, ha, ra⟩ := seq_tup ok ry e2
      cases e3 : toVs ds with
      | none => simp only [e3] at h
      | some us =>
        simp only [e3] at h
        obtain ⟨rfl, fs⟩ := toVs_ok ra e3
        exact ⟨a, _, rfl, .inr ha, fx, fs, n _ H (.bl _) S (.refl _ _) ok rfl h⟩
    | _ => rw [e2] at h; exact h.elim
/-! ### is None -/
def isNonD : D → Bool
  | .non => true
  | _ => false
theorem isNon_ok {d : D} {v : V} (r : R K M mu H d v) : decide (v = .non) = isNonD d := by
  cases d with
  | non => obtain rfl : v = .non := r; rfl
  | bl _ => obtain rfl : v = .bl _ := r; rfl
  | int _ => obtain rfl : v = .int _ := r; rfl
  | str _ => obtain rfl : v = .str _ := r; rfl
  | ty _ => obtain rfl : v = .ty _ := r; rfl
  | cst _ => obtain rfl : v = .ref _ := r; rfl
  | loc _ => obtain ⟨a, rfl, _⟩ := r; rfl
  | scr _ => obtain ⟨a, rfl, _⟩ := r; rfl
  | lst _ => obtain ⟨a, vs, rfl, _⟩ := r; rfl
  | tup _ => obtain ⟨a, vs, rfl, _⟩ := r; rfl
  | dk _ => obtain ⟨a, od, es, rfl, _⟩ := r; rfl
  | dt _ => obtain ⟨a, od, es, rfl, _⟩ := r; rfl
  | ktp _ => obtain ⟨a, es, rfl, _⟩ := r; rfl
  | obj _ _ => obtain ⟨a, dx, gs, rfl, _⟩ := r; rfl
  | tb _ _ => exact r.elim
  | exn _ _ => obtain ⟨a, dx, gs, rfl, _⟩ := r; rfl
  | fn _ _ _ => obtain ⟨f, dV, vals, rfl, _⟩ := r; rfl
def isD (neg : Bool) : DF2 := fun x y S P => match y with
  | .non => P (.bl (if neg then !isNonD x else isNonD x)) S
  | _ => False
theorem opd_is : OpD K (fun x y H Q => y = .non ∧ Q (.bl (decide (x = .non))) H) (isD false) := by
  intro M mu H S x y v u P Q ok rx ry h n
  cases y with
  | non => exact ⟨ry, n _ H (.bl (isNonD x)) S (.refl _ _) ok (by rw [isNon_ok rx]; rfl) h⟩
  | _ => exact h.elim
theorem opd_isnot : OpD K (fun x y H Q => y = .non ∧ Q (.bl (!decide (x = .non))) H) (isD true) := by
  intro M mu H S x y v u P Q ok rx ry h n
  cases y with
  | non => exact ⟨ry, n _ H (.bl (!isNonD x)) S (.refl _ _) ok (by rw [isNon_ok rx]; rfl) h⟩
  | _ => exact h.elim
/-! ### subscripts, slices -/
def ixD : DF2 := fun x y S P => match val S x, y with
  | .lst ds, .int i => (match atI ds i with
    | some d => P d S
    | none => False)
  | .tup ds, .int i => (match atI ds i with
    | some d => P d S
    | none => False)
  | .str s, .int i => s.length ≤ 1000000 ∧ (match atI s.cps.toList i with
    | some c => P (.str ⟨#[c]⟩) S
    | none => False)
  | _, _ => False
theorem Rs.at_ {ds : List D} {vs : List V} (r : Rs K M mu H ds vs) {i : Int} {d : D} (h : atI ds i = some d) : ∃ v, atI vs i = some v ∧ R K M mu H d v := by
  unfold atI at h ⊢
  rw [← r.len]
  cases e : ixN ds.length i with
  | none => rw [e] at h; cases h
  | some j => rw [e] at h; exact r.get (i := j) h
theorem opd_ix : OpD K (rIx K) ixD := by
  intro M mu H S x y v u P Q ok rx ry h n
  unfold ixD at h
  cases y with
  | int i =>
    cases e1 : val S x with
    | lst ds =>
      simp only [e1] at h
      obtain ⟨a, vs, rfl, ha, ra⟩ := seq_lst ok rx e1
      cases e2 : atI ds i with
      | none => simp only [e2] at h
      | some d =>
        simp only [e2] at h
        obtain ⟨w, h1, h2⟩ := ra.at_ e2
        exact .inl ⟨a, vs, i, w, rfl, ry, SqL.of ha, h1, n w H d S (.refl _ _) ok h2 h⟩
    | tup ds =>
      simp only [e1] at h
      obtain ⟨a, vs, rfl, ha, ra⟩ := seq_tup ok rx e1
      cases e2 : atI ds i with
      | none => simp only [e2] at h
      | some d =>
        simp only [e2] at h
        obtain ⟨w, h1, h2⟩ := ra.at_ e2
        exact .inr (.inl ⟨a, vs, i, w, rfl, ry, ha, h1, n w H d S (.refl _ _) ok h2 h⟩)
    | str s =>
      simp only [e1] at h
      cases e2 : atI s.cps.toList i with
      | none => simp only [e2] at h; exact h.2.elim
      | some c =>
        simp only [e2] at h
        exact .inr (.inr ⟨s, i, c, val_str ok rx e1, ry, line_of h.1, e2, n _ H (.str ⟨#[c]⟩) S (.refl _ _) ok rfl h.2⟩)
    | _ => simp only [e1] at h
  | _ => cases e1 : val S x <;> simp only [e1] at h
end
section
variable {X : Cx} {W : WX} {e a b c : Expr} {es rest : List Expr} {wa wb wc : DW} {w : DWA} {ta tb tc : DWT} {pos : Pos}
theorem de_ix (ha : DE X W a wa) (hb : DE X W b wb) (hs : PlainIx b := by exact fun _ _ => rfl) : DE X W (.Subscript a b pos) (wOp ixD wa wb) := by
  obtain ⟨_, pa, ra⟩ := ha.ex
  obtain ⟨_, pb, rb⟩ := hb.ex
  exact ⟨_, pe_ix ix_seq pa pb hs, rd_op opd_ix ra rb⟩
theorem de_eq (hu : X.A.units + 64 < cLine) (ha : DE X W a wa) (hb : DE X W b wb) : DE X W (.Compare a [.Eq] [b] pos) (wOp (eqD false) wa wb) := de_cmp (OpR.or op_eq (op_eqD hu)) opd_eq ha hb
theorem de_ne (hu : X.A.units + 64 < cLine) (ha : DE X W a wa) (hb : DE X W b wb) : DE X W (.Compare a [.NotEq] [b] pos) (wOp (eqD true) wa wb) := de_cmp (OpR.or op_ne (op_neD hu)) opd_ne ha hb
theorem dt_eq (hu : X.A.units + 64 < cLine) (ha : DE X W a wa) (hb : DE X W b wb) : DT X W (.Compare a [.Eq] [b] pos) (wB (wOp (eqD false) wa wb)) := dt_cmp (OpR.or op_eq (op_eqD hu)) opd_eq ha hb
theorem dt_ne (hu : X.A.units + 64 < cLine) (ha : DE X W a wa) (hb : DE X W b wb) : DT X W (.Compare a [.NotEq] [b] pos) (wB (wOp (eqD true) wa wb)) := dt_cmp (OpR.or op_ne (op_neD hu)) opd_ne ha hb
/-! ### slices -/
abbrev DWO := Loc → Sto → (Option Int → Sto → Prop) → Ex → Prop
structure DO (X : Cx) (W : WX) (e : Option Expr) (w : DWO) : Prop where
  ex : ∃ t, PO X e t ∧ ∀ (M : Addr → Prop) (mu : List Addr) (σ : L2.St) (ρ : Loc) (S : Sto) (H : Hp) (P : Option Int → Sto → Prop) (E : Ex) (Q : Option Int → Hp → Prop), Wok X.K M mu H S → Env X.K M mu H ρ σ → w ρ S P E →
    (∀ o H' S', Keep mu H H' → Wok X.K M mu H' S' → P o S' → Q o H') → Exc X.K M mu H E (fun C d H' => W C d σ H') → t σ H Q
def wNoPart : DWO := fun _ S P _ => P none S
def wPart (w : DW) : DWO := fun ρ S P E => w ρ S (fun x S1 => match x with
  | .int i => P (some i) S1
  | _ => False) E
theorem do_none : DO X W none wNoPart := ⟨_, po_none, fun M mu σ ρ S H P E Q ok en hw n x => n none H S (.refl _ _) ok hw⟩
theorem do_some (h : DE X W e wa) : DO X W (some e) (wPart wa) := by
  obtain ⟨_, pa, ra⟩ := h.ex
  refine ⟨_, po_some pa, fun M mu σ ρ S H P E Q ok en hw n x => ?_⟩
  refine ra.run M mu σ ρ S H _ E _ ok en hw (fun v H1 d S1 k1 ok1 r1 h1 => ?_) x
  cases d with
  | int i => exact ⟨i, r1, n _ H1 S1 k1 ok1 h1⟩
  | _ => exact h1.elim
def cutD (ds : List D) (lo hi : Option Int) : List D := (ds.drop (HT.sIx ds.length 0 lo)).take (HT.sIx ds.length ds.length hi - HT.sIx ds.length 0 lo)
def sliceD (x : D) (lo hi : Option Int) (S : Sto) (P : DK) : Prop := match val S x with
  | .lst ds => P (.lst (cutD ds lo hi)) S
  | .tup ds => isK x = false ∧ P (.tup (cutD ds lo hi)) S
  | .str s => s.length ≤ 1000000 ∧ P (.str (cutS s lo hi)) S
  | .scr ns => P (.lst (cutD (ns.map D.int) lo hi)) S
  | _ => False
def wSl (wa : DW) (wl wh : DWO) : DW := fun ρ S P E => wa ρ S (fun x S1 => wl ρ S1 (fun l S2 => wh ρ S2 (fun u S3 => sliceD x l u S3 P) E) E) E
theorem Rs.cut {K : PySem.W.Frag} {M : Addr → Prop} {mu : List Addr} {H : Hp} {ds : List D} {vs : List V} (r : Rs K M mu H ds vs) (lo hi : Option Int) : Rs K M mu H (cutD ds lo hi) (cutV vs lo hi) := by
  unfold cutD cutV
  rw [← r.len]
  exact (r.drop _).take _
theorem rs_ints {K : PySem.W.Frag} {M : Addr → Prop} {mu : List Addr} {H : Hp} : ∀ ns : List Int, Rs K M mu H (ns.map D.int) (ns.map V.int)
  | [] => rfl
  | n :: ns => ⟨_, _, rfl, rfl, rs_ints ns⟩
theorem seq_scr {K : PySem.W.Frag} {M : Addr → Prop} {mu : List Addr} {H : Hp} {S : Sto} (w : Wok K M mu H S) {x : D} {v : V} {ns : List Int} (r : R K M mu H x v) (e : val S x = .scr ns) : ∃ a, v = .ref a ∧ SqL K H a (ns.map V.int) := by
  cases x with
  | loc i =>
    obtain ⟨a, h1, h2⟩ := r
    exact (show False from w.at_ i a _ h2 (val_loc e (by simp))).elim
  | scr ms =>
    obtain rfl : ms = ns := by simpa [val] using e
    obtain ⟨a, h1, h2⟩ := r
    exact ⟨a, h1, h2.elim (fun ⟨_, q⟩ => .inl q) fun q => .inr q⟩
  | _ => simp [val] at e
theorem de_slice {l u : Option Expr} {wl wu : DWO} {p2 : Pos} (ha : DE X W a wa) (hl : DO X W l wl) (hu : DO X W u wu) : DE X W (.Subscript a (.Slice l u none p2) pos) (wSl wa wl wu) := by
  obtain ⟨_, pa, ra⟩ := ha.ex
  obtain ⟨_, pl, rl⟩ := hl.ex
  obtain ⟨_, pu, ru⟩ := hu.ex
  refine ⟨_, pe_slice (SlR.or sl_list (SlR.or sl_tupA sl_str)) pa pl pu, ⟨fun M mu σ ρ S H P E Q ok en hw n x => ?_⟩⟩
  refine ra.run M mu σ ρ S H _ E _ ok en hw (fun v H1 d S1 k1 ok1 r1 h1 => ?_) x
  refine rl M mu σ ρ S1 H1 _ E _ ok1 (en.keep ok k1) h1 (fun lo H2 S2 k2 ok2 h2 => ?_) (x.mono k1)
  refine ru M mu σ ρ S2 H2 _ E _ ok2 ((en.keep ok k1).keep ok1 k2) h2 (fun hi H3 S3 k3 ok3 h3 => ?_) (x.mono (k1.trans k2))
  have r3 := r1.keep ok1 (k2.trans k3)
  have kk := k1.trans (k2.trans k3)
  unfold sliceD at h3
  cases e1 : val S3 d with
  | lst ds =>
    simp only [e1] at h3
    obtain ⟨p, vs, rfl, hp, rp⟩ := seq_lst ok3 r3 e1
    refine .inl ⟨p, vs, rfl, SqL.of hp, fun q hq => ?_⟩
    obtain ⟨ok4, k4, _⟩ := ok3.alloc hq (.lst (cutV vs lo hi))
    exact n _ _ _ S3 (kk.trans k4) ok4 (newL ok3 hq (rp.cut lo hi)) h3
  | tup ds =>
    simp only [e1] at h3
    obtain ⟨p, vs, rfl, hp, rp⟩ := seq_tup ok3 r3 e1
    refine .inr (.inl ⟨p, vs, rfl, hp, fun q => ?_, fun _ q hq => ?_⟩)
    · have ec : cutD ds lo hi = ds := by
        unfold cutD
        rw [rp.len, q.1, q.2, List.drop_zero, Nat.sub_zero, ← rp.len, List.take_length]
      rw [ec] at h3
      have rr : R X.K M mu H3 (.tup ds) (.ref p) := by
        cases d with
        | ktp _ => cases h3.1
        | tup l =>
          obtain rfl : l = ds := by simpa [val] using e1
          exact r3
        | loc j =>
          obtain ⟨a, h1, h2⟩ := r3
          exact (show False from ok3.at_ j a _ h2 (val_loc e1 (by simp))).elim
        | _ => simp [val] at e1
      exact n _ H3 _ S3 kk ok3 rr h3.2
    · obtain ⟨ok4, k4, _⟩ := ok3.alloc hq (.tup (cutV vs lo hi))
      exact n _ _ _ S3 (kk.trans k4) ok4 (newT ok3 hq (rp.cut lo hi)) h3.2
  | str s =>
    simp only [e1] at h3
    exact .inr (.inr ⟨s, val_str ok3 r3 e1, line_of h3.1, n _ H3 (.str _) S3 kk ok3 rfl h3.2⟩)
  | scr ns =>
    simp only [e1] at h3
    obtain ⟨p, rfl, hp⟩ := seq_scr ok3 r3 e1
    refine .inl ⟨p, _, rfl, hp, fun q hq => ?_⟩
    obtain ⟨ok4, k4, _⟩ := ok3.alloc hq (.lst (cutV (ns.map V.int) lo hi))
    exact n _ _ _ S3 (kk.trans k4) ok4 (newL ok3 hq ((rs_ints ns).cut lo hi)) h3
  | _ => simp only [e1] at h3
/-! ### and, or, not, if -/
def wAndT (a b : DWT) : DWT := fun ρ S P E => a ρ S (fun k S1 => if k = true then b ρ S1 P E else P false S1) E
def wOrT (a b : DWT) : DWT := fun ρ S P E => a ρ S (fun k S1 => if k = true then P true S1 else b ρ S1 P E) E
def wNotT (a : DWT) : DWT := fun ρ S P E => a ρ S (fun k S1 => P (!k) S1) E
theorem rd_and {K : PySem.W.Frag} {t1 t2 : TT} (r1 : RdT K W t1 ta) (r2 : RdT K W t2 tb) : RdT K W (tAnd t1 t2) (wAndT ta tb) := by
  refine ⟨fun M mu σ ρ S H P E Q ok en hw n x => ?_⟩
  refine r1.run M mu σ ρ S H _ E _ ok en hw (fun k H1 S1 k1 ok1 h1 => ?_) x
  cases k with
  | true => rw [if_pos rfl] at h1 ⊢; exact r2.run M mu σ ρ S1 H1 P E Q ok1 (en.keep ok k1) h1 (n.mono k1) (x.mono k1)
  | false => rw [if_neg Bool.false_ne_true] at h1 ⊢; exact n _ H1 S1 k1 ok1 h1
theorem rd_or {K : PySem.W.Frag} {t1 t2 : TT} (r1 : RdT K W t1 ta) (r2 : RdT K W t2 tb) : RdT K W (tOr t1 t2) (wOrT ta tb) := by
  refine ⟨fun M mu σ ρ S H P E Q ok en hw n x => ?_⟩
  refine r1.run M mu σ ρ S H _ E _ ok en hw (fun k H1 S1 k1 ok1 h1 => ?_) x
  cases k with
  | false => rw [if_neg Bool.false_ne_true] at h1 ⊢; exact r2.run M mu σ ρ S1 H1 P E Q ok1 (en.keep ok k1) h1 (n.mono k1) (x.mono k1)
  | true => rw [if_pos rfl] at h1 ⊢; exact n _ H1 S1 k1 ok1 h1
theorem dw_and1 (h : DT X W a ta) : DTW X W (.BoolOp .And [a] pos) ta := let ⟨_, p, r⟩ := h.ex; ⟨_, pw_and1 p, r⟩
theorem dw_or1 (h : DT X W a ta) : DTW X W (.BoolOp .Or [a] pos) ta := let ⟨_, p, r⟩ := h.ex; ⟨_, pw_or1 p, r⟩
theorem dw_and (h : DT X W a ta) (h2 : DTW X W (.BoolOp .And (b :: rest) pos) tb) : DTW X W (.BoolOp .And (a :: b :: rest) pos) (wAndT ta tb) :=
  let ⟨_, p, r⟩ := h.ex; let ⟨_, p2, r2⟩ := h2.ex; ⟨_, pw_and p p2, rd_and r r2⟩
theorem dw_or (h : DT X W a ta) (h2 : DTW X W (.BoolOp .Or (b :: rest) pos) tb) : DTW X W (.BoolOp .Or (a :: b :: rest) pos) (wOrT ta tb) :=
  let ⟨_, p, r⟩ := h.ex; let ⟨_, p2, r2⟩ := h2.ex; ⟨_, pw_or p p2, rd_or r r2⟩
theorem dt_w (h : DTW X W a ta) : DT X W a ta := let ⟨_, p, r⟩ := h.ex; ⟨_, p.pt, r⟩
theorem dt_not (h : DT X W a ta) : DT X W (.UnaryOp .Not a pos) (wNotT ta) := by
  obtain ⟨_, p, r⟩ := h.ex
  exact ⟨_, pt_not p, ⟨fun M mu σ ρ S H P E Q ok en hw n x => r.run M mu σ ρ S H _ E _ ok en hw (fun k H1 S1 k1 ok1 h1 => n _ H1 S1 k1 ok1 h1) x⟩⟩
def wAndV (a b : DW) : DW := fun ρ S P E => a ρ S (fun x S1 => match x with
  | .bl k => if k = true then b ρ S1 P E else P (.bl false) S1
  | _ => False) E
def wOrV (a b : DW) : DW := fun ρ S P E => a ρ S (fun x S1 => match x with
  | .bl k => if k = true then P (.bl true) S1 else b ρ S1 P E
  | _ => False) E
def notD (x : D) (S : Sto) (P : DK) : Prop := match x with
  | .bl k => P (.bl (!k)) S
  | _ => False
theorem de_one {op} (h : DE X W a wa) : DE X W (.BoolOp op [a] pos) wa := let ⟨_, p, r⟩ := h.ex; ⟨_, pe_one p, r⟩
theorem de_and (h : DE X W a wa) (h2 : DE X W (.BoolOp .And (b :: rest) pos) wb) : DE X W (.BoolOp .And (a :: b :: rest) pos) (wAndV wa wb) := by
  obtain ⟨_, p, r⟩ := h.ex
  obtain ⟨_, p2, r2⟩ := h2.ex
  refine ⟨_, pe_and p p2, ⟨fun M mu σ ρ S H P E Q ok en hw n x => ?_⟩⟩
  refine r.run M mu σ ρ S H _ E _ ok en hw (fun v H1 d S1 k1 ok1 r1 h1 => ?_) x
  cases d with
  | bl k =>
    refine ⟨k, r1, ?_⟩
    cases k with
    | true => rw [if_pos rfl]; exact r2.run M mu σ ρ S1 H1 P E Q ok1 (en.keep ok k1) h1 (n.mono k1) (x.mono k1)
    | false => rw [if_neg Bool.false_ne_true]; exact n _ H1 (.bl false) S1 k1 ok1 rfl h1
  | _ => exact h1.elim
theorem de_or (h : DE X W a wa) (h2 : DE X W (.BoolOp .Or (b :: rest) pos) wb) : DE X W (.BoolOp .Or (a :: b :: rest) pos) (wOrV wa wb) := by
  obtain ⟨_, p, r⟩ := h.ex
  obtain ⟨_, p2, r2⟩ := h2.ex
  refine ⟨_, pe_or p p2, ⟨fun M mu σ ρ S H P E Q ok en hw n x => ?_⟩⟩
  refine r.run M mu σ ρ S H _ E _ ok en hw (fun v H1 d S1 k1 ok1 r1 h1 => ?_) x
  cases d with
  | bl k =>
    refine ⟨k, r1, ?_⟩
    cases k with
    | false => rw [if_neg Bool.false_ne_true]; exact r2.run M mu σ ρ S1 H1 P E Q ok1 (en.keep ok k1) h1 (n.mono k1) (x.mono k1)
    | true => rw [if_pos rfl]; exact n _ H1 (.bl true) S1 k1 ok1 rfl h1
  | _ => exact h1.elim
theorem de_not (h : DE X W a wa) : DE X W (.UnaryOp .Not a pos) (wUn notD wa) := by
  obtain ⟨_, p, r⟩ := h.ex
  refine ⟨_, pe_not p, ⟨fun M mu σ ρ S H P E Q ok en hw n x => ?_⟩⟩
  refine r.run M mu σ ρ S H _ E _ ok en hw (fun v H1 d S1 k1 ok1 r1 h1 => ?_) x
  cases d with
  | bl k => exact ⟨k, r1, n _ H1 (.bl (!k)) S1 k1 ok1 rfl h1⟩
  | _ => exact h1.elim
def wIf (t : DWT) (a b : DW) : DW := fun ρ S P E => t ρ S (fun k S1 => if k = true then a ρ S1 P E else b ρ S1 P E) E
theorem de_if (ht : DT X W c tc) (ha : DE X W a wa) (hb : DE X W b wb) : DE X W (.IfExp c a b pos) (wIf tc wa wb) := by
  obtain ⟨_, p, r⟩ := ht.ex
  obtain ⟨_, p1, r1⟩ := ha.ex
  obtain ⟨_, p2, r2⟩ := hb.ex
  refine ⟨_, pe_ifExp p p1 p2, ⟨fun M mu σ ρ S H P E Q ok en hw n x => ?_⟩⟩
  refine r.run M mu σ ρ S H _ E _ ok en hw (fun k H1 S1 k1 ok1 h1 => ?_) x
  cases k with
  | true => rw [if_pos rfl] at h1 ⊢; exact r1.run M mu σ ρ S1 H1 P E Q ok1 (en.keep ok k1) h1 (n.mono k1) (x.mono k1)
  | false => rw [if_neg Bool.false_ne_true] at h1 ⊢; exact r2.run M mu σ ρ S1 H1 P E Q ok1 (en.keep ok k1) h1 (n.mono k1) (x.mono k1)
/-! ### truth -/
def truD (x : D) (S : Sto) (P : Bool → Sto → Prop) : Prop := match val S x with
  | .non => P false S
  | .bl k => P k S
  | .int i => P (i != 0) S
  | .str s => s.length ≤ 1000000 ∧ P ((s.length : Int) != 0) S
  | .lst ds => P (!ds.isEmpty) S
  | .tup ds => P (!ds.isEmpty) S
  | _ => False
def wTru (w : DW) : DWT := fun ρ S P E => w ρ S (fun x S1 => truD x S1 P) E
theorem Rs.emp {K : PySem.W.Frag} {M : Addr → Prop} {mu : List Addr} {H : Hp} {ds : List D} {vs : List V} (r : Rs K M mu H ds vs) : vs.isEmpty = ds.isEmpty := by
  have := r.len
  cases ds <;> cases vs <;> simp_all
theorem val_non {K : PySem.W.Frag} {M : Addr → Prop} {mu : List Addr} {H : Hp} {S : Sto} {x : D} {v : V} (r : R K M mu H x v) (e : val S x = .non) : v = .non := by
  cases x with
  | loc j => exact absurd e val_ne_non
  | non => exact r
  | _ => simp [val] at e
theorem val_bl {K : PySem.W.Frag} {M : Addr → Prop} {mu : List Addr} {H : Hp} {S : Sto} (w : Wok K M mu H S) {x : D} {v : V} {i : Bool} (r : R K M mu H x v) (e : val S x = .bl i) : v = .bl i := by
  cases x with
  | loc j =>
    obtain ⟨a, h1, h2⟩ := r
    exact (show False from w.at_ j a _ h2 (val_loc e (by simp))).elim
  | bl j =>
    have e' : j = i := by simpa [val] using e
    subst e'
    exact r
  | _ => simp [val] at e
theorem dt_tru (h : DE X W a wa) (he : ∀ whole, isTrue a X.env whole = (do let v ← whole; standAt a.pos; holding [v] (truthy v)) := by intro _; rfl) : DT X W a (wTru wa) := by
  obtain ⟨_, p, r⟩ := h.ex
  refine ⟨_, pt_truth p he, ⟨fun M mu σ ρ S H P E Q ok en hw n x => ?_⟩⟩
  refine r.run M mu σ ρ S H _ E _ ok en hw (fun v H1 d S1 k1 ok1 r1 h1 => ?_) x
  unfold truD at h1
  cases e1 : val S1 d with
  | non => simp only [e1] at h1; obtain rfl := val_non r1 e1; exact ⟨false, rfl, n _ H1 S1 k1 ok1 h1⟩
  | bl k => simp only [e1] at h1; obtain rfl := val_bl ok1 r1 e1; exact ⟨k, rfl, n _ H1 S1 k1 ok1 h1⟩
  | int i => simp only [e1] at h1; obtain rfl := val_int ok1 r1 e1; exact ⟨_, rfl, n _ H1 S1 k1 ok1 h1⟩
  | str s => simp only [e1] at h1; obtain rfl := val_str ok1 r1 e1; exact ⟨_, ⟨line_of h1.1, rfl⟩, n _ H1 S1 k1 ok1 h1.2⟩
  | lst ds => simp only [e1] at h1; obtain ⟨q, vs, rfl, hp, rp⟩ := seq_lst ok1 r1 e1; exact ⟨_, .inl ⟨vs, SqL.of hp, by rw [rp.emp]⟩, n _ H1 S1 k1 ok1 h1⟩
  | tup ds => simp only [e1] at h1; obtain ⟨q, vs, rfl, hp, rp⟩ := seq_tup ok1 r1 e1; exact ⟨_, .inr (.inl ⟨vs, hp, by rw [rp.emp]⟩), n _ H1 S1 k1 ok1 h1⟩
  | _ => simp only [e1] at h1
end
end DL
set_option maxRecDepth 100000
set_option maxHeartbeats 2000000
namespace DL
open PySem PySem.Spec PyProof.Rows L2
/-! ### built-ins by their values -/
abbrev DFn := List D → Sto → DK → Prop
def CallD (K : PySem.W.Frag) (r : List V → Hp → VK → Prop) (f : DFn) : Prop := ∀ (M : Addr → Prop) (mu : List Addr) (H : Hp) (S : Sto) (xs : List D) (vs : List V) (P : DK) (Q : VK), Wok K M mu H S → Rs K M mu H xs vs → f xs S P → Nrm K M mu H P Q → r vs H Q
def wCB (f : DFn) (w : DWA) : DW := fun ρ S P E => w ρ S (fun xs S1 => f xs S1 P) E
theorem rd_cb {K : PySem.W.Frag} {W : WX} {r : List V → Hp → VK → Prop} {f : DFn} {t : TA} {w : DWA} (hf : CallD K r f) (ra : RdA K W t w) : Rd K W (tCB r t) (wCB f w) := by
  refine ⟨fun M mu σ ρ S H P E Q ok en hw n x => ?_⟩
  refine ra.run M mu σ ρ S H _ E _ ok en hw (fun vs H1 ds S1 k1 ok1 r1 h1 => ?_) x
  exact hf M mu H1 S1 ds vs P Q ok1 r1 h1 (n.mono k1)
section
variable {X : Cx} {W : WX} {x : Str} {p pos : Pos} {e : Expr} {es : List Expr} {w : DWA} {id T : String} {r : List V → Hp → VK → Prop} {f : DFn}
theorem de_callB (hc : CallR X (.builtin id) r) (hf : CallD X.K r f) (hg : Gl X x) (hm : X.mg x = none) (hv : bootBuiltins x = some (.builtin id)) (ha : DA X W (e :: es) w) (hn : x ≠ "__name__" := by decide) (hdb : (x == ("__debug__" : Str)) = false := by decide)
    (he : starEach (e :: es) X.env = (false, eval e X.env) :: starEach es X.env := by rfl) (hpl : (backTo pos (starEach es X.env)).any (·.1) = false := by rfl) : DE X W (.Call (.Name x p) (e :: es) [] pos) (wCB f w) :=
  let ⟨_, pa, ra⟩ := ha.ex; ⟨_, pe_callB hc hg hm hv pa hn hdb he hpl, rd_cb hf ra⟩
theorem de_callTy (hc : CallR X (.type T) r) (hf : CallD X.K r f) (hg : Gl X x) (hm : X.mg x = none) (hv : bootBuiltins x = some (.type T)) (ha : DA X W (e :: es) w) (hn : x ≠ "__name__" := by decide) (hdb : (x == ("__debug__" : Str)) = false := by decide)
    (he : starEach (e :: es) X.env = (false, eval e X.env) :: starEach es X.env := by rfl) (hpl : (backTo pos (starEach es X.env)).any (·.1) = false := by rfl) : DE X W (.Call (.Name x p) (e :: es) [] pos) (wCB f w) :=
  let ⟨_, pa, ra⟩ := ha.ex; ⟨_, pe_callTy hc hg hm hv pa hn hdb he hpl, rd_cb hf ra⟩
end
section
variable {K : PySem.W.Frag}
/-- len -/
def lenD : DFn := fun xs S P => match xs with
  | [x] => (match val S x with
    | .lst ds => P (.int ds.length) S
    | .tup ds => P (.int ds.length) S
    | .str s => s.length ≤ 1000000 ∧ P (.int s.length) S
    | _ => False)
  | _ => False
theorem Rs.one {M : Addr → Prop} {mu : List Addr} {H : Hp} {d : D} {vs : List V} (r : Rs K M mu H [d] vs) : ∃ v, vs = [v] ∧ R K M mu H d v := by
  obtain ⟨v, r, rfl, h1, h2⟩ := r
  obtain rfl : r = [] := h2
  exact ⟨v, rfl, h1⟩
theorem Rs.two {M : Addr → Prop} {mu : List Addr} {H : Hp} {d e : D} {vs : List V} (r : Rs K M mu H [d, e] vs) : ∃ v u, vs = [v, u] ∧ R K M mu H d v ∧ R K M mu H e u := by
  obtain ⟨v, r, rfl, h1, h2⟩ := r
  obtain ⟨u, rfl, h3⟩ := Rs.one h2
  exact ⟨v, u, rfl, h1, h3⟩
theorem calld_len : CallD K (fun xs H Q => ∃ x n, xs = [x] ∧ LenV K x H n ∧ Q (.int n) H) lenD := by
  intro M mu H S xs vs P Q ok r h n
  match xs, r, h with
  | [x], r, h =>
    obtain ⟨v, rfl, r1⟩ := r.one
    unfold lenD at h
    cases e1 : val S x with
    | lst ds =>
      simp only [e1] at h
      obtain ⟨a, us, rfl, ha, ra⟩ := seq_lst ok r1 e1
      exact ⟨_, us.length, rfl, .inl ⟨us, SqL.of ha, rfl⟩, n _ H (.int ds.length) S (.refl _ _) ok (by rw [ra.len]; rfl) h⟩
    | tup ds =>
      simp only [e1] at h
      obtain ⟨a, us, rfl, ha, ra⟩ := seq_tup ok r1 e1
      exact ⟨_, us.length, rfl, .inr ⟨us, ha, rfl⟩, n _ H (.int ds.length) S (.refl _ _) ok (by rw [ra.len]; rfl) h⟩
    | str s =>
      simp only [e1] at h
      obtain rfl := val_str ok r1 e1
      exact ⟨_, s.length, rfl, ⟨line_of h.1, rfl⟩, n _ H (.int s.length) S (.refl _ _) ok rfl h.2⟩
    | _ => simp only [e1] at h
  | [], _, h => exact h.elim
  | _ :: _ :: _, _, h => exact h.elim
/-- abs -/
def absD : DFn := fun xs S P => match xs with
  | [.int i] => P (.int (if i < 0 then -i else i)) S
  | _ => False
theorem calld_abs : CallD K (fun xs H Q => ∃ i, xs = [V.int i] ∧ Q (.int (if i < 0 then -i else i)) H) absD := by
  intro M mu H S xs vs P Q ok r h n
  unfold absD at h
  split at h
  · rename_i i
    obtain ⟨v, rfl, r1⟩ := r.one
    obtain rfl : v = .int i := r1
    exact ⟨i, rfl, n _ H (.int (if i < 0 then -i else i)) S (.refl _ _) ok rfl h⟩
  · exact h.elim
/-- int -/
def intOfD : DFn := fun xs S P => match xs with
  | [.int i] => P (.int i) S
  | [.bl k] => P (.int (if k then 1 else 0)) S
  | _ => False
theorem calld_int : CallD K (fun xs H Q => (∃ i, xs = [V.int i] ∧ Q (.int i) H) ∨ ∃ k, xs = [V.bl k] ∧ Q (.int (if k then 1 else 0)) H) intOfD := by
  intro M mu H S xs vs P Q ok r h n
  unfold intOfD at h
  split at h
  · rename_i i
    obtain ⟨v, rfl, r1⟩ := r.one
    obtain rfl : v = .int i := r1
    exact .inl ⟨i, rfl, n _ H (.int i) S (.refl _ _) ok rfl h⟩
  · rename_i k
    obtain ⟨v, rfl, r1⟩ := r.one
    obtain rfl : v = .bl k := r1
    exact .inr ⟨k, rfl, n _ H (.int (if k then 1 else 0)) S (.refl _ _) ok rfl h⟩
  · exact h.elim
/-- list(x), tuple(x) of a list or tuple -/
def listD : DFn := fun xs S P => match xs with
  | [x] => (match val S x with
    | .lst ds => P (.lst ds) S
    | .tup ds => P (.lst ds) S
    | _ => False)
  | _ => False
theorem calld_list : CallD K (fun xs H Q => ∃ p ys, xs = [V.ref p] ∧ (SqL K H p ys ∨ SqT K H p ys) ∧ ∀ l, H l = none → Q (.ref l) (upd H l (.lst ys))) listD := by
  intro M mu H S xs vs P Q ok r h n
  match xs, r, h with
  | [x], r, h =>
    obtain ⟨v, rfl, r1⟩ := r.one
    unfold listD at h
    cases e1 : val S x with
    | lst ds =>
      simp only [e1] at h
      obtain ⟨a, us, rfl, ha, ra⟩ := seq_lst ok r1 e1
      refine ⟨a, us, rfl, .inl (SqL.of ha), fun l hl => ?_⟩
      obtain ⟨ok2, k2, _⟩ := ok.alloc hl (.lst us)
      exact n _ _ _ S k2 ok2 (newL ok hl ra) h
    | tup ds =>
      simp only [e1] at h
      obtain ⟨a, us, rfl, ha, ra⟩ := seq_tup ok r1 e1
      refine ⟨a, us, rfl, .inr ha, fun l hl => ?_⟩
      obtain ⟨ok2, k2, _⟩ := ok.alloc hl (.lst us)
      exact n _ _ _ S k2 ok2 (newL ok hl ra) h
    | _ => simp only [e1] at h
  | [], _, h => exact h.elim
  | _ :: _ :: _, _, h => exact h.elim
/-- all, any of bools -/
def blsD : List D → Option (List Bool)
  | [] => some []
  | .bl b :: ds => (blsD ds).map (b :: ·)
  | _ :: _ => none
theorem bls_ok {M : Addr → Prop} {mu : List Addr} {H : Hp} : ∀ {ds : List D} {vs : List V} {bs : List Bool}, Rs K M mu H ds vs → blsD ds = some bs → vs = bs.map V.bl
  | [], vs, bs, r, e => by obtain rfl : vs = [] := r; obtain rfl : ([] : List Bool) = bs := Option.some.inj e; rfl
  | d :: ds, vs, bs, r, e => by
    obtain ⟨v, rr, rfl, h1, h2⟩ := r
    cases d with
    | bl b =>
      obtain ⟨cs, e1, rfl⟩ := Option.map_eq_some_iff.mp (show (blsD ds).map (b :: ·) = some bs from e)
      obtain rfl : v = .bl b := h1
      rw [bls_ok h2 e1]
      rfl
    | _ => simp [blsD] at e
def allD (any : Bool) : DFn := fun xs S P => match xs with
  | [x] => (match val S x with
    | .lst ds => (match blsD ds with
      | some bs => P (.bl (if any then bs.any id else bs.all id)) S
      | none => False)
    | _ => False)
  | _ => False
theorem calld_all : CallD K (rAll K) (allD false) := by
  intro M mu H S xs vs P Q ok r h n
  match xs, r, h with
  | [x], r, h =>
    obtain ⟨v, rfl, r1⟩ := r.one
    unfold allD at h
    cases e1 : val S x with
    | lst ds =>
      simp only [e1] at h
      obtain ⟨a, us, rfl, ha, ra⟩ := seq_lst ok r1 e1
      cases e2 : blsD ds with
      | none => simp only [e2] at h
      | some bs =>
        simp only [e2] at h
        rw [bls_ok ra e2] at ha
        exact ⟨a, bs, rfl, SqL.of ha, n _ H (.bl (bs.all id)) S (.refl _ _) ok rfl h⟩
    | _ => simp only [e1] at h
  | [], _, h => exact h.elim
  | _ :: _ :: _, _, h => exact h.elim
theorem calld_any : CallD K (rAny K) (allD true) := by
  intro M mu H S xs vs P Q ok r h n
  match xs, r, h with
  | [x], r, h =>
    obtain ⟨v, rfl, r1⟩ := r.one
    unfold allD at h
    cases e1 : val S x with
    | lst ds =>
      simp only [e1] at h
      obtain ⟨a, us, rfl, ha, ra⟩ := seq_lst ok r1 e1
      cases e2 : blsD ds with
      | none => simp only [e2] at h
      | some bs =>
        simp only [e2] at h
        rw [bls_ok ra e2] at ha
        exact ⟨a, bs, rfl, SqL.of ha, n _ H (.bl (bs.any id)) S (.refl _ _) ok rfl h⟩
    | _ => simp only [e1] at h
  | [], _, h => exact h.elim
  | _ :: _ :: _, _, h => exact h.elim
/-- isinstance against built-in types -/
def isiN (d : D) (T : String) : Option Bool :=
  if T = "int" then (match d with
    | .int _ | .bl _ => some true
    | .non | .str _ | .lst _ | .tup _ | .dk _ => some false
    | _ => none)
  else if T = "bool" then (match d with
    | .bl _ => some true
    | .non | .int _ | .str _ | .lst _ | .tup _ | .dk _ => some false
    | _ => none)
  else if T = "str" then (match d with
    | .str _ => some true
    | .non | .int _ | .bl _ | .lst _ | .tup _ | .dk _ => some false
    | _ => none)
  else if T = "list" then (match d with
    | .lst _ => some true
    | .non | .int _ | .bl _ | .str _ | .tup _ | .dk _ => some false
    | _ => none)
  else if T = "tuple" then (match d with
    | .tup _ => some true
    | .non | .int _ | .bl _ | .str _ | .lst _ | .dk _ => some false
    | _ => none)
  else none
def tyN : D → Option String
  | .non => some "NoneType" | .bl _ => some "bool" | .int _ => some "int" | .str _ => some "str" | .lst _ => some "list" | .tup _ => some "tuple" | .dk _ => some "dict" | _ => none
theorem ty_of {M : Addr → Prop} {mu : List Addr} {H : Hp} {S : Sto} (ok : Wok K M mu H S) {d : D} {v : V} {n : String} (r : R K M mu H d v)
    (e : tyN (val S d) = some n) : TyX K H v (.type n) := by
  cases e1 : val S d with
  | non => rw [e1] at e; cases e; obtain rfl := val_non r e1; exact .base .non
  | bl b => rw [e1] at e; cases e; obtain rfl := val_bl ok r e1; exact .base (.bl b)
  | int b => rw [e1] at e; cases e; obtain rfl := val_int ok r e1; exact .base (.int b)
  | str b => rw [e1] at e; cases e; obtain rfl := val_str ok r e1; exact .base (.str b)
  | lst ds => rw [e1] at e; cases e; obtain ⟨a, vs, rfl, h, _⟩ := seq_lst ok r e1; exact .base (.lst h)
  | tup ds =>
    rw [e1] at e; cases e
    obtain ⟨a, vs, rfl, h, _⟩ := seq_tup ok r e1
    rcases h with (h | ⟨o, h⟩) | ⟨o, its, m, h1, h2, h3⟩
    · exact .base (.tup h)
    · exact .fTuple h
    · exact .kTuple h1 h2
  | dk ds =>
    rw [e1] at e; cases e
    cases d with
    | loc i =>
      obtain ⟨a, rfl, h2⟩ := r
      obtain ⟨es, q, _⟩ := (show Cl K M mu H (.dk ds) a from ok.at_ i a _ h2 (val_loc e1 (by simp)))
      exact .base (.dK q)
    | dk _ =>
      obtain ⟨a, od, es, rfl, q, _⟩ := r
      exact .fDict q
    | _ => simp [val] at e1
  | _ => rw [e1] at e; cases e
theorem isiN_ok {M : Addr → Prop} {mu : List Addr} {H : Hp} {S : Sto} (ok : Wok K M mu H S) {d : D} {v : V} {T : String} {b : Bool} (r : R K M mu H d v) (e : isiN (val S d) T = some b) : ∃ n, tyN (val S d) = some n ∧ TyX K H v (.type n) ∧ PySem.W.kitOne K (.type n) (.type T) = some b := by
  have go : ∀ n, tyN (val S d) = some n → kitB n T = some b → ∃ n, tyN (val S d) = some n ∧ TyX K H v (.type n) ∧ PySem.W.kitOne K (.type n) (.type T) = some b := fun n h1 h2 => ⟨n, h1, ty_of ok r h1, kit_ty h2⟩
  unfold isiN at e
  split at e
  · rename_i hT; subst hT
    cases q : val S d <;> rw [q] at e go <;> first | (cases e; done) | (cases e; exact go _ rfl (by decide +kernel))
  · split at e
    · rename_i hT; subst hT
      cases q : val S d <;> rw [q] at e go <;> first | (cases e; done) | (cases e; exact go _ rfl (by decide +kernel))
    · split at e
      · rename_i hT; subst hT
        cases q : val S d <;> rw [q] at e go <;> first | (cases e; done) | (cases e; exact go _ rfl (by decide +kernel))
      · split at e
        · rename_i hT; subst hT
          cases q : val S d <;> rw [q] at e go <;> first | (cases e; done) | (cases e; exact go _ rfl (by decide +kernel))
        · split at e
          · rename_i hT; subst hT
            cases q : val S d <;> rw [q] at e go <;> first | (cases e; done) | (cases e; exact go _ rfl (by decide +kernel))
          · cases e
/-- one of two types -/
def isiD : DFn := fun xs S P => match xs with
  | [d, .ty T] => (match isiN (val S d) T with
    | some b => P (.bl b) S
    | none => False)
  | [d, .tup [.ty T, .ty U]] => (match isiN (val S d) T, isiN (val S d) U with
    | some b, some c => P (.bl (b || c)) S
    | _, _ => False)
  | _ => False
theorem calld_isi : CallD K (fun xs H Q => rIsi K xs H Q ∨ (rIsiT K xs H Q ∨ rIsiK K xs H Q)) isiD := by
  intro M mu H S xs vs P Q ok r h n
  unfold isiD at h
  split at h
  · rename_i d T
    obtain ⟨v, u, rfl, r1, r2⟩ := r.two
    obtain rfl : u = .ty T := r2
    cases e : isiN (val S d) T with
    | none => simp only [e] at h
    | some b =>
      simp only [e] at h
      obtain ⟨t, _, h1, h2⟩ := isiN_ok ok r1 e
      exact .inl ⟨v, .ty T, .type t, .type T, b, rfl, .ty T, h1, h2, n _ H (.bl b) S (.refl _ _) ok rfl h⟩
  · rename_i d T U
    obtain ⟨v, u, rfl, r1, a, ws, rfl, hk, hs⟩ := r.two
    obtain ⟨c1, c2, rfl, q1, q2⟩ := Rs.two hs
    obtain rfl : c1 = .ty T := q1
    obtain rfl : c2 = .ty U := q2
    cases e : isiN (val S d) T with
    | none => simp only [e] at h
    | some b =>
      cases e' : isiN (val S d) U with
      | none => simp only [e, e'] at h
      | some c =>
        simp only [e, e'] at h
        obtain ⟨t, h0, h1, h2⟩ := isiN_ok ok r1 e
        obtain ⟨t', h0', h1', h2'⟩ := isiN_ok ok r1 e'
        obtain rfl : t = t' := Option.some.inj (h0.symm.trans h0')
        have ka : PySem.W.kitAny K (.type t) [.type T, .type U] = some (b || c) := by
          refine kitAny_cons h2 (fun hb => ?_) (fun hb => by rw [hb]; rfl)
          subst hb
          exact kitAny_cons h2' (fun hc => by rw [hc]; exact kitAny_nil) (fun hc => by rw [hc]; rfl)
        have fin : Q (.bl (b || c)) H := n _ H (.bl (b || c)) S (.refl _ _) ok rfl h
        exact .inr (.inl ⟨v, a, [.ty T, .ty U], .type t, [.type T, .type U], b || c, rfl, hk, .cons (.ty T) (.cons (.ty U) .nil), h1, ka, fin⟩)
  · exact h.elim
end
end DL
set_option maxRecDepth 100000
set_option maxHeartbeats 2000000
namespace DL
open PySem PySem.Spec PyProof.Rows L2
/-! ### a def's promise over trees -/
abbrev DSp := List D → Sto → DK → Ex → Prop
def toSp (K : PySem.W.Frag) (sp : DSp) : Sp := fun vs H Q E => ∃ (M : Addr → Prop) (mu : List Addr) (S : Sto) (ds : List D) (P : DK) (Ex : Ex), Wok K M mu H S ∧ Rs K M mu H ds vs ∧ sp ds S P Ex ∧ Nrm K M mu H P Q ∧ Exc K M mu H Ex (fun C d H' => E C d H')
def wCall (sp : DSp) (dd : List D) (w : DWA) : DW := fun ρ S P E => w ρ S (fun ds S1 => sp (ds ++ dd) S1 P E) E
section
variable {X : Cx} {W : WX} {CX : CXT} {k : Nat} {f : Addr} {fd : FuncData} {ps : List Str} {sp : DSp} {dvs : List V} {dd : List D} {ds : List Value} {x : Str} {p pos : Pos} {e : Expr} {es : List Expr} {w : DWA}
theorem rd_call {ta : TA} (rd : ∀ M mu H, Rs X.K M mu H dd dvs) (ra : RdA X.K W ta w) : Rd X.K W (tCallSD (toSp X.K sp) dvs (WE W) ta) (wCall sp dd w) := by
  refine ⟨fun M mu σ ρ S H P E Q ok en hw n x => ?_⟩
  refine ra.run M mu σ ρ S H _ E _ ok en hw (fun vs H1 ds S1 k1 ok1 r1 h1 => ?_) x
  exact ⟨M, mu, S1, ds ++ dd, P, E, ok1, r1.app (rd _ _ _), h1, n.mono k1, x.mono k1⟩
theorem de_call (F : FnOk X.prog X.w X.K X.mg X.base CX k f fd ps (toSp X.K sp)) (hr : Room k X.A) (hg : Gl X x) (hm : X.mg x = some (.ref f)) (hk : PySem.W.keepIn X.K (.ref f) = true) (hb : Binds X.K fd ps ds) (hd : Vals dvs ds) (rd : ∀ M mu H, Rs X.K M mu H dd dvs) (hx : ∀ σ, PassesAt CX X σ (WE W σ))
    (ha : DA X W (e :: es) w) (hdb : (x == ("__debug__" : Str)) = false := by decide) (he : starEach (e :: es) X.env = (false, eval e X.env) :: starEach es X.env := by rfl) (hpl : (backTo pos (starEach es X.env)).any (·.1) = false := by rfl) :
    DE X W (.Call (.Name x p) (e :: es) [] pos) (wCall sp dd w) :=
  let ⟨_, pa, ra⟩ := ha.ex; ⟨_, pe_callSD F hr hg hm hk hb hd hx pa hdb he hpl, rd_call rd ra⟩
theorem pe_call0SD {sp : Sp} {E : L2.St → XK} (F : FnOk X.prog X.w X.K X.mg X.base CX k f fd ps sp) (hr : Room k X.A) (hg : Gl X x) (hm : X.mg x = some (.ref f)) (hk : PySem.W.keepIn X.K (.ref f) = true) (hb : Binds X.K fd ps ds) (hd : Vals dvs ds) (hx : ∀ σ, PassesAt CX X σ (E σ))
    (hdb : (x == ("__debug__" : Str)) = false := by decide) : PE X (.Call (.Name x p) [] [] pos) (tCallSD sp dvs E tNil) := by
  refine ⟨fun pins s σ H Q I h => ?_⟩
  refine wpAny_Call_Name_kw (ld_glob I hg hm ?_ hdb)
  exact PySem.W.callWith_K0 I.kIn hk (run_fnSD (us := []) F hr hb hd (hx σ) I .nil h)
theorem de_call0 (F : FnOk X.prog X.w X.K X.mg X.base CX k f fd ps (toSp X.K sp)) (hr : Room k X.A) (hg : Gl X x) (hm : X.mg x = some (.ref f)) (hk : PySem.W.keepIn X.K (.ref f) = true) (hb : Binds X.K fd ps ds) (hd : Vals dvs ds) (rd : ∀ M mu H, Rs X.K M mu H dd dvs) (hx : ∀ σ, PassesAt CX X σ (WE W σ))
    (hdb : (x == ("__debug__" : Str)) = false := by decide) : DE X W (.Call (.Name x p) [] [] pos) (wCall sp dd wNil) :=
  ⟨_, pe_call0SD F hr hg hm hk hb hd hx hdb, rd_call (w := wNil) rd ⟨fun M mu σ ρ S H P E Q ok en hw n x => n [] H [] S (.refl _ _) ok rfl hw⟩⟩
/-- what never raises passes everywhere -/
theorem pass00 : ∀ σ, PassesAt CX0 X σ (WE W σ) := fun _ _ _ _ _ _ _ h => h.elim
/-- keywords: the names' values behind the positional ones -/
theorem run_fnkSD {ks : List Str} {g : List Value → List Value → List Value} {gV : List V → List V → List V} {sp : Sp} {E : L2.St → XK} {pins : List (Addr × Obj)} {σ : L2.St} {H : Hp} {s : Shared} {Q : VK} {us ws : List Value} {vs zs : List V} (F : FnOk X.prog X.w X.K X.mg X.base CX k f fd ps sp) (hr : Room k X.A)
    (hb : KBinds X.K fd ps ks g gV) (hx : PassesAt CX X σ (E σ)) (I : Inv X pins σ H s) (r : Vals vs us) (rz : Vals zs ws) (h : sp (gV vs zs) H Q (E σ)) : wpAny (model X.prog X.w) X.A (call (.ref f) us (ks.zip ws)) (EP X pins σ Q) X.xe s := by
  have r2 := hb.rel r rz
  have hl : (g us ws).length = ps.length := by rw [← r2.length]; exact F.len _ _ _ _ h
  refine wpAny_call (codeAny_mono (F.run X.A X.stack s H ⟨us, ks.zip ws⟩ (g us ws) (gV vs zs) Q (E σ) hr I.env0 (hb.to s us ws I.kIn hl) r2 h) fun r s' hq => ?_)
  cases r with
  | error e => exact hx pins H s e s' I hq
  | ok fl =>
    cases fl with
    | ret u => exact I.after hq
    | next => exact False.elim hq
    | brk => exact False.elim hq
    | cont => exact False.elim hq
end
/-! ### targets -/
def wD (ρ : Loc) : List Nat → Loc
  | [] => ρ
  | v :: vs => (wD ρ vs).set v none
section
variable {K : PySem.W.Frag} {M : Addr → Prop} {mu : List Addr} {H : Hp} {S : Sto} {ρ : Loc} {σ : L2.St}
theorem Env.set (en : Env K M mu H ρ σ) {i : Nat} {d : D} {v : V} (r : R K M mu H d v) : Env K M mu H (ρ.set i (some d)) (σ.set i (some v)) := by
  refine ⟨by simp [en.len], fun j d' h => ?_⟩
  by_cases e : i = j
  · subst e
    by_cases hi : i < ρ.length
    · rw [List.getElem?_set_self hi] at h
      cases h
      exact ⟨v, by rw [List.getElem?_set_self (by rw [← en.len]; exact hi)], r⟩
    · rw [List.getElem?_eq_none (by simp; omega)] at h
      cases h
  · rw [List.getElem?_set_ne e] at h
    obtain ⟨u, h1, h2⟩ := en.get j d' h
    exact ⟨u, by rw [List.getElem?_set_ne e]; exact h1, h2⟩
theorem Env.wipe (en : Env K M mu H ρ σ) : ∀ vs : List Nat, Env K M mu H (wD ρ vs) (wipe σ vs)
  | [] => en
  | v :: vs => by
    have ih := Env.wipe en vs
    refine ⟨by show ((wD ρ vs).set v none).length = ((L2.wipe σ vs).set v none).length; simp [ih.len], fun j d' h => ?_⟩
    have h' : ((wD ρ vs).set v none)[j]? = some (some d') := h
    by_cases e : v = j
    · subst e
      by_cases hi : v < (wD ρ vs).length
      · rw [List.getElem?_set_self hi] at h'; cases h'
      · rw [List.getElem?_eq_none (by simp; omega)] at h'; cases h'
    · rw [List.getElem?_set_ne e] at h'
      obtain ⟨u, h1, h2⟩ := ih.get j d' h'
      exact ⟨u, by show ((L2.wipe σ vs).set v none)[j]? = _; rw [List.getElem?_set_ne e]; exact h1, h2⟩
end
theorem wipe_get (σ : L2.St) : ∀ (vs : List Nat) (i : Nat), (wipe σ vs)[i]? = if i ∈ vs then σ[i]?.map (fun _ => none) else σ[i]?
  | [], i => by simp [wipe]
  | v :: vs, i => by
    show ((wipe σ vs).set v none)[i]? = _
    by_cases e : v = i
    · subst e
      rw [if_pos (by simp)]
      by_cases hi : v < σ.length
      · rw [List.getElem?_set_self (by rw [wipe_length]; exact hi), List.getElem?_eq_getElem hi]; rfl
      · rw [List.getElem?_eq_none (by simp [wipe_length]; omega), List.getElem?_eq_none (by omega)]; rfl
    · rw [List.getElem?_set_ne e, wipe_get σ vs i]
      have : (i ∈ v :: vs) ↔ i ∈ vs := by simp [Ne.symm e]
      by_cases h : i ∈ vs
      · rw [if_pos h, if_pos (this.mpr h)]
      · rw [if_neg h, if_neg (fun q => h (this.mp q))]
theorem wipe_set {σ : L2.St} {vs : List Nat} {i : Nat} {x : Option V} (h : i ∈ vs) : wipe (σ.set i x) vs = wipe σ vs := by
  apply List.ext_getElem?
  intro j
  rw [wipe_get, wipe_get]
  by_cases hj : j ∈ vs
  · rw [if_pos hj, if_pos hj]
    by_cases e : i = j
    · subst e
      by_cases hi : i < σ.length
      · rw [List.getElem?_set_self hi, List.getElem?_eq_getElem hi]; rfl
      · rw [List.getElem?_eq_none (by simp; omega), List.getElem?_eq_none (by omega)]
    · rw [List.getElem?_set_ne e]
  · rw [if_neg hj, if_neg hj, List.getElem?_set_ne (fun e => hj (by rw [← e]; exact h))]
theorem wipe_wipe {σ : L2.St} {vs : List Nat} : wipe (wipe σ vs) vs = wipe σ vs := by
  apply List.ext_getElem?
  intro j
  rw [wipe_get, wipe_get]
  by_cases hj : j ∈ vs
  · simp only [if_pos hj]; cases σ[j]? <;> rfl
  · rw [if_neg hj]
abbrev DWG := D → Sto → Loc → (Loc → Prop) → Prop
/-- what a target asks and does, at the slots is -/
structure RdG (K : PySem.W.Frag) (g : TG) (wg : DWG) (is : List Nat) : Prop where
  run : ∀ (M : Addr → Prop) (mu : List Addr) (σ : L2.St) (ρ : Loc) (S : Sto) (H : Hp) (d : D) (v : V) (P : Loc → Prop) (Q : L2.St → Hp → Prop), Wok K M mu H S → Env K M mu H ρ σ → R K M mu H d v → wg d S ρ P →
    (∀ σ' ρ', Env K M mu H ρ' σ' → (∀ vs, (∀ i ∈ is, i ∈ vs) → wipe σ' vs = wipe σ vs) → P ρ' → Q σ' H) → g v σ H Q
structure DG (X : Cx) (tg : Expr) (wg : DWG) (is : List Nat) : Prop where
  ex : ∃ g, PG X tg g ∧ RdG X.K g wg is
abbrev DWGs := List D → Sto → Loc → (Loc → Prop) → Prop
structure RdGs (K : PySem.W.Frag) (g : TGs) (wg : DWGs) (is : List Nat) : Prop where
  run : ∀ (M : Addr → Prop) (mu : List Addr) (σ : L2.St) (ρ : Loc) (S : Sto) (H : Hp) (d : List D) (v : List V) (P : Loc → Prop) (Q : L2.St → Hp → Prop), Wok K M mu H S → Env K M mu H ρ σ → Rs K M mu H d v → wg d S ρ P →
    (∀ σ' ρ', Env K M mu H ρ' σ' → (∀ vs, (∀ i ∈ is, i ∈ vs) → wipe σ' vs = wipe σ vs) → P ρ' → Q σ' H) → g v σ H Q
structure DGs (X : Cx) (ts : List Expr) (wg : DWGs) (is : List Nat) : Prop where
  ex : ∃ g, PGs X ts g ∧ RdGs X.K g wg is
def wgName (i : Nat) : DWG := fun d _ ρ P => P (ρ.set i (some d))
def wgNil : DWGs := fun ds _ ρ P => ds = [] ∧ P ρ
def wgCons (g : DWG) (gs : DWGs) : DWGs := fun ds S ρ P => match ds with
  | d :: r => g d S ρ fun ρ' => gs r S ρ' P
  | [] => False
def wgTup (gs : DWGs) : DWG := fun d S ρ P => match val S d with
  | .tup ds => gs ds S ρ P
  | _ => False
section
variable {X : Cx} {W : WX} {pos : Pos} {e : Expr} {es : List Expr} {g : DWG} {gs : DWGs} {is js : List Nat}
theorem dg_name {i : Nat} {x : Str} (h : PG X (.Name x pos) (gName i)) : DG X (.Name x pos) (wgName i) [i] :=
  ⟨_, h, ⟨fun M mu σ ρ S H d v P Q ok en r hw n => n _ _ (en.set r) (fun vs hi => wipe_set (hi i (by simp))) hw⟩⟩
theorem dgs_nil : DGs X [] wgNil [] := ⟨_, pgs_nil, ⟨fun M mu σ ρ S H d v P Q ok en r hw n => by
  obtain ⟨rfl, h⟩ := hw
  obtain rfl : v = [] := r
  exact ⟨rfl, n σ ρ en (fun _ _ => rfl) h⟩⟩⟩
theorem dgs_cons (h1 : DG X e g is) (h2 : DGs X es gs js) (hs : (assignEach (e :: es) X.env).map (·.2) = assign e X.env :: (assignEach es X.env).map (·.2) := by rfl) : DGs X (e :: es) (wgCons g gs) (is ++ js) := by
  obtain ⟨_, p1, r1⟩ := h1.ex
  obtain ⟨_, p2, r2⟩ := h2.ex
  refine ⟨_, pgs_cons p1 p2 hs, ⟨fun M mu σ ρ S H d v P Q ok en r hw n => ?_⟩⟩
  cases d with
  | nil => exact hw.elim
  | cons d ds =>
    obtain ⟨u, us, rfl, q1, q2⟩ := r
    refine ⟨u, us, rfl, r1.run M mu σ ρ S H d u _ _ ok en q1 hw fun σ1 ρ1 en1 w1 h1 => ?_⟩
    exact r2.run M mu σ1 ρ1 S H ds us P Q ok en1 q2 h1 fun σ2 ρ2 en2 w2 h2 => n σ2 ρ2 en2 (fun vs hi => (w2 vs fun i hj => hi i (by simp [hj])).trans (w1 vs fun i hj => hi i (by simp [hj]))) h2
theorem dg_tup {k n : Nat} (hc : X.calm = true) (h : DGs X es gs is) (hn : (assignEach es X.env).length = n := by rfl) (hst : (assignEach es X.env).findIdx? (·.1) = none := by rfl) : DG X (.Tuple es k pos) (fun d S ρ P => (match val S d with
    | .tup ds => ds.length = n
    | _ => False) ∧ wgTup gs d S ρ P) is := by
  obtain ⟨_, p, r⟩ := h.ex
  refine ⟨_, pg_tup hc p hn hst, ⟨fun M mu σ ρ S H d v P Q ok en q hw nn => ?_⟩⟩
  obtain ⟨h1, h2⟩ := hw
  unfold wgTup at h2
  cases e1 : val S d with
  | tup ds =>
    simp only [e1] at h1 h2
    obtain ⟨a, vs, rfl, ha, ra⟩ := seq_tup ok q e1
    exact ⟨a, vs, rfl, ha, by rw [← ra.len]; exact h1, r.run M mu σ ρ S H ds vs P Q ok en ra h2 nn⟩
  | _ => simp only [e1] at h1
end
/-! ### what is walked -/
abbrev Src := Option (Nat × List D)
/-- the items of an iterator, and the cell that they stand in -/
def ItOk (K : PySem.W.Frag) (J : It) (M : Addr → Prop) (mu : List Addr) (H : Hp) (items : List D) (src : Src) : Prop :=
  ∀ (M' : Addr → Prop) (mu' : List Addr) (H' : Hp) (S' : Sto), Ext M mu H M' mu' H' → Wok K M' mu' H' S' → (match src with
    | none => True
    | some (j, l) => S'[j]? = some (.lst l)) → ∀ i : Nat,
    (∀ d, items[i]? = some d → J.go i H' ∧ ∀ x H2, J.yld i H' x H2 → Keep mu' H' H2 ∧ Wok K M' mu' H2 S' ∧ R K M' mu' H2 d x) ∧ (items.length ≤ i → J.stop i H')
abbrev DWI := Loc → Sto → (List D → Src → Sto → Prop) → Ex → Prop
structure RdI (K : PySem.W.Frag) (W : WX) (ti : TI) (w : DWI) : Prop where
  run : ∀ (M : Addr → Prop) (mu : List Addr) (σ : L2.St) (ρ : Loc) (S : Sto) (H : Hp) (P : List D → Src → Sto → Prop) (E : Ex) (Q : It → Hp → Prop), Wok K M mu H S → Env K M mu H ρ σ → w ρ S P E →
    (∀ J H' items src S', Keep mu H H' → Wok K M mu H' S' → ItOk K J M mu H' items src → (match src with
      | none => True
      | some (j, l) => S'[j]? = some (.lst l)) → P items src S' → Q J H') → Exc K M mu H E (fun C d H' => W C d σ H') → ti σ H Q
structure DI (X : Cx) (W : WX) (tg iter : Expr) (w : DWI) : Prop where
  ex : ∃ ti, PI X tg iter ti ∧ RdI X.K W ti w
def wiSeq (w : DW) : DWI := fun ρ S P E => w ρ S (fun d S1 => match d with
  | .lst ds => P ds none S1
  | .tup ds => P ds none S1
  | .ktp ds => P ds none S1
  | .loc i => (match val S1 (.loc i) with
    | .lst ds => P ds (some (i, ds)) S1
    | _ => False)
  | _ => False) E
/-- a list or a tuple -/
def iSeq (K : PySem.W.Frag) (tl : TE) : TI := fun σ H R => tl σ H fun x H1 => ∃ a, x = .ref a ∧ (((∃ xs, SqL K H1 a xs) ∧ R (Itl K a) H1) ∨ ((∃ xs, SqT K H1 a xs) ∧ R (Itt K a) H1))
theorem pi_seq {X : Cx} {tg l : Expr} {tl : TE} (hl : PE X l tl) : PI X tg l (iSeq X.K tl) := by
  refine ⟨fun pins s σ H R I h => ?_⟩
  refine thn (hl.run pins s σ H _ I h) fun v s1 ⟨x, H1, I1, r1, q1⟩ => ?_
  obtain ⟨a, e, ⟨⟨xs, hq⟩, q⟩ | ⟨⟨xs, hq⟩, q⟩⟩ := q1
  · subst e
    cases r1
    obtain ⟨its, rv, p, hz⟩ := I1.list hq
    refine wpAny_pyIter_list p.isList ?_
    refine ⟨s1.heap.objs.size, [s1.heap.objs.size], _, _, H1, rfl, I1.kept (t' := s1.toks) fun b o e => Heap.get?_push_of_some _ e, turn_list a _, ⟨_, Heap.get?_push_size _ rfl, rfl, rfl⟩, fun b hb => ?_, q⟩
    have e : b = s1.heap.objs.size := by simpa using hb
    subst e
    exact I1.fpOk (Nat.le_refl _) (I1.hok.fresh (Nat.le_refl _))
  · subst e
    cases r1
    obtain ⟨its, rv, p, hz⟩ := I1.tuple hq
    refine wpAny_pyIter_tuple (show s1.heap.IsTuple a its.toArray from p) ?_
    refine ⟨s1.heap.objs.size, [s1.heap.objs.size], _, _, H1, rfl, I1.kept (t' := s1.toks) fun b o e => Heap.get?_push_of_some _ e, turn_tuple a _, ⟨_, Heap.get?_push_size _ rfl, rfl, rfl⟩, fun b hb => ?_, q⟩
    have e : b = s1.heap.objs.size := by simpa using hb
    subst e
    exact I1.fpOk (Nat.le_refl _) (I1.hok.fresh (Nat.le_refl _))
section
variable {K : PySem.W.Frag} {M : Addr → Prop} {mu : List Addr} {H : Hp}
theorem itOk_list {a : Addr} {vs : List V} {ds : List D} (hm : ¬ M a) (ha : H a = some (.lst vs)) (r : Rs K M mu H ds vs) : ItOk K (Itl K a) M mu H ds none := fun M' mu' H' S' ex ok _ i => by
  have h' := (ex.toExt0.okM hm ha).2
  have r' := Rs.mono ex.toExt0 _ _ r
  refine ⟨fun d hd => ?_, fun hi => ⟨vs, SqL.of h', by rw [← r.len]; exact hi⟩⟩
  obtain ⟨v, hv, rv⟩ := r'.get hd
  refine ⟨⟨vs, v, SqL.of h', hv⟩, fun x H2 y => ?_⟩
  obtain ⟨rfl, y⟩ := y
  obtain rfl : v = x := Option.some.inj (hv.symm.trans (y vs (SqL.of h')))
  exact ⟨.refl _ _, ok, rv⟩
theorem itOk_loc {a : Addr} {j : Nat} {ds : List D} (h : mu[j]? = some a) : ItOk K (Itl K a) M mu H ds (some (j, ds)) := fun M' mu' H' S' ex ok hs i => by
  obtain ⟨vs, h', r'⟩ : Cl K M' mu' H' (.lst ds) a := ok.at_ j a _ (ex.toExt0.at_ h) hs
  refine ⟨fun d hd => ?_, fun hi => ⟨vs, SqL.of h', by rw [← r'.len]; exact hi⟩⟩
  obtain ⟨v, hv, rv⟩ := r'.get hd
  refine ⟨⟨vs, v, SqL.of h', hv⟩, fun x H2 y => ?_⟩
  obtain ⟨rfl, y⟩ := y
  obtain rfl : v = x := Option.some.inj (hv.symm.trans (y vs (SqL.of h')))
  exact ⟨.refl _ _, ok, rv⟩
theorem itOk_tup {a : Addr} {vs : List V} {ds : List D} (h : H a = some (.tup vs) ∨ SqTK K a vs) (r : Rs K M mu H ds vs) : ItOk K (Itt K a) M mu H ds none := fun M' mu' H' S' ex ok _ i => by
  have h' : SqT K H' a vs := h.elim (fun q => SqT.of (ex.toExt0.keepM a _ q (.inr isF_tup))) fun q => q.to
  have r' := Rs.mono ex.toExt0 _ _ r
  refine ⟨fun d hd => ?_, fun hi => ⟨vs, h', by rw [← r.len]; exact hi⟩⟩
  obtain ⟨v, hv, rv⟩ := r'.get hd
  refine ⟨⟨vs, v, h', hv⟩, fun x H2 y => ?_⟩
  obtain ⟨rfl, y⟩ := y
  obtain rfl : v = x := Option.some.inj (hv.symm.trans (y vs h'))
  exact ⟨.refl _ _, ok, rv⟩
def rangeD (lo : Int) (n : Nat) : List D := (List.range n).map fun i => D.int (lo + (i : Nat))
theorem itOk_range {lo : Int} {n : Nat} : ItOk K (Itr lo n) M mu H (rangeD lo n) none := fun M' mu' H' S' ex ok _ i => by
  have hl : (rangeD lo n).length = n := by simp [rangeD]
  refine ⟨fun d hd => ?_, fun hi => by rw [hl] at hi; exact hi⟩
  have hi : i < n := by rw [← hl]; exact (List.getElem?_eq_some_iff.mp hd).1
  have ed : d = .int (lo + (i : Nat)) := by
    unfold rangeD at hd
    rw [List.getElem?_map, List.getElem?_range hi] at hd
    exact (Option.some.inj hd).symm
  refine ⟨hi, fun x H2 y => ?_⟩
  obtain ⟨rfl, rfl⟩ := y
  exact ⟨.refl _ _, ok, by rw [ed]; rfl⟩
end
section
variable {X : Cx} {W : WX} {tg e : Expr} {we : DW} {pos p : Pos}
theorem di_list (h : DE X W e we) : DI X W tg e (wiSeq we) := by
  obtain ⟨_, pa, ra⟩ := h.ex
  refine ⟨_, pi_seq pa, ⟨fun M mu σ ρ S H P E Q ok en hw n x => ?_⟩⟩
  refine ra.run M mu σ ρ S H _ E _ ok en hw (fun v H1 d S1 k1 ok1 r1 h1 => ?_) x
  cases d with
  | lst ds =>
    obtain ⟨a, vs, rfl, hm, ha, rr⟩ := r1
    exact ⟨a, rfl, .inl ⟨⟨vs, SqL.of ha⟩, n _ H1 ds none S1 k1 ok1 (itOk_list hm ha rr) True.intro h1⟩⟩
  | tup ds =>
    obtain ⟨a, vs, rfl, hm, rr⟩ := r1
    exact ⟨a, rfl, .inr ⟨⟨vs, SqT.of hm⟩, n _ H1 ds none S1 k1 ok1 (itOk_tup (.inl hm) rr) True.intro h1⟩⟩
  | ktp ds =>
    obtain ⟨a, vs, rfl, hm, rr⟩ := r1
    exact ⟨a, rfl, .inr ⟨⟨vs, hm.to⟩, n _ H1 ds none S1 k1 ok1 (itOk_tup (.inr hm) rr) True.intro h1⟩⟩
  | loc i =>
    have h1' : (match val S1 (.loc i) with
      | .lst ds => P ds (some (i, ds)) S1
      | _ => False) := h1
    cases q : val S1 (.loc i) with
    | lst ds =>
      rw [q] at h1'
      obtain ⟨a, rfl, ha⟩ := r1
      obtain ⟨vs, h3, h4⟩ : Cl X.K M mu H1 (.lst ds) a := ok1.at_ i a _ ha (val_loc q (by simp))
      exact ⟨a, rfl, .inl ⟨⟨vs, SqL.of h3⟩, n _ H1 ds (some (i, ds)) S1 k1 ok1 (itOk_loc ha) (val_loc q (by simp)) h1'⟩⟩
    | _ => rw [q] at h1'; exact h1'.elim
  | _ => exact h1.elim
def wiRng1 (w : DWA) : DWI := fun ρ S P E => w ρ S (fun ds S1 => match ds with
  | [.int j] => (-1000000 ≤ j ∧ j ≤ 1000000) ∧ P (rangeD 0 j.toNat) none S1
  | _ => False) E
def wiRng2 (w : DWA) : DWI := fun ρ S P E => w ρ S (fun ds S1 => match ds with
  | [.int i, .int j] => (-1000000 ≤ i ∧ i ≤ 1000000 ∧ -1000000 ≤ j ∧ j ≤ 1000000) ∧ P (rangeD i (j - i).toNat) none S1
  | _ => False) E
theorem di_range1 {a : Expr} {w : DWA} (hg : Gl X "range") (hm : X.mg "range" = none) (ha : DA X W [a] w) (hs : starEach [a] X.env = [(false, eval a X.env)] := by rfl) : DI X W tg (.Call (.Name "range" p) [a] [] pos) (wiRng1 w) := by
  obtain ⟨_, pa, ra⟩ := ha.ex
  refine ⟨_, pi_range1 hg hm pa hs, ⟨fun M mu σ ρ S H P E Q ok en hw n x => ?_⟩⟩
  refine ra.run M mu σ ρ S H _ E _ ok en hw (fun vs H1 ds S1 k1 ok1 r1 h1 => ?_) x
  split at h1
  · rename_i j
    obtain ⟨v, rfl, r2⟩ := Rs.one r1
    obtain rfl : v = .int j := r2
    exact ⟨j, rfl, by omega, by omega, n _ H1 _ none S1 k1 ok1 itOk_range True.intro h1.2⟩
  · exact h1.elim
theorem di_range2 {a b : Expr} {w : DWA} (hg : Gl X "range") (hm : X.mg "range" = none) (ha : DA X W [a, b] w) (hs : starEach [a, b] X.env = [(false, eval a X.env), (false, eval b X.env)] := by rfl) (hs2 : starEach [b] X.env = [(false, eval b X.env)] := by rfl) : DI X W tg (.Call (.Name "range" p) [a, b] [] pos) (wiRng2 w) := by
  obtain ⟨_, pa, ra⟩ := ha.ex
  refine ⟨_, pi_range2 hg hm pa hs hs2, ⟨fun M mu σ ρ S H P E Q ok en hw n x => ?_⟩⟩
  refine ra.run M mu σ ρ S H _ E _ ok en hw (fun vs H1 ds S1 k1 ok1 r1 h1 => ?_) x
  split at h1
  · rename_i i j
    obtain ⟨v, u, rfl, r2, r3⟩ := Rs.two r1
    obtain rfl : v = .int i := r2
    obtain rfl : u = .int j := r3
    exact ⟨i, j, rfl, ⟨by omega, by omega, by omega, by omega⟩, n _ H1 _ none S1 k1 ok1 itOk_range True.intro h1.2⟩
  · exact h1.elim
end
end DL
set_option maxRecDepth 100000
set_option maxHeartbeats 2000000
namespace DL
open PySem PySem.Spec PyProof.Rows L2
/-! ### comprehensions -/
abbrev EF : Ex := fun _ _ _ => False
def lcW (g : DWG) (tt : DWT) (te : DW) (ρ : Loc) (P : List D → Sto → Prop) : List D → List D → Sto → Prop
  | [], acc, S => acc.length ≤ 1000000 ∧ P acc S
  | x :: xs, acc, S => acc.length ≤ 1000000 ∧ g x S ρ fun ρ' => tt ρ' S (fun b S1 => if b = true then te ρ' S1 (fun y S2 => lcW g tt te ρ P xs (acc ++ [y]) S2) EF else lcW g tt te ρ P xs acc S1) EF
theorem lcW_len {g : DWG} {tt : DWT} {te : DW} {ρ : Loc} {P : List D → Sto → Prop} : ∀ {xs acc : List D} {S : Sto}, lcW g tt te ρ P xs acc S → acc.length ≤ 1000000
  | [], _, _, h => h.1
  | _ :: _, _, _, h => h.1
/-- the items' source, then the loop; the block's own slots vs are forgotten -/
def wLc (wi : DWI) (g : DWG) (tt : DWT) (te : DW) (vs : List Nat) : DW := fun ρ S P E => wi ρ S (fun items src S1 => (match src with
  | none => True
  | some _ => False) ∧ lcW g tt te (wD ρ vs) (fun ds S2 => P (.lst ds) S2) items [] S1) E
def wTYes : DWT := fun _ S P _ => P true S
/-- the block's tests -/
structure DTs (X : Cx) (W : WX) (ifs : List Expr) (w : DWT) : Prop where
  ex : ∃ t, PTs X ifs t ∧ RdT X.K W t w
section
variable {X : Cx} {W : WX} {e c : Expr} {w : DWT}
theorem dts_nil : DTs X W [] wTYes := ⟨_, pts_nil, ⟨fun M mu σ ρ S H P E Q ok en hw n x => n true H S (.refl _ _) ok hw⟩⟩
theorem dts_one (h : DT X W c w) : DTs X W [c] w := let ⟨_, p, r⟩ := h.ex; ⟨_, pts_one p, r⟩
end
/-- exceptions that leave a block: none -/
abbrev W0 : WX := fun _ _ _ _ => False
section
variable {K : PySem.W.Frag} {M : Addr → Prop} {mu : List Addr} {H H' : Hp} {S : Sto}
/-- an address set aside: kept, and in no tree -/
theorem Wok.aside (ok : Wok K M mu H S) {p : Addr} (hp : H p = none) (o : HO) : Ext M mu H (fun a => M a ∨ a = p) mu (upd H p o) ∧ Wok K (fun a => M a ∨ a = p) mu (upd H p o) S := by
  obtain ⟨ok2, k2, nm⟩ := ok.alloc hp o
  have ex : Ext M mu H (fun a => M a ∨ a = p) mu (upd H p o) := ⟨⟨fun b q h n => k2 b q h (n.imp (fun n z => n (ok.sub b z)) id), ⟨[], by simp⟩, fun a h => h.imp id fun e => by rw [e]; exact hp⟩, k2, fun a h => .inl h, fun a h => .inl h, ok.sub⟩
  refine ⟨ex, ok.len, fun a h => .inl (ok.sub a h), ok.nd, fun a h => ?_, fun i a d h1 h2 => ?_⟩
  · rcases h with h | rfl
    · exact ok2.tr a h
    · rw [upd_same]; simp
  · have c := ok.at_ i a d h1 h2
    have n : a ≠ p := fun e => ok.tr a (ok.sub a (List.mem_of_getElem? h1)) (by rw [e]; exact hp)
    have q : (upd H p o) a = H a := upd_ne n
    cases d with
    | lst ds => obtain ⟨vs, h1, h2⟩ := c; exact ⟨vs, q.trans h1, Rs.mono ex.toExt0 _ _ h2⟩
    | dk kvs => obtain ⟨es, h1, h2, h3⟩ := c; exact ⟨es, q.trans h1, h2, Rk.mono ex.toExt0 _ _ h3⟩
    | dt kvs => obtain ⟨es, h1, h2, h3⟩ := c; exact ⟨es, q.trans h1, h2, Rt.mono ex.toExt0 _ _ h3⟩
    | obj C fs => obtain ⟨dx, gs, h1, h2, h3⟩ := c; exact ⟨dx, gs, q.trans h1, h2, Rfs.mono ex.toExt0 _ _ h3⟩
    | tb P z => obtain ⟨rfl, h⟩ := c; exact ⟨rfl, TabM.mono ex.toExt0 q h⟩
    | _ => exact c
/-- less set aside -/
theorem ext_less {M' : Addr → Prop} (h : ∀ a, M a → M' a) : Ext0 M' mu H M mu H := ⟨fun _ _ q _ => q, ⟨[], by simp⟩, fun a m => .inl (h a m)⟩
theorem Wok.less {M' : Addr → Prop} (ok : Wok K M' mu H S) (h : ∀ a, M a → M' a) (s : ∀ a ∈ mu, M a) : Wok K M mu H S := by
  have ex : Ext0 M' mu H M mu H := ext_less h
  refine ⟨ok.len, s, ok.nd, fun a m => ok.tr a (h a m), fun i a d h1 h2 => ?_⟩
  have c := ok.at_ i a d h1 h2
  cases d with
  | lst ds => obtain ⟨vs, h1, h2⟩ := c; exact ⟨vs, h1, Rs.mono ex _ _ h2⟩
  | dk kvs => obtain ⟨es, h1, h2, h3⟩ := c; exact ⟨es, h1, h2, Rk.mono ex _ _ h3⟩
  | dt kvs => obtain ⟨es, h1, h2, h3⟩ := c; exact ⟨es, h1, h2, Rt.mono ex _ _ h3⟩
  | obj C fs => obtain ⟨dx, gs, h1, h2, h3⟩ := c; exact ⟨dx, gs, h1, h2, Rfs.mono ex _ _ h3⟩
  | tb P z => exact ⟨c.1, TabM.mono ex rfl c.2⟩
  | _ => exact c
/-- the object set aside is written -/
theorem Wok.wrote {p : Addr} (ok : Wok K (fun a => M a ∨ a = p) mu H S) (np : p ∉ mu) (hx : ∀ q, H p = some q → ¬ isF q) (o : HO) : Ext0 (fun a => M a ∨ a = p) mu H (fun a => M a ∨ a = p) mu (upd H p o) ∧ Wok K (fun a => M a ∨ a = p) mu (upd H p o) S := by
  have ex : Ext0 (fun a => M a ∨ a = p) mu H (fun a => M a ∨ a = p) mu (upd H p o) := ⟨fun b q h n => by rw [upd_ne (fun e => n.elim (fun n => n (.inr e)) (hx q (by rw [← e]; exact h)))]; exact h, ⟨[], by simp⟩, fun a m => .inl m⟩
  refine ⟨ex, ok.len, ok.sub, ok.nd, fun a m => ?_, fun i a d h1 h2 => ?_⟩
  · by_cases e : a = p
    · rw [e, upd_same]; simp
    · rw [upd_ne e]; exact ok.tr a m
  · have c := ok.at_ i a d h1 h2
    have q : (upd H p o) a = H a := upd_ne fun e => np (by rw [← e]; exact List.mem_of_getElem? h1)
    cases d with
    | lst ds => obtain ⟨vs, h1, h2⟩ := c; exact ⟨vs, q.trans h1, Rs.mono ex _ _ h2⟩
    | dk kvs => obtain ⟨es, h1, h2, h3⟩ := c; exact ⟨es, q.trans h1, h2, Rk.mono ex _ _ h3⟩
    | dt kvs => obtain ⟨es, h1, h2, h3⟩ := c; exact ⟨es, q.trans h1, h2, Rt.mono ex _ _ h3⟩
    | obj C fs => obtain ⟨dx, gs, h1, h2, h3⟩ := c; exact ⟨dx, gs, q.trans h1, h2, Rfs.mono ex _ _ h3⟩
    | tb P z => obtain ⟨rfl, h⟩ := c; exact ⟨rfl, TabM.mono ex q h⟩
    | _ => exact c
end
section
variable {K : PySem.W.Frag} {W : WX} {ti : TI} {g : TG} {tt : TT} {te : TE} {wi : DWI} {wg : DWG} {wt : DWT} {we : DW} {vs is : List Nat}
theorem rd_lc (ri : RdI K W ti wi) (rg : RdG K g wg is) (hs : ∀ i ∈ is, i ∈ vs) (rt : RdT K W0 tt wt) (re : Rd K W0 te we) : Rd K W (tLc ti g tt te vs) (wLc wi wg wt we vs) := by
  refine ⟨fun M mu σ ρ S H P E Q ok en hw n x => ?_⟩
  refine ri.run M mu σ ρ S H _ E _ ok en hw (fun J H1 items src S1 k1 ok1 it hsrc h1 => ?_) x
  obtain ⟨hnone, h1⟩ := h1
  have hsrc0 : src = none := by
    cases src with
    | none => rfl
    | some _ => exact hnone.elim
  subst hsrc0
  intro p hp
  have np : p ∉ mu := fun h => ok1.tr p (ok1.sub p h) hp
  obtain ⟨ex1, oka⟩ := ok1.aside hp (.lst [])
  have en1 := en.keep ok k1
  have good : ∀ H', Keep mu H1 H' → Ext M mu H1 (fun a => M a ∨ a = p) mu H' := fun H' k => ⟨⟨fun b q h nb => k b q h (nb.imp (fun nb z => nb (ok1.sub b z)) id), ⟨[], by simp⟩, fun a h => h.imp id fun e => by rw [e]; exact hp⟩, k, fun a h => .inl h, fun a h => .inl h, ok1.sub⟩
  have xf : ∀ (M : Addr → Prop) H' σ', Exc K M mu H' EF (fun C d H' => W0 C d σ' H') := fun _ _ _ _ _ _ _ _ _ _ _ _ h => h
  refine ⟨fun i m H' => m = items.length - i ∧ i ≤ items.length ∧ ∃ S' acc vacc, Keep mu H1 H' ∧ H' p = some (.lst vacc) ∧ Wok K (fun a => M a ∨ a = p) mu H' S' ∧ Rs K (fun a => M a ∨ a = p) mu H' acc vacc ∧ lcW wg wt we (wD ρ vs) (fun ds S2 => P (.lst ds) S2) (items.drop i) acc S',
    ⟨items.length, by simp, Nat.zero_le _, S1, [], [], ex1.keep, upd_same, oka, rfl, by simpa using h1⟩, ?_⟩
  rintro i m H' ⟨rfl, hi, S', acc, vacc, kH, hpa, okp, racc, hl⟩
  have ex' := good H' kH
  by_cases hlt : i < items.length
  · refine .inr ?_
    rw [List.drop_eq_getElem_cons hlt] at hl
    have hl1 := (it _ _ _ S' ex' okp True.intro i).1 items[i] (List.getElem?_eq_getElem hlt)
    refine ⟨hl1.1, fun H2 => ∃ S2 acc2 vacc2, Keep mu H1 H2 ∧ H2 p = some (.lst vacc2) ∧ Wok K (fun a => M a ∨ a = p) mu H2 S2 ∧ Rs K (fun a => M a ∨ a = p) mu H2 acc2 vacc2 ∧ lcW wg wt we (wD ρ vs) (fun ds S2 => P (.lst ds) S2) (items.drop (i + 1)) acc2 S2,
      fun H2 q => ⟨items.length - (i + 1), by omega, rfl, hlt, q⟩, fun y H2 hy => ?_⟩
    obtain ⟨k2, ok2, r2⟩ := hl1.2 y H2 hy
    have enb : Env K (fun a => M a ∨ a = p) mu H2 (wD ρ vs) (wipe σ vs) := (en1.wipe vs).mono (good H2 (kH.trans k2)).toExt0
    have racc2 := racc.keep okp k2
    refine rg.run _ mu _ _ S' H2 items[i] y _ _ ok2 enb r2 hl.2 fun σ3 ρ3 en3 w3 h3 => ?_
    refine ⟨(w3 vs hs).trans wipe_wipe, ?_⟩
    refine rt.run _ mu σ3 ρ3 S' H2 _ EF _ ok2 en3 h3 (fun b H4 S4 k4 ok4 h4 => ?_) (xf _ _ _)
    cases b with
    | false =>
      rw [if_neg Bool.false_ne_true] at h4 ⊢
      exact ⟨S4, acc, vacc, kH.trans (k2.trans k4), k4 _ _ (k2 _ _ hpa (.inl np)) (.inl np), ok4, racc2.keep ok2 k4, h4⟩
    | true =>
      rw [if_pos rfl] at h4 ⊢
      refine re.run _ mu σ3 ρ3 S4 H4 _ EF _ ok4 (en3.keep ok2 k4) h4 (fun v H5 d5 S5 k5 ok5 r5 h5 => ?_) (xf _ _ _)
      have hp5 : H5 p = some (.lst vacc) := k5 _ _ (k4 _ _ (k2 _ _ hpa (.inl np)) (.inl np)) (.inl np)
      have racc5 := (racc2.keep ok2 k4).keep ok4 k5
      have hlen := lcW_len h5
      obtain ⟨exw, okw⟩ := ok5.wrote np (notF_lst hp5) (.lst (vacc ++ [v]))
      refine ⟨vacc, hp5, ?_, S5, acc ++ [d5], vacc ++ [v], ?_, upd_same, okw, (Rs.mono exw _ _ racc5).app ⟨v, [], rfl, R.mono exw _ _ r5, rfl⟩, h5⟩
      · rw [← racc5.len]
        rw [List.length_append, List.length_singleton] at hlen
        rw [sizeLine_eq]
        omega
      · intro b q hb nb
        rw [upd_ne (ne_of_none hb hp)]
        exact k5 _ _ (k4 _ _ (k2 _ _ (kH b q hb nb) nb) nb) nb
  · refine .inl ?_
    have e : i = items.length := by omega
    subst e
    rw [List.drop_length] at hl
    refine ⟨(it _ _ _ S' ex' okp True.intro _).2 (Nat.le_refl _), ?_⟩
    refine n (.ref p) H' (.lst acc) S' (k1.trans kH) (okp.less (fun a h => .inl h) ok1.sub) ?_ hl.2
    exact ⟨p, vacc, rfl, fun h => ok1.tr p h hp, hpa, Rs.mono (ext_less fun a h => .inl h) _ _ racc⟩
end
section
variable {X : Cx} {W : WX} {elt tg iter : Expr} {ifs : List Expr} {scope : Scope} {own : List (Str × Nat)} {pos : Pos} {wi : DWI} {wg : DWG} {wt : DWT} {we : DW} {is : List Nat}
/-- the canonical readings -/
def tOf (K : PySem.W.Frag) (W : WX) (w : DW) : TE := fun σ H Q => ∃ (M : Addr → Prop) (mu : List Addr) (ρ : Loc) (S : Sto) (P : DK) (E : Ex), Wok K M mu H S ∧ Env K M mu H ρ σ ∧ w ρ S P E ∧ Nrm K M mu H P Q ∧ Exc K M mu H E (fun C d H' => W C d σ H')
def ttOf (K : PySem.W.Frag) (W : WX) (w : DWT) : TT := fun σ H Q => ∃ (M : Addr → Prop) (mu : List Addr) (ρ : Loc) (S : Sto) (P : Bool → Sto → Prop) (E : Ex), Wok K M mu H S ∧ Env K M mu H ρ σ ∧ w ρ S P E ∧ NrmT K M mu H P Q ∧ Exc K M mu H E (fun C d H' => W C d σ H')
def gOf (K : PySem.W.Frag) (wg : DWG) (is : List Nat) : TG := fun v σ H Q => ∃ (M : Addr → Prop) (mu : List Addr) (ρ : Loc) (S : Sto) (d : D) (P : Loc → Prop), Wok K M mu H S ∧ Env K M mu H ρ σ ∧ R K M mu H d v ∧ wg d S ρ P ∧
  (∀ σ' ρ', Env K M mu H ρ' σ' → (∀ vs, (∀ i ∈ is, i ∈ vs) → wipe σ' vs = wipe σ vs) → P ρ' → Q σ' H)
theorem rd_tOf {K : PySem.W.Frag} {w : DW} : Rd K W (tOf K W w) w := ⟨fun M mu σ ρ S H P E Q ok en hw n x => ⟨M, mu, ρ, S, P, E, ok, en, hw, n, x⟩⟩
theorem rd_ttOf {K : PySem.W.Frag} {w : DWT} : RdT K W (ttOf K W w) w := ⟨fun M mu σ ρ S H P E Q ok en hw n x => ⟨M, mu, ρ, S, P, E, ok, en, hw, n, x⟩⟩
theorem rd_gOf {K : PySem.W.Frag} {wg : DWG} : RdG K (gOf K wg is) wg is := ⟨fun M mu σ ρ S H d v P Q ok en r hw n => ⟨M, mu, ρ, S, d, P, ok, en, r, hw, n⟩⟩
theorem DE.can {e : Expr} {w : DW} (h : DE X W e w) : PE X e (tOf X.K W w) := by
  obtain ⟨t, p, r⟩ := h.ex
  exact ⟨fun pins s σ H Q I ⟨M, mu, ρ, S, P, E, ok, en, hw, n, x⟩ => p.run pins s σ H Q I (r.run M mu σ ρ S H P E Q ok en hw n x)⟩
theorem DTs.can {w : DWT} (h : DTs X W ifs w) : PTs X ifs (ttOf X.K W w) := by
  obtain ⟨t, p, r⟩ := h.ex
  exact ⟨fun pins s σ H Q I ⟨M, mu, ρ, S, P, E, ok, en, hw, n, x⟩ => p.run pins s σ H Q I (r.run M mu σ ρ S H P E Q ok en hw n x)⟩
theorem DG.can {wg : DWG} (h : DG X tg wg is) : PG X tg (gOf X.K wg is) := by
  obtain ⟨t, p, r⟩ := h.ex
  exact ⟨fun pins s σ H v u Q I rv ⟨M, mu, ρ, S, d, P, ok, en, rd, hw, n⟩ => p.run pins s σ H v u Q I rv (r.run M mu σ ρ S H d v P Q ok en rd hw n)⟩
/-- [elt for tg in iter if ..] -/
theorem de_lc (hc : X.calm = true) (hN : X.N.Nodup) (hi : DI X W tg iter wi) (ok : BlkOk X.N X.env.scope scope own)
    (hg : ∀ (s : Shared) (H : Hp) (C : Addr) (cl : List (Str × Addr)) (fp : List Addr), DG (X.blk s H scope (compEnvC scope cl C X.env) fp) tg wg is)
    (ht : ∀ (s : Shared) (H : Hp) (C : Addr) (cl : List (Str × Addr)) (fp : List Addr), DTs (X.blk s H scope (compEnvC scope cl C X.env) fp) W0 ifs wt)
    (he : ∀ (s : Shared) (H : Hp) (C : Addr) (cl : List (Str × Addr)) (fp : List Addr), DE (X.blk s H scope (compEnvC scope cl C X.env) fp) W0 elt we)
    (his : ∀ i ∈ is, i ∈ own.map (·.2) := by decide) (hs : ∀ x, foldedSetIterable iter X.env x = pure x := by intro _; rfl) :
    DE X W (.ListComp elt [⟨tg, iter, ifs, 0⟩] scope pos) (wLc wi wg wt we (own.map (·.2))) := by
  obtain ⟨ti, pi, ri⟩ := hi.ex
  exact ⟨_, pe_lc hc hN pi ok (fun s H C cl fp => (hg s H C cl fp).can) (fun s H C cl fp => (ht s H C cl fp).can) (fun s H C cl fp => (he s H C cl fp).can) hs, rd_lc ri rd_gOf his rd_ttOf rd_tOf⟩
end
/-! ### statements -/
structure DEnds where
  nx : Loc → Sto → Prop
  rt : DK
  bk : Loc → Sto → Prop := fun _ _ => False
  ct : Loc → Sto → Prop := fun _ _ => False
  ex : Ex := EF
  rf : List D → Sto → Prop := fun _ _ => False
abbrev DWS := DEnds → Loc → Sto → Prop
structure EOk (K : PySem.W.Frag) (W : WX) (M : Addr → Prop) (mu : List Addr) (H : Hp) (D : DEnds) (D' : L2.Ends) : Prop where
  nx : ∀ M' mu' σ' ρ' S' H', Ext M mu H M' mu' H' → Wok K M' mu' H' S' → Env K M' mu' H' ρ' σ' → D.nx ρ' S' → D'.nx σ' H'
  rt : ∀ M' mu' v d S' H', Ext M mu H M' mu' H' → Wok K M' mu' H' S' → R K M' mu' H' d v → D.rt d S' → D'.rt v H'
  bk : ∀ M' mu' σ' ρ' S' H', Ext M mu H M' mu' H' → Wok K M' mu' H' S' → Env K M' mu' H' ρ' σ' → D.bk ρ' S' → D'.bk σ' H'
  ct : ∀ M' mu' σ' ρ' S' H', Ext M mu H M' mu' H' → Wok K M' mu' H' S' → Env K M' mu' H' ρ' σ' → D.ct ρ' S' → D'.ct σ' H'
  ex : ∀ M' mu' C d σ' c fs S' H', Ext M mu H M' mu' H' → Wok K M' mu' H' S' → XR K M' mu' H' C d c fs → D.ex c fs S' → W C d σ' H'
  rf : ∀ M' mu' p vs ds S' H', Ext M mu H M' mu' H' → H' p = some (.lst vs) → H p = none → p ∉ mu' → Wok K (fun a => M' a ∨ a = p) mu' H' S' → Rs K (fun a => M' a ∨ a = p) mu' H' ds vs → D.rf ds S' → D'.rt (.ref p) H'
theorem EOk.mono {K : PySem.W.Frag} {W : WX} {M M1 : Addr → Prop} {mu mu1 : List Addr} {H H1 : Hp} {D : DEnds} {D' : L2.Ends} (x : Ext M mu H M1 mu1 H1) (h : EOk K W M mu H D D') : EOk K W M1 mu1 H1 D D' :=
  ⟨fun M' mu' σ' ρ' S' H' e => h.nx M' mu' σ' ρ' S' H' (x.trans e), fun M' mu' v d S' H' e => h.rt M' mu' v d S' H' (x.trans e), fun M' mu' σ' ρ' S' H' e => h.bk M' mu' σ' ρ' S' H' (x.trans e),
    fun M' mu' σ' ρ' S' H' e => h.ct M' mu' σ' ρ' S' H' (x.trans e), fun M' mu' C d σ' c fs S' H' e => h.ex M' mu' C d σ' c fs S' H' (x.trans e),
    fun M' mu' p vs ds S' H' e a b c => h.rf M' mu' p vs ds S' H' (x.trans e) a (x.back b fun z => c (by
      obtain ⟨l, rfl⟩ := e.pre
      obtain ⟨l', rfl⟩ := x.pre
      exact List.mem_append_left _ (List.mem_append_left _ z))) c⟩
theorem EOk.exc {K : PySem.W.Frag} {W : WX} {M : Addr → Prop} {mu : List Addr} {H : Hp} {D : DEnds} {D' : L2.Ends} (h : EOk K W M mu H D D') (s : ∀ a ∈ mu, M a) (σ : L2.St) : Exc K M mu H D.ex (fun C d H' => W C d σ H') :=
  fun C d H' c fs S' k ok x e => h.ex M mu C d σ c fs S' H' (.of s k) ok x e
structure RdS (K : PySem.W.Frag) (W : WX) (t : TS) (w : DWS) : Prop where
  run : ∀ (M : Addr → Prop) (mu : List Addr) (σ : L2.St) (ρ : Loc) (S : Sto) (H : Hp) (D : DEnds) (D' : L2.Ends), Wok K M mu H S → Env K M mu H ρ σ → w D ρ S → EOk K W M mu H D D' → t D' σ H
structure DS (X : Cx) (W : WX) (st : Stmt) (w : DWS) : Prop where
  ex : ∃ t, PS X st t ∧ RdS X.K W t w
structure DSs (X : Cx) (W : WX) (st : List Stmt) (w : DWS) : Prop where
  ex : ∃ t, PSs X st t ∧ RdS X.K W t w
def wsNext : DWS := fun D ρ S => D.nx ρ S
def wsSeq (a b : DWS) : DWS := fun D ρ S => a { D with nx := b D } ρ S
def wsRet (w : DW) : DWS := fun D ρ S => w ρ S D.rt D.ex
def wsRetN : DWS := fun D _ S => D.rt .non S
def wsDrop (w : DW) : DWS := fun D ρ S => w ρ S (fun _ S1 => D.nx ρ S1) D.ex
def wsIf (t : DWT) (a b : DWS) : DWS := fun D ρ S => t ρ S (fun k S1 => if k = true then a D ρ S1 else b D ρ S1) D.ex
def wsAsg (w : DW) (g : DWG) : DWS := fun D ρ S => w ρ S (fun d S1 => g d S1 ρ fun ρ' => D.nx ρ' S1) D.ex
def wsSet (i : Nat) (w : DW) : DWS := fun D ρ S => w ρ S (fun d S1 => D.nx (ρ.set i (some d)) S1) D.ex
def wsBreak : DWS := fun D ρ S => D.bk ρ S
def wsCont : DWS := fun D ρ S => D.ct ρ S
section
variable {X : Cx} {W : WX} {st : Stmt} {rest a b : List Stmt} {e c : Expr} {wa wb : DWS} {w : DW} {wt : DWT} {pos : Pos} {g : DWG} {is : List Nat}
theorem dss_nil : DSs X W [] wsNext := ⟨_, pss_nil, ⟨fun M mu σ ρ S H D D' ok en hw n => n.nx M mu σ ρ S H (.refl ok.sub) ok en hw⟩⟩
theorem rds_seq {K : PySem.W.Frag} {t u : TS} (r1 : RdS K W t wa) (r2 : RdS K W u wb) : RdS K W (tSeq t u) (wsSeq wa wb) :=
  ⟨fun M mu σ ρ S H D D' ok en hw n => r1.run M mu σ ρ S H _ _ ok en hw ⟨fun M' mu' σ' ρ' S' H' x ok' en' h => r2.run M' mu' σ' ρ' S' H' D D' ok' en' h (n.mono x), n.rt, n.bk, n.ct, n.ex, n.rf⟩⟩
theorem dss_cons (h : DS X W st wa) (h2 : DSs X W rest wb) : DSs X W (st :: rest) (wsSeq wa wb) :=
  let ⟨_, p, r⟩ := h.ex; let ⟨_, p2, r2⟩ := h2.ex; ⟨_, pss_cons p p2, rds_seq r r2⟩
theorem dss_one (h : DS X W st wa) : DSs X W [st] wa := let ⟨_, p, r⟩ := h.ex; ⟨_, pss_one p, r⟩
theorem ds_ret (h : DE X W e w) : DS X W (.Return (some e) pos) (wsRet w) := by
  obtain ⟨_, p, r⟩ := h.ex
  exact ⟨_, ps_ret p, ⟨fun M mu σ ρ S H D D' ok en hw n => r.run M mu σ ρ S H _ _ _ ok en hw (fun v H' d S' k ok' r' h => n.rt M mu v d S' H' (.of ok.sub k) ok' r' h) (n.exc ok.sub σ)⟩⟩
theorem ds_retN : DS X W (.Return none pos) wsRetN := ⟨_, ps_retN, ⟨fun M mu σ ρ S H D D' ok en hw n => n.rt M mu .non .non S H (.refl ok.sub) ok rfl hw⟩⟩
theorem ds_pass : DS X W (.Pass pos) wsNext := ⟨_, ps_pass, ⟨fun M mu σ ρ S H D D' ok en hw n => n.nx M mu σ ρ S H (.refl ok.sub) ok en hw⟩⟩
theorem ds_break : DS X W (.Break pos) wsBreak := ⟨_, ps_break, ⟨fun M mu σ ρ S H D D' ok en hw n => n.bk M mu σ ρ S H (.refl ok.sub) ok en hw⟩⟩
theorem ds_continue : DS X W (.Continue pos) wsCont := ⟨_, ps_continue, ⟨fun M mu σ ρ S H D D' ok en hw n => n.ct M mu σ ρ S H (.refl ok.sub) ok en hw⟩⟩
theorem ds_expr (h : DE X W e w) (hs : swapsWith e none pos.line X.env = pure false := by rfl) : DS X W (.Expr e pos) (wsDrop w) := by
  obtain ⟨_, p, r⟩ := h.ex
  exact ⟨_, ps_expr p hs, ⟨fun M mu σ ρ S H D D' ok en hw n => r.run M mu σ ρ S H _ _ _ ok en hw (fun v H' d S' k ok' r' h => n.nx M mu σ ρ S' H' (.of ok.sub k) ok' (en.keep ok k) h) (n.exc ok.sub σ)⟩⟩
theorem ds_if (h : DT X W c wt) (ha : DSs X W a wa) (hb : DSs X W b wb) : DS X W (.If c a b pos) (wsIf wt wa wb) := by
  obtain ⟨_, p, r⟩ := h.ex
  obtain ⟨_, p1, r1⟩ := ha.ex
  obtain ⟨_, p2, r2⟩ := hb.ex
  refine ⟨_, ps_if p p1 p2, ⟨fun M mu σ ρ S H D D' ok en hw n => ?_⟩⟩
  refine r.run M mu σ ρ S H _ _ _ ok en hw (fun k H' S' kp ok' h => ?_) (n.exc ok.sub σ)
  cases k with
  | true => rw [if_pos rfl] at h ⊢; exact r1.run M mu σ ρ S' H' D D' ok' (en.keep ok kp) h (n.mono (.of ok.sub kp))
  | false => rw [if_neg Bool.false_ne_true] at h ⊢; exact r2.run M mu σ ρ S' H' D D' ok' (en.keep ok kp) h (n.mono (.of ok.sub kp))
theorem ds_set {i : Nat} {x : Str} {pos' : Pos} (hN : X.N.Nodup) (hi : X.N[i]? = some x) (hx : L2.Loc X.env.scope x) (he : DE X W e w) (hs : swapsWith e (some (.Name x pos')) pos.line X.env = pure false := by rfl) (hf : X.fn x = true ∨ X.env.scope.names.lookup x = some .local := by first | exact .inl rfl | exact .inr rfl | assumption) :
    DS X W (.Assign [.Name x pos'] e pos) (wsSet i w) := by
  obtain ⟨_, p, r⟩ := he.ex
  exact ⟨_, ps_set hN hi hx p hs hf, ⟨fun M mu σ ρ S H D D' ok en hw n => r.run M mu σ ρ S H _ _ _ ok en hw (fun v H' d S' k ok' r' h => n.nx M mu _ _ S' H' (.of ok.sub k) ok' ((en.keep ok k).set r') h) (n.exc ok.sub σ)⟩⟩
theorem ds_asg {tg : Expr} (he : DE X W e w) (hg : DG X tg g is) (hs : swapsWithSole [tg] e pos.line X.env = pure false := by rfl) (hw : swappedStores [tg] e X.env = pure none := by rfl) (h1 : (assignEach [tg] X.env).map (·.2) = [assign tg X.env] := by rfl) :
    DS X W (.Assign [tg] e pos) (wsAsg w g) := by
  obtain ⟨_, p, r⟩ := he.ex
  obtain ⟨_, q, rg⟩ := hg.ex
  exact ⟨_, ps_asg p q hs hw h1, ⟨fun M mu σ ρ S H D D' ok en hw n => r.run M mu σ ρ S H _ _ _ ok en hw (fun v H' d S' k ok' r' h =>
    rg.run M mu σ ρ S' H' d v _ _ ok' (en.keep ok k) r' h fun σ' ρ' en' _ h' => n.nx M mu σ' ρ' S' H' (.of ok.sub k) ok' en' h') (n.exc ok.sub σ)⟩⟩
end
end DL
set_option maxRecDepth 100000
set_option maxHeartbeats 2000000
namespace DL
open PySem PySem.Spec PyProof.Rows L2
/-! ### for -/
/-- the loop unrolled; src: the cell that the items stand in must stay -/
def forW (g : DWG) (tb : DWS) (Y : DEnds) (all : List D) (src : Src) : List D → Loc → Sto → Prop
  | [], ρ, S => (match src with
    | none => True
    | some (j, l) => S[j]? = some (.lst l)) ∧ Y.nx ρ S
  | x :: xs, ρ, S => (match src with
    | none => True
    | some (j, l) => S[j]? = some (.lst l)) ∧ g x S ρ fun ρ' => tb { Y with nx := forW g tb Y all src xs, ct := forW g tb Y all src xs, bk := Y.nx } ρ' S
theorem forW_src {g : DWG} {tb : DWS} {Y : DEnds} {all : List D} {src : Src} : ∀ {xs : List D} {ρ : Loc} {S : Sto}, forW g tb Y all src xs ρ S → (match src with
    | none => True
    | some (j, l) => S[j]? = some (.lst l))
  | [], _, _, h => h.1
  | _ :: _, _, _, h => h.1
def wsFor (wi : DWI) (g : DWG) (tb : DWS) : DWS := fun Y ρ S => wi ρ S (fun items src S1 => forW g tb Y items src items ρ S1) Y.ex
section
variable {K : PySem.W.Frag} {W : WX} {ti : TI} {g : TG} {tb : TS} {wi : DWI} {wg : DWG} {wb : DWS} {is : List Nat}
theorem rds_for (ri : RdI K W ti wi) (rg : RdG K g wg is) (rb : RdS K W tb wb) : RdS K W (tFor ti g tb) (wsFor wi wg wb) := by
  refine ⟨fun M mu σ ρ S H D D' ok en hw n => ?_⟩
  refine ri.run M mu σ ρ S H _ D.ex _ ok en hw (fun J H1 items src S1 k1 ok1 it hsrc h1 => ?_) (n.exc ok.sub σ)
  have e1 : Ext M mu H M mu H1 := .of ok.sub k1
  refine ⟨fun i m σ' H' => m = items.length - i ∧ i ≤ items.length ∧ ∃ M' mu' ρ' S', Ext M mu H1 M' mu' H' ∧ Wok K M' mu' H' S' ∧ Env K M' mu' H' ρ' σ' ∧ forW wg wb D items src (items.drop i) ρ' S',
    ⟨items.length, by simp, Nat.zero_le _, M, mu, ρ, S1, .refl ok.sub, ok1, en.keep ok k1, by simpa using h1⟩, ?_⟩
  rintro i m σ' H' ⟨rfl, hi, M', mu', ρ', S', ex', ok', en', hl⟩
  have hsr := forW_src hl
  by_cases hlt : i < items.length
  · refine .inr ?_
    rw [List.drop_eq_getElem_cons hlt] at hl
    have hl1 := (it M' mu' H' S' ex' ok' hsr i).1 items[i] (List.getElem?_eq_getElem hlt)
    refine ⟨hl1.1, fun σ2 H2 => ∃ M2 mu2 ρ2 S2, Ext M mu H1 M2 mu2 H2 ∧ Wok K M2 mu2 H2 S2 ∧ Env K M2 mu2 H2 ρ2 σ2 ∧ forW wg wb D items src (items.drop (i + 1)) ρ2 S2,
      fun σ2 H2 q => ⟨items.length - (i + 1), by omega, rfl, hlt, q⟩, fun y H2 hy => ?_⟩
    obtain ⟨k2, ok2, r2⟩ := hl1.2 y H2 hy
    have ex2 : Ext M mu H1 M' mu' H2 := ex'.trans (.of ok'.sub k2)
    refine rg.run M' mu' σ' ρ' S' H2 items[i] y _ _ ok2 (en'.keep ok' k2) r2 hl.2 fun σ3 ρ3 en3 _ h3 => ?_
    refine rb.run M' mu' σ3 ρ3 S' H2 _ _ ok2 en3 h3 ?_
    have n2 : EOk K W M' mu' H2 D D' := n.mono (e1.trans ex2)
    exact ⟨fun M4 mu4 σ4 ρ4 S4 H4 x4 ok4 en4 h4 => ⟨M4, mu4, ρ4, S4, ex2.trans x4, ok4, en4, h4⟩, n2.rt, n2.nx, fun M4 mu4 σ4 ρ4 S4 H4 x4 ok4 en4 h4 => ⟨M4, mu4, ρ4, S4, ex2.trans x4, ok4, en4, h4⟩, n2.ex, n2.rf⟩
  · refine .inl ?_
    have e : i = items.length := by omega
    subst e
    rw [List.drop_length] at hl
    exact ⟨(it M' mu' H' S' ex' ok' hsr _).2 (Nat.le_refl _), n.nx M' mu' σ' ρ' S' H' (e1.trans ex') ok' en' hl.2⟩
end
section
variable {X : Cx} {W : WX} {tg iter : Expr} {body : List Stmt} {wi : DWI} {wg : DWG} {wb : DWS} {is : List Nat} {pos : Pos}
theorem ds_for (hp : PassesOwn (model X.prog X.w) X.A X.env X.xe) (hc : X.calm = true) (hi : DI X W tg iter wi) (hg : DG X tg wg is) (hb : DSs X W body wb)
    (hs : ∀ x, foldedSetIterable iter X.env x = pure x := by intro _; rfl) : DS X W (.For tg iter body [] pos) (wsFor wi wg wb) := by
  obtain ⟨_, pi, ri⟩ := hi.ex
  obtain ⟨_, pg, rg⟩ := hg.ex
  obtain ⟨_, pb, rb⟩ := hb.ex
  exact ⟨_, ps_for hp hc pi pg pb hs, rds_for ri rg rb⟩
/-! ### a, b = x, y; a, b, c = x, y, z -/
def wsPar (is : List Nat) (w : DWA) : DWS := fun D ρ S => w ρ S (fun ds S1 => ds.length = is.length ∧ D.nx ((is.zip ds).foldl (fun r p => r.set p.1 (some p.2)) ρ) S1) D.ex
theorem ds_par {i j : Nat} {x y : Str} {a b : Expr} {w : DWA} {px py pt : Pos} {kt k2 pt2} (hc : X.calm = true) (hN : X.N.Nodup) (hi : X.N[i]? = some x) (hj : X.N[j]? = some y) (hij : i ≠ j)
    (hx : X.env.scope.names.lookup x = some .local) (hy : X.env.scope.names.lookup y = some .local) (ha : DA X W [a, b] w)
    (hw : swappedStores [.Tuple [.Name x px, .Name y py] kt pt] (.Tuple [a, b] k2 pt2) X.env = pure (some [x, y]) := by rfl)
    (hs : swapsWithSole [.Tuple [.Name x px, .Name y py] kt pt] (.Tuple [a, b] k2 pt2) pos.line X.env = pure false := by rfl) :
    DS X W (.Assign [.Tuple [.Name x px, .Name y py] kt pt] (.Tuple [a, b] k2 pt2) pos) (wsPar [i, j] w) := by
  obtain ⟨_, p, r⟩ := ha.ex
  refine ⟨_, ps_par hc hN hi hj hij hx hy p hw hs, ⟨fun M mu σ ρ S H D D' ok en hw n => r.run M mu σ ρ S H _ _ _ ok en hw (fun vs H' ds S' k ok' r' h => ?_) (n.exc ok.sub σ)⟩⟩
  obtain ⟨hl, h⟩ := h
  match ds, hl, r', h with
  | [d1, d2], _, r', h =>
    obtain ⟨v, u, rfl, r1, r2⟩ := r'.two
    exact ⟨v, u, rfl, n.nx M mu _ _ S' H' (.of ok.sub k) ok' (((en.keep ok k).set r1).set r2) h⟩
theorem ds_par3 {i j l : Nat} {x y z : Str} {a b c : Expr} {w : DWA} {px py pz pt : Pos} {kt k2 pt2} (hc : X.calm = true) (hN : X.N.Nodup) (hi : X.N[i]? = some x) (hj : X.N[j]? = some y) (hl : X.N[l]? = some z) (hij : i ≠ j) (hil : i ≠ l) (hjl : j ≠ l)
    (hx : X.env.scope.names.lookup x = some .local) (hy : X.env.scope.names.lookup y = some .local) (hz : X.env.scope.names.lookup z = some .local) (ha : DA X W [a, b, c] w)
    (hw : swappedStores [.Tuple [.Name x px, .Name y py, .Name z pz] kt pt] (.Tuple [a, b, c] k2 pt2) X.env = pure (some [x, y, z]) := by rfl)
    (hs : swapsWithSole [.Tuple [.Name x px, .Name y py, .Name z pz] kt pt] (.Tuple [a, b, c] k2 pt2) pos.line X.env = pure false := by rfl) :
    DS X W (.Assign [.Tuple [.Name x px, .Name y py, .Name z pz] kt pt] (.Tuple [a, b, c] k2 pt2) pos) (wsPar [i, j, l] w) := by
  obtain ⟨_, p, r⟩ := ha.ex
  refine ⟨_, ps_par3 hc hN hi hj hl hij hil hjl hx hy hz p hw hs, ⟨fun M mu σ ρ S H D D' ok en hw n => r.run M mu σ ρ S H _ _ _ ok en hw (fun vs H' ds S' k ok' r' h => ?_) (n.exc ok.sub σ)⟩⟩
  obtain ⟨hl, h⟩ := h
  match ds, hl, r', h with
  | [d1, d2, d3], _, r', h =>
    obtain ⟨v, rr, rfl, r1, r'⟩ := r'
    obtain ⟨u, w, rfl, r2, r3⟩ := Rs.two r'
    exact ⟨v, u, w, rfl, n.nx M mu _ _ S' H' (.of ok.sub k) ok' ((((en.keep ok k).set r1).set r2).set r3) h⟩
/-! ### xs[i] = e, xs a cell -/
def wsStore (we wo wi : DW) : DWS := fun D ρ S => we ρ S (fun d S1 => wo ρ S1 (fun x S2 => wi ρ S2 (fun y S3 => match x, y with
  | .loc j, .int k => (match val S3 (.loc j) with
    | .lst ds => (match ixN ds.length k with
      | some n => D.nx ρ (S3.set j (.lst (ds.set n d)))
      | none => False)
    | _ => False)
  | _, _ => False) D.ex) D.ex) D.ex
section
variable {K : PySem.W.Frag} {M : Addr → Prop} {mu : List Addr} {H : Hp} {S : Sto}
/-- a cell is written -/
theorem Wok.cell (ok : Wok K M mu H S) {j : Nat} {a : Addr} (ha : mu[j]? = some a) (hx : ∀ q, H a = some q → ¬ isF q) {o : HO} {c : D} (hc : Cl K M mu (upd H a o) c a) : Wok K M mu (upd H a o) (S.set j c) ∧ Keep mu H (upd H a o) := by
  have k : Keep mu H (upd H a o) := fun b q h nb => by rw [upd_ne fun e => nb.elim (fun nb => nb (by rw [e]; exact List.mem_of_getElem? ha)) (hx q (by rw [← e]; exact h))]; exact h
  refine ⟨⟨by rw [List.length_set]; exact ok.len, ok.sub, ok.nd, fun b m => ?_, fun i b d h1 h2 => ?_⟩, k⟩
  · by_cases e : b = a
    · rw [e, upd_same]; simp
    · rw [upd_ne e]; exact ok.tr b m
  · by_cases e : j = i
    · subst e
      rw [ha] at h1
      cases h1
      have hj : j < S.length := by rw [ok.len]; exact (List.getElem?_eq_some_iff.mp ha).1
      rw [List.getElem?_set_self hj] at h2
      cases h2
      exact hc
    · rw [List.getElem?_set_ne e] at h2
      refine (ok.at_ i b d h1 h2).keep ok k (upd_ne fun q => ?_)
      subst q
      exact e (nd_ix ok.nd ha h1)
end
theorem ds_store {o i e : Expr} {we wo wx : DW} {spos : Pos} (he : DE X W e we) (ho : DE X W o wo) (hi : DE X W i wx) (hs : swapsWithSole [.Subscript o i spos] e pos.line X.env = pure false := by rfl) (hw : swappedStores [.Subscript o i spos] e X.env = pure none := by rfl)
    (h1 : (assignEach [.Subscript o i spos] X.env).map (·.2) = [assign (.Subscript o i spos) X.env] := by rfl)
    (ha : ∀ v, assign (.Subscript o i spos) X.env v = (do
      let ov ← holding [v] (eval o X.env)
      let iv ← holding [v, ov] (eval i X.env)
      standAt spos
      holding [v, ov, iv] (setItem ov iv v)
      release [v, ov, iv] []) := by intro _; rfl) : DS X W (.Assign [.Subscript o i spos] e pos) (wsStore we wo wx) := by
  obtain ⟨_, p, r⟩ := he.ex
  obtain ⟨_, p1, r1⟩ := ho.ex
  obtain ⟨_, p2, r2⟩ := hi.ex
  refine ⟨_, ps_asg p (pg_sub p1 p2 set_list ha) hs hw h1, ⟨fun M mu σ ρ S H D D' ok en hw n => ?_⟩⟩
  refine r.run M mu σ ρ S H _ _ _ ok en hw (fun v H1 d S1 k1 ok1 q1 h1 => ?_) (n.exc ok.sub σ)
  have n1 := n.mono (.of ok.sub k1)
  refine r1.run M mu σ ρ S1 H1 _ _ _ ok1 (en.keep ok k1) h1 (fun u H2 x S2 k2 ok2 q2 h2 => ?_) (n1.exc ok1.sub σ)
  have n2 := n1.mono (.of ok1.sub k2)
  refine r2.run M mu σ ρ S2 H2 _ _ _ ok2 ((en.keep ok k1).keep ok1 k2) h2 (fun w H3 y S3 k3 ok3 q3 h3 => ?_) (n2.exc ok2.sub σ)
  have n3 := n2.mono (.of ok2.sub k3)
  split at h3
  · rename_i j k
    cases e1 : val S3 (.loc j) with
    | lst ds =>
      simp only [e1] at h3
      cases e2 : ixN ds.length k with
      | none => simp only [e2] at h3
      | some m =>
        simp only [e2] at h3
        obtain ⟨a, rfl, ha⟩ := q2
        obtain rfl : w = .int k := q3
        obtain ⟨vs, hv, rv⟩ : Cl X.K M mu H3 (.lst ds) a := ok3.at_ j a _ ha (val_loc e1 (by simp))
        have q1' := (q1.keep ok1 k2).keep ok2 k3
        have ex : Ext0 M mu H3 M mu (upd H3 a (.lst (vs.set m v))) := ⟨fun b q h nb => by rw [upd_ne fun e => nb.elim (fun nb => nb (by rw [e]; exact ok3.sub a (List.mem_of_getElem? ha))) (notF_lst hv q (by rw [← e]; exact h))]; exact h, ⟨[], by simp⟩, fun a h => .inl h⟩
        obtain ⟨ok4, k4⟩ := ok3.cell (o := .lst (vs.set m v)) (c := .lst (ds.set m d)) ha (notF_lst hv) ⟨vs.set m v, upd_same, Rs.mono ex _ _ (Rs.set q1' m rv)⟩
        exact ⟨a, vs, k, m, rfl, rfl, hv, by rw [← rv.len]; exact e2, n3.nx M mu σ ρ _ _ (.of ok3.sub k4) ok4 ((((en.keep ok k1).keep ok1 k2).keep ok2 k3).keep ok3 k4) h3⟩
    | _ => simp only [e1] at h3
  · exact h3.elim
end
/-! ### a def by its body -/
mutual
/-- no cell from n on is named -/
def lo (n : Nat) : D → Bool
  | .loc i => decide (i < n)
  | .lst ds => los n ds
  | .tup ds => los n ds
  | .ktp ds => los n ds
  | .dk kvs => lok n kvs
  | .dt kvs => lot n kvs
  | .obj _ fs => lofs n fs
  | .exn _ fs => lofs n fs
  | .fn _ _ ws => los n ws
  | _ => true
def los (n : Nat) : List D → Bool
  | [] => true
  | d :: ds => lo n d && los n ds
def lok (n : Nat) : List (Key × D) → Bool
  | [] => true
  | (_, d) :: ds => lo n d && lok n ds
def lot (n : Nat) : List (List Key × D) → Bool
  | [] => true
  | (_, d) :: ds => lo n d && lot n ds
def lofs (n : Nat) : List (Str × D) → Bool
  | [] => true
  | (_, d) :: ds => lo n d && lofs n ds
end
section
variable {K : PySem.W.Frag} {M M' : Addr → Prop} {mu l : List Addr} {H : Hp}
theorem and_tt {a b : Bool} (h : (a && b) = true) : a = true ∧ b = true := Bool.and_eq_true_iff.mp h
mutual
theorem R.low (hM : ∀ a, M a → M' a) : ∀ (d : D) (v : V), lo mu.length d = true → R K M' (mu ++ l) H d v → R K M mu H d v
  | .non, v, _, h => h
  | .bl b, v, _, h => h
  | .int i, v, _, h => h
  | .str s, v, _, h => h
  | .ty n, v, _, h => h
  | .cst a, v, _, h => h
  | .loc i, v, q, ⟨a, h1, h2⟩ => ⟨a, h1, by
      have hi : i < mu.length := of_decide_eq_true q
      rw [List.getElem?_append_left hi] at h2
      exact h2⟩
  | .scr ns, v, _, ⟨a, h1, h2⟩ => ⟨a, h1, h2.imp (fun ⟨m, q⟩ => ⟨fun z => m (hM a z), q⟩) id⟩
  | .lst ds, v, q, ⟨a, vs, h1, h2, h3, h4⟩ => ⟨a, vs, h1, fun m => h2 (hM a m), h3, Rs.low hM ds vs q h4⟩
  | .tup ds, v, q, ⟨a, vs, h1, h2, h4⟩ => ⟨a, vs, h1, h2, Rs.low hM ds vs q h4⟩
  | .ktp ds, v, q, ⟨a, vs, h1, h2, h4⟩ => ⟨a, vs, h1, h2, Rs.low hM ds vs q h4⟩
  | .dk kvs, v, q, ⟨a, od, es, h1, h3, h4, h5⟩ => ⟨a, od, es, h1, h3, h4, Rk.low hM kvs _ q h5⟩
  | .dt kvs, v, q, ⟨a, od, es, h1, h3, h4, h5⟩ => ⟨a, od, es, h1, h3, h4, Rt.low hM kvs _ q h5⟩
  | .obj C fs, v, q, ⟨a, dx, gs, h1, h2, h3, h4, h5⟩ => ⟨a, dx, gs, h1, fun m => h2 (hM a m), h3, h4, Rfs.low hM fs _ q h5⟩
  | .exn C fs, v, q, ⟨a, dx, gs, h1, h2, h3, h4, h5, h6, h7⟩ => ⟨a, dx, gs, h1, fun m => h2 (hM a m), h3, fun m => h4 (hM dx m), h5, h6, Rfs.low hM fs _ q h7⟩
  | .fn F nd ws, v, q, ⟨f, dV, vals, h1, h2, h3, h4, h5, h6, h7, h8⟩ => ⟨f, dV, vals, h1, fun m => h2 (hM f m), h3, fun m => h4 (hM F.c m), h5, h6, (fun i v hv => let ⟨y, c, o, u, g1, g2, g3⟩ := h7 i v hv; ⟨y, c, o, u, g1, fun m => g2 (hM c m), g3⟩), Rs.low hM ws vals q h8⟩
theorem Rs.low (hM : ∀ a, M a → M' a) : ∀ (ds : List D) (vs : List V), los mu.length ds = true → Rs K M' (mu ++ l) H ds vs → Rs K M mu H ds vs
  | [], vs, _, h => h
  | d :: ds, vs, q, ⟨v, r, h1, h2, h3⟩ => ⟨v, r, h1, R.low hM d v (and_tt q).1 h2, Rs.low hM ds r (and_tt q).2 h3⟩
theorem Rk.low (hM : ∀ a, M a → M' a) : ∀ (ds : List (Key × D)) (vs : List V), lok mu.length ds = true → Rk K M' (mu ++ l) H ds vs → Rk K M mu H ds vs
  | [], vs, _, h => h
  | (_, d) :: ds, vs, q, ⟨v, r, h1, h2, h3⟩ => ⟨v, r, h1, R.low hM d v (and_tt q).1 h2, Rk.low hM ds r (and_tt q).2 h3⟩
theorem Rt.low (hM : ∀ a, M a → M' a) : ∀ (ds : List (List Key × D)) (vs : List V), lot mu.length ds = true → Rt K M' (mu ++ l) H ds vs → Rt K M mu H ds vs
  | [], vs, _, h => h
  | (_, d) :: ds, vs, q, ⟨v, r, h1, h2, h3⟩ => ⟨v, r, h1, R.low hM d v (and_tt q).1 h2, Rt.low hM ds r (and_tt q).2 h3⟩
theorem Rfs.low (hM : ∀ a, M a → M' a) : ∀ (ds : List (Str × D)) (vs : List V), lofs mu.length ds = true → Rfs K M' (mu ++ l) H ds vs → Rfs K M mu H ds vs
  | [], vs, _, h => h
  | (_, d) :: ds, vs, q, ⟨v, r, h1, h2, h3⟩ => ⟨v, r, h1, R.low hM d v (and_tt q).1 h2, Rfs.low hM ds r (and_tt q).2 h3⟩
end
theorem Cl.low (hM : ∀ a, M a → M' a) {d : D} {a : Addr} (q : lo mu.length d = true) (c : Cl K M' (mu ++ l) H d a) : Cl K M mu H d a := by
  cases d with
  | lst ds => obtain ⟨vs, h1, h2⟩ := c; exact ⟨vs, h1, Rs.low hM ds vs q h2⟩
  | dk kvs => obtain ⟨es, h1, h2, h3⟩ := c; exact ⟨es, h1, h2, Rk.low hM kvs _ q h3⟩
  | dt kvs => obtain ⟨es, h1, h2, h3⟩ := c; exact ⟨es, h1, h2, Rt.low hM kvs _ q h3⟩
  | obj C fs => obtain ⟨dx, gs, h1, h2, h3⟩ := c; exact ⟨dx, gs, h1, h2, Rfs.low hM fs _ q h3⟩
  | tb P z => obtain ⟨h0, ps, h1, h2, h3⟩ := c; exact ⟨h0, ps, h1, h2, fun pos cv hc => let ⟨c, e1, n, e2⟩ := h3 pos cv hc; ⟨c, e1, fun m => n (hM c m), e2⟩⟩
  | _ => exact c
theorem Wok.low {S : Sto} (hM : ∀ a, M a → M' a) (s : ∀ a ∈ mu, M a) (ok : Wok K M' (mu ++ l) H S) (q : (S.take mu.length).all (lo mu.length) = true) : Wok K M mu H (S.take mu.length) := by
  have hl := ok.len
  rw [List.length_append] at hl
  refine ⟨by rw [List.length_take]; omega, s, ok.nd.sublist (List.sublist_append_left _ _), fun a m => ok.tr a (hM a m), fun i a d h1 h2 => ?_⟩
  have hi : i < mu.length := (List.getElem?_eq_some_iff.mp h1).1
  have h3 : S[i]? = some d := by rw [List.getElem?_take_of_lt hi] at h2; exact h2
  exact (ok.at_ i a d (by rw [List.getElem?_append_left hi]; exact h1) h3).low hM (List.all_eq_true.mp q d (List.mem_of_getElem? h2))
end
section
variable {K : PySem.W.Frag} {M : Addr → Prop} {mu : List Addr} {H : Hp}
theorem tt_and {a b : Bool} (h : a = true) (g : b = true) : (a && b) = true := by rw [h, g]; rfl
mutual
theorem R.lo : ∀ (d : D) (v : V), R K M mu H d v → lo mu.length d = true
  | .non, v, _ => rfl
  | .bl b, v, _ => rfl
  | .int i, v, _ => rfl
  | .str s, v, _ => rfl
  | .ty n, v, _ => rfl
  | .cst a, v, _ => rfl
  | .scr a, v, _ => rfl
  | .loc i, v, ⟨a, h1, h2⟩ => decide_eq_true (List.getElem?_eq_some_iff.mp h2).1
  | .lst ds, v, ⟨a, vs, h1, h2, h3, h4⟩ => Rs.lo ds vs h4
  | .tup ds, v, ⟨a, vs, h1, h2, h4⟩ => Rs.lo ds vs h4
  | .ktp ds, v, ⟨a, vs, h1, h2, h4⟩ => Rs.lo ds vs h4
  | .dk kvs, v, ⟨a, od, es, h1, h3, h4, h5⟩ => Rk.lo kvs _ h5
  | .dt kvs, v, ⟨a, od, es, h1, h3, h4, h5⟩ => Rt.lo kvs _ h5
  | .obj C fs, v, ⟨a, dx, gs, h1, h2, h3, h4, h5⟩ => Rfs.lo fs _ h5
  | .tb _ _, v, _ => rfl
  | .exn C fs, v, ⟨a, dx, gs, h1, h2, h3, h4, h5, h6, h7⟩ => Rfs.lo fs _ h7
  | .fn F nd ws, v, ⟨f, dV, vals, h1, h2, h3, h4, h5, h6, h7, h8⟩ => Rs.lo ws vals h8
theorem Rs.lo : ∀ (ds : List D) (vs : List V), Rs K M mu H ds vs → los mu.length ds = true
  | [], vs, _ => rfl
  | d :: ds, vs, ⟨v, r, h1, h2, h3⟩ => tt_and (R.lo d v h2) (Rs.lo ds r h3)
theorem Rk.lo : ∀ (ds : List (Key × D)) (vs : List V), Rk K M mu H ds vs → lok mu.length ds = true
  | [], vs, _ => rfl
  | (_, d) :: ds, vs, ⟨v, r, h1, h2, h3⟩ => tt_and (R.lo d v h2) (Rk.lo ds r h3)
theorem Rt.lo : ∀ (ds : List (List Key × D)) (vs : List V), Rt K M mu H ds vs → lot mu.length ds = true
  | [], vs, _ => rfl
  | (_, d) :: ds, vs, ⟨v, r, h1, h2, h3⟩ => tt_and (R.lo d v h2) (Rt.lo ds r h3)
theorem Rfs.lo : ∀ (ds : List (Str × D)) (vs : List V), Rfs K M mu H ds vs → lofs mu.length ds = true
  | [], vs, _ => rfl
  | (_, d) :: ds, vs, ⟨v, r, h1, h2, h3⟩ => tt_and (R.lo d v h2) (Rfs.lo ds r h3)
end
theorem Wok.scoped {S : Sto} (ok : Wok K M mu H S) : S.all (lo S.length) = true := by
  rw [List.all_eq_true]
  intro d hd
  obtain ⟨i, hi⟩ := List.getElem?_of_mem hd
  have hl : i < mu.length := by rw [← ok.len]; exact (List.getElem?_eq_some_iff.mp hi).1
  have c := ok.at_ i _ d (List.getElem?_eq_getElem hl) hi
  rw [ok.len]
  cases d with
  | lst ds => obtain ⟨vs, h1, h2⟩ := c; exact Rs.lo ds vs h2
  | dk kvs => obtain ⟨es, h1, h2, h3⟩ := c; exact Rk.lo kvs _ h3
  | dt kvs => obtain ⟨es, h1, h2, h3⟩ := c; exact Rt.lo kvs _ h3
  | obj C fs => obtain ⟨dx, gs, h1, h2, h3⟩ := c; exact Rfs.lo fs _ h3
  | non => rfl
  | tb _ _ => rfl
  | _ => exact c.elim
end
/-- what a def hands back, its own cells' content in their place -/
def thw (n : Nat) (S : Sto) : D → Option D
  | .loc i => if i < n then some (.loc i) else (match S[i]? with
    | some (.lst ds) => if los n ds = true then some (.lst ds) else none
    | _ => none)
  | d => if lo n d = true then some d else none
def endsOf (n : Nat) (P : DK) (E : Ex) : DEnds where
  nx := fun _ S' => (S'.length = n ∧ P .non S') ∨ ((S'.take n).all (lo n) = true ∧ P .non (S'.take n))
  rt := fun d S' => (S'.length = n ∧ P d S') ∨ ∃ d', thw n S' d = some d' ∧ (S'.take n).all (lo n) = true ∧ P d' (S'.take n)
  ex := fun c fs S' => (S'.length = n ∧ E c fs S') ∨ (lofs n fs = true ∧ (S'.take n).all (lo n) = true ∧ E c fs (S'.take n))
def startD (N : Nat) (ds : List D) : Loc := ds.map some ++ List.replicate (N - ds.length) none
theorem env_start {K : PySem.W.Frag} {M : Addr → Prop} {mu : List Addr} {H : Hp} {N : List Str} {ds : List D} {vs : List V} (r : Rs K M mu H ds vs) : Env K M mu H (startD N.length ds) (L2.start N vs) := by
  have hl := r.len
  refine ⟨by simp [startD, L2.start, hl], fun i d h => ?_⟩
  unfold startD at h
  unfold L2.start
  by_cases hi : i < ds.length
  · rw [List.getElem?_append_left (by simpa using hi), List.getElem?_map] at h
    cases e : ds[i]? with
    | none => rw [e] at h; cases h
    | some d' =>
      rw [e] at h
      have e' : d' = d := Option.some.inj (Option.some.inj h)
      subst e'
      obtain ⟨v, hv, rv⟩ := r.get e
      exact ⟨v, by rw [List.getElem?_append_left (by simp; omega), List.getElem?_map, hv]; rfl, rv⟩
  · rw [List.getElem?_append_right (by simp; omega), List.getElem?_replicate] at h
    split at h <;> cases h
theorem eok_def {K : PySem.W.Frag} {M : Addr → Prop} {mu : List Addr} {H : Hp} {S : Sto} {P : DK} {Ex : Ex} {Q : VK} {E : XK} (ok : Wok K M mu H S) (n : Nrm K M mu H P Q) (x : Exc K M mu H Ex (fun C d H' => E C d H')) :
    EOk K (fun C d _ H' => E C d H') M mu H (endsOf S.length P Ex) { nx := fun _ H' => Q .non H', rt := Q } := by
  have hl := ok.len
  have same : ∀ {M' : Addr → Prop} {mu' : List Addr} {H' : Hp} {S' : Sto}, L2.Same H H → DL.Ext M mu H M' mu' H' → Wok K M' mu' H' S' → S'.length = S.length → Wok K M mu H' S' ∧ ∀ {d v}, R K M' mu' H' d v → R K M mu H' d v := fun {M' mu' H' S'} _ e ok' h => by
    obtain ⟨l, rfl⟩ := e.pre
    have : l = [] := by
      have h2 := ok'.len
      rw [List.length_append] at h2
      exact List.length_eq_zero_iff.mp (by omega)
    subst this
    rw [List.append_nil] at ok'
    refine ⟨ok'.less e.up ok.sub, fun {d v} r => ?_⟩
    rw [List.append_nil] at r
    exact R.mono (ext_less e.up) d v r
  refine ⟨fun M' mu' σ' ρ' S' H' e ok' en h => ?_, fun M' mu' v d S' H' e ok' r h => ?_, fun _ _ _ _ _ _ _ _ _ h => h.elim, fun _ _ _ _ _ _ _ _ _ h => h.elim, fun M' mu' C d σ' c fs S' H' e ok' xr h => ?_, fun _ _ _ _ _ _ _ _ _ _ _ _ _ h => h.elim⟩
  · rcases h with ⟨h1, h2⟩ | ⟨h1, h2⟩
    · exact n .non H' .non S' e.keep (same (.refl _) e ok' h1).1 rfl h2
    · obtain ⟨l, rfl⟩ := e.pre
      rw [hl] at h1 h2
      exact n .non H' .non _ e.keep (ok'.low e.up ok.sub h1) rfl h2
  · rcases h with ⟨h1, h2⟩ | ⟨d', h0, h1, h2⟩
    · obtain ⟨q1, q2⟩ := same (.refl _) e ok' h1
      exact n v H' d S' e.keep q1 (q2 r) h2
    · have hnew := e.new
      obtain ⟨l, rfl⟩ := e.pre
      rw [hl] at h0 h1 h2
      refine n v H' d' _ e.keep (ok'.low e.up ok.sub h1) ?_ h2
      have plain : lo mu.length d = true → R K M mu H' d v := fun q => R.low e.up d v q r
      cases d with
      | loc i =>
        have h0 : (if i < mu.length then some (DL.D.loc i) else (match S'[i]? with
          | some (.lst ds) => if los mu.length ds = true then some (DL.D.lst ds) else none
          | _ => none)) = some d' := h0
        by_cases hi : i < mu.length
        · rw [if_pos hi] at h0
          cases h0
          exact plain (decide_eq_true hi)
        · rw [if_neg hi] at h0
          cases q : S'[i]? with
          | none => rw [q] at h0; cases h0
          | some c =>
            rw [q] at h0
            cases c with
            | lst ds =>
              have h0' : (if los mu.length ds = true then some (D.lst ds) else none) = some d' := h0
              by_cases hq : los mu.length ds = true
              · rw [if_pos hq] at h0'
                cases h0'
                obtain ⟨a, rfl, ha⟩ := r
                obtain ⟨vs, g1, g2⟩ : Cl K M' (mu ++ l) H' (.lst ds) a := ok'.at_ i a _ ha q
                refine ⟨a, vs, rfl, fun m => ?_, g1, Rs.low e.up ds vs hq g2⟩
                rcases hnew a (List.mem_of_getElem? ha) with z | z
                · obtain ⟨j, hj⟩ := List.getElem?_of_mem z
                  have hj' : (mu ++ l)[j]? = some a := by
                    rw [List.getElem?_append_left (List.getElem?_eq_some_iff.mp hj).1]; exact hj
                  have := nd_ix ok'.nd ha hj'
                  have := (List.getElem?_eq_some_iff.mp hj).1
                  omega
                · exact ok.tr a m z
              · rw [if_neg hq] at h0'
                cases h0'
            | _ => cases h0
      | _ =>
        simp only [thw] at h0
        split at h0
        · rename_i hq
          cases h0
          exact plain hq
        · cases h0
  · obtain ⟨rfl, a, gs, rfl, hm, ha, hn, hf⟩ := xr
    rcases h with ⟨h1, h2⟩ | ⟨h0, h1, h2⟩
    · obtain ⟨l, rfl⟩ := e.pre
      have : l = [] := by
        have h2 := ok'.len
        rw [List.length_append] at h2
        exact List.length_eq_zero_iff.mp (by omega)
      subst this
      rw [List.append_nil] at ok' hf
      exact x _ _ H' c fs S' e.keep (ok'.less e.up ok.sub) ⟨rfl, a, gs, rfl, fun m => hm (e.up a m), ha, hn, Rfs.mono (ext_less e.up) _ _ hf⟩ h2
    · obtain ⟨l, rfl⟩ := e.pre
      rw [hl] at h0 h1 h2
      exact x _ _ H' c fs _ e.keep (ok'.low e.up ok.sub h1) ⟨rfl, a, gs, rfl, fun m => hm (e.up a m), ha, hn, Rfs.low e.up _ _ h0 hf⟩ h2
section
variable {P : Program} {w : World} {K : PySem.W.Frag} {mg : Str → Option Value} {base : Heap} {x qual : Str} {params : Arguments} {body : List Stmt} {scope : Scope} {dvs : List V} {kws : List (Str × V)} {f : Addr} {fd : FuncData}
/-- THE RULE for a def over trees (CX: CX0, or L2.CX P w where it may raise) -/
theorem ok_def {CX : CXT} {N ps : List Str} {k : Nat} {sp : DSp} {wb : DWS} (F : FunD K x qual params body scope dvs kws f fd) (sc : FnScope N ps scope) (len : ∀ ds S P E, sp ds S P E → ds.length = ps.length)
    (hb : ∀ (cdv : Value) (A : Around) (outer : List PySem.Env) (s : Shared) (H : Hp) (E : XK), Room k (A.deeper (envOfC qual scope s.heap.objs.size f cdv)) → DSs (cxOf CX P w K mg base N qual scope f cdv A outer s H E) (fun C d _ H' => E C d H') body wb)
    (hw : ∀ ds S P E, S.all (lo S.length) = true → sp ds S P E → wb (endsOf S.length P E) (startD N.length ds) S) : FnOk P w K mg base CX (k + 1) f fd ps (toSp K sp) := by
  refine F.ok sc (fun vs H Q E h => ?_) (fun cdv A outer s H vs Q E hr h => ?_)
  · obtain ⟨M, mu, S, ds, P, Ex, ok, r, q, _⟩ := h
    rw [← r.len]
    exact len _ _ _ _ q
  · obtain ⟨M, mu, S, ds, P, Ex, ok, r, q, n, xx⟩ := h
    obtain ⟨t, p, rb⟩ := (hb cdv A outer s H E hr).ex
    refine ⟨t, p, rb.run M mu _ _ S H _ _ ok (env_start r) (hw ds S P Ex ok.scoped q) (eok_def ok n xx)⟩
end
end DL
set_option maxRecDepth 100000
set_option maxHeartbeats 2000000
namespace DL
open PySem PySem.Spec PyProof.Rows L2
/-- a def of the top, as it stands: st at the name x, its own name nm -/
def DefIn (K : PySem.W.Frag) (mg : Str → Option Value) (x nm : Str) (st : Stmt) : Prop := ∃ (f : Addr) (fd : FuncData), FunD K nm nm (defArgs st) (defBody st) (defScope st) [] [] f fd ∧ mg x = some (.ref f)
/-- what a caller knows of x: its promise, how n positional values and the keywords ks bind -/
structure CalF (P : Program) (w : World) (K : PySem.W.Frag) (mg : Str → Option Value) (base : Heap) (CX : CXT) (k : Nat) (x : Str) (ps : List Str) (sp : DSp) (f : Addr) (fd : FuncData) : Prop where
  ok : FnOk P w K mg base CX k f fd ps (toSp K sp)
  mg : mg x = some (.ref f)
  kp : PySem.W.keepIn K (.ref f) = true
  b : Binds K fd ps []
  lk : ∃ (oc : Value) (od : Option Addr) (osl : Array (Option Value)), K.lookup f = some ⟨oc, od, .func fd, osl⟩
def Cal (P : Program) (w : World) (K : PySem.W.Frag) (mg : Str → Option Value) (base : Heap) (CX : CXT) (k : Nat) (x : Str) (ps : List Str) (sp : DSp) : Prop := ∃ f fd, CalF P w K mg base CX k x ps sp f fd
/-- the same for a call by keywords: n positional values, then those named ks, in the parameters' order -/
def CalK (P : Program) (w : World) (K : PySem.W.Frag) (mg : Str → Option Value) (base : Heap) (CX : CXT) (k : Nat) (x : Str) (ps : List Str) (n : Nat) (ks : List Str) (sp : DSp) : Prop := ∃ f fd, CalF P w K mg base CX k x ps sp f fd ∧
  ∀ (s : Shared) (us ws : List Value), us.length = n → ws.length = ks.length → BindsTo s fd ⟨us, ks.zip ws⟩ (ps.zip (us ++ ws))
/-- a global tuple -/
def GTup (K : PySem.W.Frag) (mg : Str → Option Value) (x : Str) (ds : List D) : Prop := ∃ a vs, mg x = some (.ref a) ∧ SqTK K a vs ∧ ∀ M mu H, Rs K M mu H ds vs
section
variable {X : Cx} {W : WX} {CX : CXT} {j k : Nat} {ps ks : List Str} {sp : DSp} {x : Str} {p pos : Pos} {e : Expr} {es : List Expr} {kws : List Keyword} {w wk : DWA}
theorem de_cal (c : Cal X.prog X.w X.K X.mg X.base CX j x ps sp) (hr : Room k X.A) (hx : ∀ σ, PassesAt CX X σ (WE W σ)) (ha : DA X W (e :: es) w) (hjk : j ≤ k := by first | decide | exact Nat.le_refl _ | omega) (hg : Gl X x := by rfl) (hdb : (x == ("__debug__" : Str)) = false := by decide)
    (he : starEach (e :: es) X.env = (false, eval e X.env) :: starEach es X.env := by rfl) (hpl : (backTo pos (starEach es X.env)).any (·.1) = false := by rfl) : DE X W (.Call (.Name x p) (e :: es) [] pos) (wCall sp [] w) :=
  let ⟨_, _, c⟩ := c; de_call c.ok (hr.mono hjk) hg c.mg c.kp c.b .nil (fun _ _ _ => rfl) hx ha hdb he hpl
theorem de_cal0 (c : Cal X.prog X.w X.K X.mg X.base CX j x ps sp) (hr : Room k X.A) (hx : ∀ σ, PassesAt CX X σ (WE W σ)) (hjk : j ≤ k := by first | decide | exact Nat.le_refl _ | omega) (hg : Gl X x := by rfl) (hdb : (x == ("__debug__" : Str)) = false := by decide) : DE X W (.Call (.Name x p) [] [] pos) (wCall sp [] wNil) :=
  let ⟨_, _, c⟩ := c; de_call0 c.ok (hr.mono hjk) hg c.mg c.kp c.b .nil (fun _ _ _ => rfl) hx hdb
/-! ### keywords -/
structure DKw (X : Cx) (W : WX) (kws : List Keyword) (w : DWA) : Prop where
  ex : ∃ t, PK X kws t ∧ RdA X.K W t w
theorem dk_nil : DKw X W [] wNil := ⟨_, pk_nil, ⟨fun M mu σ ρ S H P E Q ok en hw n x => n [] H [] S (.refl _ _) ok rfl hw⟩⟩
theorem dk_cons {nm : Option Str} {kpos : Pos} {we : DW} (ha : DE X W e we) (hs : DKw X W kws w) : DKw X W (⟨nm, e, kpos⟩ :: kws) (wCons we w) := by
  obtain ⟨ta, pa, ra⟩ := ha.ex
  obtain ⟨ts, ps, rs⟩ := hs.ex
  refine ⟨_, pk_cons pa ps, ⟨fun M mu σ ρ S H P E Q ok en hw n x => ?_⟩⟩
  refine ra.run M mu σ ρ S H _ E _ ok en hw (fun v H1 d S1 k1 ok1 r1 h1 => ?_) x
  refine rs.run M mu σ ρ S1 H1 _ E _ ok1 (en.keep ok k1) h1 (fun vs H2 ds S2 k2 ok2 r2 h2 => ?_) (x.mono k1)
  exact n (v :: vs) H2 (d :: ds) S2 (k1.trans k2) ok2 ⟨v, vs, rfl, r1.keep ok1 k2, r2⟩ h2
def wCallK (sp : DSp) (n m : Nat) (w wk : DWA) : DW := fun ρ S P E => w ρ S (fun ds S1 => wk ρ S1 (fun es S2 => ds.length = n ∧ es.length = m ∧ sp (ds ++ es) S2 P E) E) E
theorem run_fnkn {K : PySem.W.Frag} {n : Nat} {fd : FuncData} {f : Addr} {sp : Sp} {E : XK} {pins : List (Addr × Obj)} {σ : L2.St} {H : Hp} {s : Shared} {Q : VK} {us ws : List Value} {vs zs : List V} (F : FnOk X.prog X.w X.K X.mg X.base CX k f fd ps sp) (hr : Room k X.A)
    (hb : ∀ (s : Shared) (us ws : List Value), us.length = n → ws.length = ks.length → BindsTo s fd ⟨us, ks.zip ws⟩ (ps.zip (us ++ ws))) (hx : PassesAt CX X σ E) (I : Inv X pins σ H s) (r : Vals vs us) (rz : Vals zs ws) (l1 : vs.length = n) (l2 : zs.length = ks.length) (h : sp (vs ++ zs) H Q E) :
    wpAny (model X.prog X.w) X.A (call (.ref f) us (ks.zip ws)) (EP X pins σ Q) X.xe s := by
  refine wpAny_call (codeAny_mono (F.run X.A X.stack s H ⟨us, ks.zip ws⟩ (us ++ ws) (vs ++ zs) Q E hr I.env0 (hb s us ws (r.length.symm.trans l1) (rz.length.symm.trans l2)) (r.append rz) h) fun r s' hq => ?_)
  cases r with
  | error e => exact hx pins H s e s' I hq
  | ok fl =>
    cases fl with
    | ret u => exact I.after hq
    | next => exact False.elim hq
    | brk => exact False.elim hq
    | cont => exact False.elim hq
def tCallKn (sp : Sp) (n m : Nat) (E : L2.St → XK) (t tk : TA) : TE := fun σ H Q => t σ H fun vs H1 => tk σ H1 fun zs H2 => vs.length = n ∧ zs.length = m ∧ sp (vs ++ zs) H2 Q (E σ)
theorem rd_callK {K : PySem.W.Frag} {t tk : TA} {n m : Nat} (ra : RdA K W t w) (rk : RdA K W tk wk) : Rd K W (tCallKn (toSp K sp) n m (WE W) t tk) (wCallK sp n m w wk) := by
  refine ⟨fun M mu σ ρ S H P E Q ok en hw nn x => ?_⟩
  refine ra.run M mu σ ρ S H _ E _ ok en hw (fun vs H1 ds S1 k1 ok1 r1 h1 => ?_) x
  refine rk.run M mu σ ρ S1 H1 _ E _ ok1 (en.keep ok k1) h1 (fun us H2 es S2 k2 ok2 r2 h2 => ?_) (x.mono k1)
  refine ⟨by rw [← r1.len]; exact h2.1, by rw [← r2.len]; exact h2.2.1, M, mu, S2, ds ++ es, P, E, ok2, (r1.keep ok1 k2).app r2, h2.2.2, nn.mono (k1.trans k2), x.mono (k1.trans k2)⟩
/-- f(k = v, ..) -/
theorem de_calK0 (c : CalK X.prog X.w X.K X.mg X.base CX j x ps 0 ks sp) (hr : Room k X.A) (hx : ∀ σ, PassesAt CX X σ (WE W σ)) (hk : DKw X W kws wk) (hjk : j ≤ k := by first | decide | exact Nat.le_refl _ | omega) (hg : Gl X x := by rfl) (hall : (backToKw pos (keywordEach kws X.env)).all (·.1.isSome) = true := by rfl)
    (hks : (backToKw pos (keywordEach kws X.env)).filterMap (·.1) = ks := by rfl) (hdb : (x == ("__debug__" : Str)) = false := by decide) (hpl : ((backTo pos (starEach [] X.env)).any (·.1) || (backToKw pos (keywordEach kws X.env)).any (·.1.isNone)) = false := by rfl) :
    DE X W (.Call (.Name x p) [] kws pos) (wCallK sp 0 ks.length wNil wk) := by
  obtain ⟨f, fd, c, hb⟩ := c
  obtain ⟨tk, pk, rk⟩ := hk.ex
  refine ⟨tCallKn (toSp X.K sp) 0 ks.length (WE W) tNil tk, ⟨fun pins s σ H Q I h => ?_⟩, rd_callK (w := wNil) ⟨fun M mu σ ρ S H P E Q ok en hw n x => n [] H [] S (.refl _ _) ok rfl hw⟩ rk⟩
  refine wpAny_Call_Name_kw (ld_glob I hg c.mg ?_ hdb)
  refine PySem.W.callWith_KW0 (h₀ := X.base) I.ok.mod.kin c.kp hall ?_ hpl
  refine thn (pk.run pos pins s σ H _ I h) fun ws s2 ⟨zs, H2, I2, rz, l1, l2, q2⟩ => ⟨I2.kIn, ?_⟩
  rw [hks]
  exact run_fnkn (K := X.K) (us := []) (vs := []) c.ok (hr.mono hjk) hb (hx σ) I2 .nil rz rfl l2 q2
theorem de_calK {n : Nat} (c : CalK X.prog X.w X.K X.mg X.base CX j x ps n ks sp) (hr : Room k X.A) (hx : ∀ σ, PassesAt CX X σ (WE W σ)) (ha : DA X W (e :: es) w) (hk : DKw X W kws wk) (hjk : j ≤ k := by first | decide | exact Nat.le_refl _ | omega) (hg : Gl X x := by rfl) (hall : (backToKw pos (keywordEach kws X.env)).all (·.1.isSome) = true := by rfl)
    (hks : (backToKw pos (keywordEach kws X.env)).filterMap (·.1) = ks := by rfl) (hdb : (x == ("__debug__" : Str)) = false := by decide) (he : starEach (e :: es) X.env = (false, eval e X.env) :: starEach es X.env := by rfl)
    (hpl : ((backTo pos (starEach (e :: es) X.env)).any (·.1) || (backToKw pos (keywordEach kws X.env)).any (·.1.isNone)) = false := by rfl) :
    DE X W (.Call (.Name x p) (e :: es) kws pos) (wCallK sp n ks.length w wk) := by
  obtain ⟨f, fd, c, hb⟩ := c
  obtain ⟨t, pa, ra⟩ := ha.ex
  obtain ⟨tk, pk, rk⟩ := hk.ex
  refine ⟨tCallKn (toSp X.K sp) n ks.length (WE W) t tk, ⟨fun pins s σ H Q I h => ?_⟩, rd_callK ra rk⟩
  refine wpAny_Call_Name_kw (ld_glob I hg c.mg ?_ hdb)
  refine PySem.W.callWith_KW (h₀ := X.base) I.ok.mod.kin c.kp hall (thn (pa.run pos pins s σ H _ I h) fun us s1 ⟨vs, H1, I1, r, q⟩ => ?_) hpl he
  refine thn (pk.run pos pins s1 σ H1 _ I1 q) fun ws s2 ⟨zs, H2, I2, rz, l1, l2, q2⟩ => ⟨I2.kIn, ?_⟩
  rw [hks]
  exact run_fnkn (K := X.K) c.ok (hr.mono hjk) hb (hx σ) I2 r rz l1 l2 q2
theorem de_gtup {ds : List D} (g : GTup X.K X.mg x ds) (hg : Gl X x := by rfl) (hd : (x == ("__debug__" : Str)) = false := by decide) : DE X W (.Name x pos) (wC (.ktp ds)) :=
  let ⟨a, vs, hm, ht, hr⟩ := g; de_glob (v := .ref a) hg hm rfl (fun M mu H => ⟨a, vs, rfl, ht, hr M mu H⟩) hd
end
section
variable {P : Program} {w : World} {K : PySem.W.Frag} {mg : Str → Option Value} {base : Heap} {x nm : Str} {st : Stmt}
/-- THE RULE for a plain def of the top -/
theorem cal_def {CX : CXT} {N ps : List Str} {k : Nat} {sp : DSp} {wb : DWS} (I : DefIn K mg x nm st) (sc : FnScope N ps (defScope st))
    (hbd : ∀ (kV doc pm : Value) (an : Option Addr) (cdv ct : Value) (us : List Value), us.length = ps.length → bindArgs (PySem.W.fnOf nm nm (defArgs st) (defBody st) (defScope st) .none kV doc pm an cdv ct) ⟨us, []⟩ = pure (ps.zip us))
    (len : ∀ ds S P E, sp ds S P E → ds.length = ps.length)
    (hb : ∀ (f : Addr) (cdv : Value) (A : Around) (outer : List PySem.Env) (s : Shared) (H : Hp) (E : XK), Room k (A.deeper (envOfC nm (defScope st) s.heap.objs.size f cdv)) → DSs (cxOf CX P w K mg base N nm (defScope st) f cdv A outer s H E) (fun C d _ H' => E C d H') (defBody st) wb)
    (hw : ∀ ds S P E, S.all (lo S.length) = true → sp ds S P E → wb (endsOf S.length P E) (startD N.length ds) S) : Cal P w K mg base CX (k + 1) x ps sp := by
  obtain ⟨f, fd, F, hm⟩ := I
  exact ⟨f, fd, ⟨ok_def F sc len (fun cdv A outer s H E hr => hb f cdv A outer s H E hr) hw, hm, F.kp, F.bindsN hbd, let ⟨oc, od, _, _, _, _, _, _, _, osl, _, lk, _⟩ := F.ex; ⟨oc, od, osl, lk⟩⟩⟩
/-- .. called by keywords -/
theorem calk_def {CX : CXT} {N ps ks : List Str} {k n : Nat} {sp : DSp} (c : Cal P w K mg base CX k x ps sp) (I : DefIn K mg x nm st)
    (hbd : ∀ (kV doc pm : Value) (an : Option Addr) (cdv ct : Value) (us ws : List Value), us.length = n → ws.length = ks.length → bindArgs (PySem.W.fnOf nm nm (defArgs st) (defBody st) (defScope st) .none kV doc pm an cdv ct) ⟨us, ks.zip ws⟩ = pure (ps.zip (us ++ ws))) : CalK P w K mg base CX k x ps n ks sp := by
  obtain ⟨f, fd, c⟩ := c
  obtain ⟨f', fd', F, hm⟩ := I
  refine ⟨f, fd, c, fun s us ws l1 l2 => ?_⟩
  obtain ⟨oc, od, dV, kV, doc, pm, an, cdv, ct, osl, e, lk, hcd, hD, hK⟩ := F.ex
  obtain ⟨oc', od', osl', lk'⟩ := c.lk
  have ef : f = f' := by
    have h := c.mg.symm.trans hm
    injection h with h
    injection h
  subst ef
  rw [lk] at lk'
  injection lk' with h
  injection h with _ _ h _
  injection h with h
  subst h
  subst e
  rcases hD with ⟨_, rfl⟩ | ⟨z, _⟩
  · exact BindsTo.of_eq (hbd kV doc pm an cdv ct us ws l1 l2)
  · exact absurd rfl z
end
end DL
set_option maxRecDepth 100000
set_option maxHeartbeats 2000000
namespace DL
open PySem PySem.Spec PyProof.Rows L2
/-! ### the built-ins' own names -/
theorem bt_int : bootBuiltins "int" = some (.type "int") := by first | exact PySem.boot_int | exact PyProof.Rows.boot_int | decide +kernel
theorem bt_bool : bootBuiltins "bool" = some (.type "bool") := by first | exact PySem.boot_bool | exact PyProof.Rows.boot_bool | decide +kernel
theorem bt_str : bootBuiltins "str" = some (.type "str") := by first | exact PySem.boot_str | exact PyProof.Rows.boot_str | decide +kernel
theorem bt_list : bootBuiltins "list" = some (.type "list") := by first | exact PySem.boot_list | exact PyProof.Rows.boot_list | decide +kernel
theorem bt_tuple : bootBuiltins "tuple" = some (.type "tuple") := by first | exact PySem.boot_tuple | exact PyProof.Rows.boot_tuple | decide +kernel
theorem bt_dict : bootBuiltins "dict" = some (.type "dict") := by first | exact PySem.boot_dict | exact PyProof.Rows.boot_dict | decide +kernel
theorem bt_len : bootBuiltins "len" = some (.builtin "len") := by first | exact PySem.boot_len | exact PyProof.Rows.boot_len | decide +kernel
theorem bt_abs : bootBuiltins "abs" = some (.builtin "abs") := by first | exact PySem.boot_abs | exact PyProof.Rows.boot_abs | decide +kernel
theorem bt_all : bootBuiltins "all" = some (.builtin "all") := by first | exact PySem.boot_all | exact PyProof.Rows.boot_all | decide +kernel
theorem bt_any : bootBuiltins "any" = some (.builtin "any") := by first | exact PySem.boot_any | exact PyProof.Rows.boot_any | decide +kernel
theorem bt_isinstance : bootBuiltins "isinstance" = some (.builtin "isinstance") := by first | exact PySem.boot_isinstance | exact PyProof.Rows.boot_isinstance | decide +kernel
theorem bt_sorted : bootBuiltins "sorted" = some (.builtin "sorted") := by first | exact PySem.boot_sorted | exact PyProof.Rows.boot_sorted | decide +kernel
theorem bt_max : bootBuiltins "max" = some (.builtin "max") := by first | exact PySem.boot_max | exact PyProof.Rows.boot_max | decide +kernel
theorem bt_min : bootBuiltins "min" = some (.builtin "min") := by first | exact PySem.boot_min | exact PyProof.Rows.boot_min | decide +kernel
theorem bt_sum : bootBuiltins "sum" = some (.builtin "sum") := by first | exact PySem.boot_sum | exact PyProof.Rows.boot_sum | decide +kernel
/-! ### more operators -/
section
variable {K : PySem.W.Frag}
def subD : DF2 := fun x y S P => match x, y with
  | .int i, .int j => P (.int (i - j)) S
  | _, _ => False
theorem opd_sub : OpD K (rI0 fun i j => .int (i - j)) subD := by
  intro M mu H S x y v u P Q ok rx ry h n
  cases x with
  | int i =>
    cases y with
    | int j => exact ⟨i, j, rx, ry, n _ H (.int (i - j)) S (.refl _ _) ok rfl h⟩
    | _ => exact h.elim
  | _ => exact h.elim
def modD : DF2 := fun x y S P => match x, y with
  | .int i, .int j => 0 < j ∧ P (.int (i % j)) S
  | _, _ => False
theorem opd_mod : OpD K (rI (fun _ j => 0 < j) fun i j => .int (i % j)) modD := by
  intro M mu H S x y v u P Q ok rx ry h n
  cases x with
  | int i =>
    cases y with
    | int j => exact ⟨i, j, rx, ry, h.1, n _ H (.int (i % j)) S (.refl _ _) ok rfl h.2⟩
    | _ => exact h.elim
  | _ => exact h.elim
def fdivD : DF2 := fun x y S P => match x, y with
  | .int i, .int j => (0 < j ∧ j < 10 ^ 2000) ∧ P (.int (i / j)) S
  | _, _ => False
theorem opd_fdiv : OpD K (rI CDivW fun i j => .int (i / j)) fdivD := by
  intro M mu H S x y v u P Q ok rx ry h n
  cases x with
  | int i =>
    cases y with
    | int j =>
      refine ⟨i, j, rx, ry, wide_div (b := 7000) h.1.1 ?_ (by decide) (by decide), n _ H (.int (i / j)) S (.refl _ _) ok rfl h.2⟩
      have h1 : j.natAbs < 10 ^ 2000 := by have := h.1; omega
      exact Nat.lt_of_lt_of_le h1 (by decide +kernel)
    | _ => exact h.elim
  | _ => exact h.elim
def powD : DF2 := fun x y S P => match x, y with
  | .int i, .int j => (0 ≤ j ∧ j ≤ 1000 ∧ -1000 < i ∧ i < 1000) ∧ P (.int (i ^ j.toNat)) S
  | _, _ => False
theorem opd_pow : OpD K (rI CPow fun i j => .int (i ^ j.toNat)) powD := by
  intro M mu H S x y v u P Q ok rx ry h n
  cases x with
  | int i =>
    cases y with
    | int j =>
      exact ⟨i, j, rx, ry, ⟨h.1.1, by have := h.1; omega, by have := h.1; omega⟩, n _ H (.int (i ^ j.toNat)) S (.refl _ _) ok rfl h.2⟩
    | _ => exact h.elim
  | _ => exact h.elim
/-! ### order: ints, tuples of ints -/
def intsD : List D → Option (List Int)
  | [] => some []
  | .int i :: ds => (intsD ds).map (i :: ·)
  | _ :: _ => none
theorem ints_ok {M : Addr → Prop} {mu : List Addr} {H : Hp} : ∀ {ds : List D} {vs : List V} {ns : List Int}, Rs K M mu H ds vs → intsD ds = some ns → vs = ns.map V.int
  | [], vs, ns, r, e => by obtain rfl : vs = [] := r; obtain rfl : ([] : List Int) = ns := Option.some.inj e; rfl
  | d :: ds, vs, ns, r, e => by
    obtain ⟨v, rr, rfl, h1, h2⟩ := r
    cases d with
    | int i =>
      obtain ⟨ms, e1, rfl⟩ := Option.map_eq_some_iff.mp (show (intsD ds).map (i :: ·) = some ns from e)
      obtain rfl : v = .int i := h1
      rw [ints_ok h2 e1]
      rfl
    | _ => simp [intsD] at e
/-- from the first pair that differs on, by r; else by the lengths -/
def lexI (r : Int → Int → Bool) (z : Nat → Nat → Bool) : List Int → List Int → Bool
  | x :: xs, y :: ys => if x = y then lexI r z xs ys else r x y
  | xs, ys => z xs.length ys.length
theorem lexAt_shift {e r : Nat → Bool} {z : Bool} : ∀ {k i : Nat}, Ob.lexAt e r z (i + 1) k = Ob.lexAt (fun j => e (j + 1)) (fun j => r (j + 1)) z i k
  | 0, _ => rfl
  | k + 1, i => by
    rw [Ob.lexAt_succ, Ob.lexAt_succ, lexAt_shift]
theorem lexAt_lexI {r : Int → Int → Bool} {z : Nat → Nat → Bool} (hz : ∀ a b, z (a + 1) (b + 1) = z a b) : ∀ (ns ms : List Int),
    Ob.lexAt (fun j => decide (ns.getD j 0 = ms.getD j 0)) (fun j => r (ns.getD j 0) (ms.getD j 0)) (z ns.length ms.length) 0 (min ns.length ms.length) = lexI r z ns ms
  | [], [] => rfl
  | [], _ :: _ => by simp only [List.length_nil, Nat.zero_min]; rfl
  | _ :: _, [] => by simp only [List.length_nil, Nat.min_zero]; rfl
  | x :: xs, y :: ys => by
    have h1 : min (x :: xs).length (y :: ys).length = min xs.length ys.length + 1 := by simp only [List.length_cons]; omega
    rw [h1, Ob.lexAt_succ, lexAt_shift]
    have h2 : z (x :: xs).length (y :: ys).length = z xs.length ys.length := hz _ _
    rw [h2]
    show (if decide (x = y) = true then Ob.lexAt (fun j => decide (xs.getD j 0 = ys.getD j 0)) (fun j => r (xs.getD j 0) (ys.getD j 0)) (z xs.length ys.length) 0 (min xs.length ys.length) else r x y) = _
    rw [lexAt_lexI hz xs ys]
    show _ = (if x = y then lexI r z xs ys else r x y)
    by_cases h : x = y
    · rw [if_pos h, if_pos (decide_eq_true h)]
    · rw [if_neg h, if_neg (by simpa using h)]
def rCmpT (K : PySem.W.Frag) (r : Int → Int → Bool) (z : Nat → Nat → Bool) : R2 := fun x y H Q => ∃ (a b : Addr) (ns ms : List Int), x = .ref a ∧ y = .ref b ∧ SqT K H a (ns.map V.int) ∧ SqT K H b (ms.map V.int) ∧ Q (.bl (lexI r z ns ms)) H
theorem op_gtT {X : Cx} (hu : X.A.units < cLine) : OpR X (compareOp .Gt) (rCmpT X.K (fun x y => decide (y < x)) (fun a b => decide (b < a))) := by
  intro pins s σ H x y v u Q I rx ry h
  obtain ⟨a, b, ns, ms, rfl, rfl, ha, hb, q⟩ := h
  cases rx
  cases ry
  obtain ⟨its, r1, p1, _⟩ := I.tuple ha
  obtain ⟨its2, r2, p2, _⟩ := I.tuple hb
  have i1 : IntsAre its ns := Vals.ints r1
  have i2 : IntsAre its2 ms := Vals.ints r2
  have e1 : its.toArray.size = ns.length := by rw [List.size_toArray]; exact i1.length
  have e2 : its2.toArray.size = ms.length := by rw [List.size_toArray]; exact i2.length
  have at1 : ∀ j (h1 : j < its.toArray.size), ∃ t, its.toArray[j] = .int (ns.getD j 0) t := fun j h1 => PyProof.Rows.IntsAre.int_at i1 _ _ (by simp at h1; simp [h1])
  have at2 : ∀ j (h1 : j < its2.toArray.size), ∃ t, its2.toArray[j] = .int (ms.getD j 0) t := fun j h1 => PyProof.Rows.IntsAre.int_at i2 _ _ (by simp at h1; simp [h1])
  have R := Ob.RcOp.tuples_gt (A := X.A) (s := s) (e := fun j => decide (ns.getD j 0 = ms.getD j 0)) (r := fun j => decide (ms.getD j 0 < ns.getD j 0)) p1 p2 hu (fun j h1 h2 => by
    obtain ⟨t, et⟩ := at1 j h1
    obtain ⟨t', et'⟩ := at2 j h2
    rw [et, et']
    have z : (ns.getD j 0 == ms.getD j 0) = decide (ns.getD j 0 = ms.getD j 0) := by
      by_cases q : ns.getD j 0 = ms.getD j 0
      · rw [decide_eq_true q]; exact beq_iff_eq.mpr q
      · rw [decide_eq_false q]; exact beq_eq_false_iff_ne.mpr q
    rw [← z]
    exact SeqAt.EqAt.int_int _ _ _ _) (fun j h1 h2 _ => by
    obtain ⟨t, et⟩ := at1 j h1
    obtain ⟨t', et'⟩ := at2 j h2
    rw [et, et']
    exact Ob.RcOp.gt_int _ _ _ _)
  rw [e1, e2] at R
  have ez := lexAt_lexI (r := fun x y => decide (y < x)) (z := fun a b => decide (b < a)) (fun a b => by simp) ns ms
  have z : wpAny (model X.prog X.w) X.A (compareOp .Gt (.ref a) (.ref b)) (EP X pins σ Q) X.xe s := R X.prog X.w X.xe (EP X pins σ Q) ⟨.bl _, H, I, rfl, by
    have e3 : (decide (ns.length > ms.length)) = decide (ms.length < ns.length) := rfl
    rw [e3, ez]
    exact q⟩
  exact z
/-- ints, or tuples of ints -/
def ordD (g : Int → Int → Bool) (z : Nat → Nat → Bool) : DF2 := fun x y S P => match val S x, val S y with
  | .int i, .int j => P (.bl (g i j)) S
  | .tup ds, .tup es => (match intsD ds, intsD es with
    | some ns, some ms => P (.bl (lexI g z ns ms)) S
    | _, _ => False)
  | _, _ => False
theorem opd_ord {g : Int → Int → Bool} {z : Nat → Nat → Bool} : OpD K (fun x y H Q => rI0 (fun i j => .bl (g i j)) x y H Q ∨ rCmpT K g z x y H Q) (ordD g z) := by
  intro M mu H S x y v u P Q ok rx ry h n
  unfold ordD at h
  cases e1 : val S x with
  | int i =>
    cases e2 : val S y with
    | int j => simp only [e1, e2] at h; exact .inl ⟨i, j, val_int ok rx e1, val_int ok ry e2, n _ H (.bl (g i j)) S (.refl _ _) ok rfl h⟩
    | _ => simp only [e1, e2] at h
  | tup ds =>
    cases e2 : val S y with
    | tup es =>
      simp only [e1, e2] at h
      cases e3 : intsD ds with
      | none => simp only [e3] at h
      | some ns =>
        cases e4 : intsD es with
        | none => simp only [e3, e4] at h
        | some ms =>
          simp only [e3, e4] at h
          obtain ⟨a, vs, rfl, ha, ra⟩ := seq_tup ok rx e1
          obtain ⟨b, us, rfl, hb, rb⟩ := seq_tup ok ry e2
          rw [ints_ok ra e3] at ha
          rw [ints_ok rb e4] at hb
          exact .inr ⟨a, b, ns, ms, rfl, rfl, ha, hb, n _ H (.bl _) S (.refl _ _) ok rfl h⟩
    | _ => simp only [e1, e2] at h
  | _ => simp only [e1] at h
def ltD := ordD (fun i j => decide (i < j)) (fun a b => decide (a < b))
def leD := cmpD (fun i j => decide (i ≤ j))
def gtD := ordD (fun i j => decide (j < i)) (fun a b => decide (b < a))
def geD := cmpD (fun i j => decide (j ≤ i))
theorem op_gtA {X : Cx} (hu : X.A.units + 64 < cLine) : OpR X (compareOp .Gt) (fun x y H Q => rI0 (fun i j => .bl (decide (j < i))) x y H Q ∨ rCmpT X.K (fun i j => decide (j < i)) (fun a b => decide (b < a)) x y H Q) := OpR.or op_gt (op_gtT (Nat.lt_of_le_of_lt (Nat.le_add_right _ _) hu))
theorem opd_gtA : OpD K (fun x y H Q => rI0 (fun i j => .bl (decide (j < i))) x y H Q ∨ rCmpT K (fun i j => decide (j < i)) (fun a b => decide (b < a)) x y H Q) gtD := opd_ord
theorem opd_lt : OpD K (rI0 fun i j => .bl (decide (i < j))) (cmpD fun i j => decide (i < j)) := opd_B
theorem opd_le : OpD K (rI0 fun i j => .bl (decide (i ≤ j))) leD := opd_B
theorem opd_gt : OpD K (rI0 fun i j => .bl (decide (j < i))) (cmpD fun i j => decide (j < i)) := opd_B
theorem opd_ge : OpD K (rI0 fun i j => .bl (decide (j ≤ i))) geD := opd_B
end
/-! ### zip, enumerate, list(range) -/
def zipD (a b : List D) : List D := List.zipWith (fun x y => D.tup [x, y]) a b
def wiZip (w : DWA) : DWI := fun ρ S P E => w ρ S (fun ds S1 => match ds with
  | [.lst a, .lst b] => P (zipD a b) none S1
  | [.tup a, .tup b] => P (zipD a b) none S1
  | _ => False) E
section
variable {K : PySem.W.Frag} {M : Addr → Prop} {mu : List Addr} {H : Hp} {S : Sto}
theorem zip_at {a b : List D} {i : Nat} {d : D} (h : (zipD a b)[i]? = some d) : ∃ x y, a[i]? = some x ∧ b[i]? = some y ∧ d = .tup [x, y] := by
  unfold zipD at h
  rw [List.getElem?_zipWith] at h
  cases e1 : a[i]? with
  | none => rw [e1] at h; cases h
  | some x =>
    cases e2 : b[i]? with
    | none => rw [e1, e2] at h; cases h
    | some y => rw [e1, e2] at h; exact ⟨x, y, rfl, rfl, (Option.some.inj h).symm⟩
theorem zip_end {a b : List D} {i : Nat} (h : (zipD a b).length ≤ i) : a.length ≤ i ∨ b.length ≤ i := by
  unfold zipD at h
  rw [List.length_zipWith] at h
  omega
theorem new2 (ok : Wok K M mu H S) {T : Addr} (hT : H T = none) {d1 d2 : D} {x1 x2 : V} (r1 : R K M mu H d1 x1) (r2 : R K M mu H d2 x2) : Keep mu H (upd H T (.tup [x1, x2])) ∧ Wok K M mu (upd H T (.tup [x1, x2])) S ∧ R K M mu (upd H T (.tup [x1, x2])) (.tup [d1, d2]) (.ref T) :=
  let ⟨ok2, k2, _⟩ := ok.alloc hT (.tup [x1, x2])
  ⟨k2, ok2, newT ok hT (ds := [d1, d2]) ⟨x1, [x2], rfl, r1, x2, [], rfl, r2, rfl⟩⟩
theorem itOk_zip {a b : Addr} {vs us : List V} {ds es : List D} (hm : ¬ M a) (ha : H a = some (.lst vs)) (r : Rs K M mu H ds vs) (hm2 : ¬ M b) (hb : H b = some (.lst us)) (r2 : Rs K M mu H es us) : ItOk K (Itz K a b) M mu H (zipD ds es) none := fun M' mu' H' S' ex ok _ i => by
  have h1 := (ex.toExt0.okM hm ha).2
  have h2 := (ex.toExt0.okM hm2 hb).2
  have r1' := Rs.mono ex.toExt0 _ _ r
  have r2' := Rs.mono ex.toExt0 _ _ r2
  refine ⟨fun d hd => ?_, fun hi => ⟨vs, us, SqL.of h1, SqL.of h2, ?_⟩⟩
  · obtain ⟨d1, d2, g1, g2, rfl⟩ := zip_at hd
    obtain ⟨v, hv, rv⟩ := r1'.get g1
    obtain ⟨u, hu, ru⟩ := r2'.get g2
    refine ⟨⟨vs, us, v, u, SqL.of h1, SqL.of h2, hv, hu⟩, fun x H2 y => ?_⟩
    obtain ⟨T, x1, x2, rfl, nT, rfl, y1, y2⟩ := y
    obtain rfl : v = x1 := Option.some.inj (hv.symm.trans (y1 vs (SqL.of h1)))
    obtain rfl : u = x2 := Option.some.inj (hu.symm.trans (y2 us (SqL.of h2)))
    exact new2 ok nT rv ru
  · rw [← r.len, ← r2.len]
    exact zip_end hi
theorem itOk_zipT {a b : Addr} {vs us : List V} {ds es : List D} (ha : H a = some (.tup vs) ∨ SqTK K a vs) (r : Rs K M mu H ds vs) (hb : H b = some (.tup us) ∨ SqTK K b us) (r2 : Rs K M mu H es us) : ItOk K (RZ.ItzT K a b) M mu H (zipD ds es) none := fun M' mu' H' S' ex ok _ i => by
  have h1 : SqT K H' a vs := ha.elim (fun q => SqT.of (ex.toExt0.keepM a _ q (.inr isF_tup))) fun q => q.to
  have h2 : SqT K H' b us := hb.elim (fun q => SqT.of (ex.toExt0.keepM b _ q (.inr isF_tup))) fun q => q.to
  have r1' := Rs.mono ex.toExt0 _ _ r
  have r2' := Rs.mono ex.toExt0 _ _ r2
  refine ⟨fun d hd => ?_, fun hi => ⟨vs, us, h1, h2, ?_⟩⟩
  · obtain ⟨d1, d2, g1, g2, rfl⟩ := zip_at hd
    obtain ⟨v, hv, rv⟩ := r1'.get g1
    obtain ⟨u, hu, ru⟩ := r2'.get g2
    refine ⟨⟨vs, us, v, u, h1, h2, hv, hu⟩, fun x H2 y => ?_⟩
    obtain ⟨T, x1, x2, rfl, nT, rfl, y1, y2⟩ := y
    obtain rfl : v = x1 := Option.some.inj (hv.symm.trans (y1 vs h1))
    obtain rfl : u = x2 := Option.some.inj (hu.symm.trans (y2 us h2))
    exact new2 ok nT rv ru
  · rw [← r.len, ← r2.len]
    exact zip_end hi
end
section
variable {X : Cx} {W : WX} {e e2 : Expr} {w : DWA} {we : DW} {p p2 pos tpos : Pos} {elts : List Expr} {kk : Nat}
theorem di_zip (hg : Gl X "zip") (hm : X.mg "zip" = none) (ha : DA X W [e, e2] w) (hs : starEach [e, e2] X.env = (false, eval e X.env) :: starEach [e2] X.env := by rfl) (hpl : (backTo pos (starEach [e2] X.env)).any (·.1) = false := by rfl) : DI X W (.Tuple elts kk tpos) (.Call (.Name "zip" p) [e, e2] [] pos) (wiZip w) := by
  obtain ⟨_, pa, ra⟩ := ha.ex
  refine ⟨_, RZ.pi_zipA hg hm pa hs hpl, ⟨fun M mu σ ρ S H P E Q ok en hw n x => ?_⟩⟩
  refine ra.run M mu σ ρ S H _ E _ ok en hw (fun vs H1 ds S1 k1 ok1 r1 h1 => ?_) x
  split at h1
  · obtain ⟨v, u, rfl, ⟨a, vs, rfl, hm1, ha1, rr1⟩, ⟨b, us, rfl, hm2, hb1, rr2⟩⟩ := Rs.two r1
    exact ⟨a, b, vs, us, rfl, .inl ⟨SqL.of ha1, SqL.of hb1, n _ H1 _ none S1 k1 ok1 (itOk_zip hm1 ha1 rr1 hm2 hb1 rr2) True.intro h1⟩⟩
  · obtain ⟨v, u, rfl, ⟨a, vs, rfl, ha1, rr1⟩, ⟨b, us, rfl, hb1, rr2⟩⟩ := Rs.two r1
    exact ⟨a, b, vs, us, rfl, .inr ⟨SqT.of ha1, SqT.of hb1, n _ H1 _ none S1 k1 ok1 (itOk_zipT (.inl ha1) rr1 (.inl hb1) rr2) True.intro h1⟩⟩
  · exact h1.elim
/-- list(range(n)) -/
def wLstRg (we : DW) : DW := fun ρ S P E => we ρ S (fun d S1 => match d with
  | .int n => (-1000000 ≤ n ∧ n ≤ 1000000) ∧ P (.lst (rangeD 0 n.toNat)) S1
  | _ => False) E
theorem rs_range {K : PySem.W.Frag} {M : Addr → Prop} {mu : List Addr} {H : Hp} : ∀ (l : List Nat) (lo : Int), Rs K M mu H (l.map fun i => D.int (lo + (i : Nat))) (l.map fun i => V.int (lo + (i : Nat)))
  | [], _ => rfl
  | x :: l, lo => ⟨_, _, rfl, rfl, rs_range l lo⟩
theorem de_listRg1 {pr : Pos} (hm : X.mg "list" = none) (hm2 : X.mg "range" = none) (he : DE X W e we) (hc : X.calm = true := by rfl) (hg : Gl X "list" := by rfl) (hg2 : Gl X "range" := by rfl) (na1 : starEach [e] X.env = (false, eval e X.env) :: starEach [] X.env := by rfl)
    (na : starEach [.Call (.Name "range" pr) [e] [] p2] X.env = (false, eval (.Call (.Name "range" pr) [e] [] p2) X.env) :: starEach [] X.env := by rfl) : DE X W (.Call (.Name "list" p) [.Call (.Name "range" pr) [e] [] p2] [] pos) (wLstRg we) := by
  obtain ⟨_, pa, ra⟩ := he.ex
  refine ⟨_, pe_listRg hc hg hm (prg_1 hg2 hm2 pa na1) na, ⟨fun M mu σ ρ S H P E Q ok en hw n x => ?_⟩⟩
  refine ra.run M mu σ ρ S H _ E _ ok en hw (fun v H1 d S1 k1 ok1 r1 h1 => ?_) x
  cases d with
  | int i =>
    have h1 : (-1000000 ≤ i ∧ i ≤ 1000000) ∧ P (.lst (rangeD 0 i.toNat)) S1 := h1
    refine ⟨i, r1, ⟨by omega, by omega, by omega, by omega, by omega⟩, fun q hq => ?_⟩
    obtain ⟨ok2, k2, _⟩ := ok1.alloc hq (.lst (rgV 0 i))
    refine n _ _ _ S1 (k1.trans k2) ok2 (newL ok1 hq ?_) h1.2
    have := rs_range (K := X.K) (M := M) (mu := mu) (H := H1) (List.range i.toNat) 0
    unfold rangeD rgV
    rw [show (i - 0).toNat = i.toNat by omega]
    exact this
  | _ => exact h1.elim
end
/-! ### name = [.. for ..] -/
section
variable {X : Cx} {W : WX} {elt tg iter : Expr} {ifs : List Expr} {scope : Scope} {own : List (Str × Nat)} {pos : Pos} {wi : DWI} {wg : DWG} {wt : DWT} {we : DW} {is : List Nat}
theorem ds_setLc {i : Nat} {y : Str} {py spos : Pos} (hc : X.calm = true) (hN : X.N.Nodup) (hy : X.N[i]? = some y) (hyl : X.env.scope.names.lookup y = some .local)
    (hsw : swapsWith (.ListComp elt [⟨tg, iter, ifs, 0⟩] scope pos) (some (.Name y py)) spos.line X.env = pure true) (hi : DI X W tg iter wi) (ok : BlkOk X.N X.env.scope scope own)
    (hg : ∀ (s : Shared) (H : Hp) (C : Addr) (cl : List (Str × Addr)) (fp : List Addr), DG (X.blk s H scope (compEnvC scope cl C X.env) fp) tg wg is)
    (ht : ∀ (s : Shared) (H : Hp) (C : Addr) (cl : List (Str × Addr)) (fp : List Addr), DTs (X.blk s H scope (compEnvC scope cl C X.env) fp) W0 ifs wt)
    (he : ∀ (s : Shared) (H : Hp) (C : Addr) (cl : List (Str × Addr)) (fp : List Addr), DE (X.blk s H scope (compEnvC scope cl C X.env) fp) W0 elt we)
    (his : ∀ i ∈ is, i ∈ own.map (·.2) := by decide) (hs : ∀ x, foldedSetIterable iter X.env x = pure x := by intro _; rfl) :
    DS X W (.Assign [.Name y py] (.ListComp elt [⟨tg, iter, ifs, 0⟩] scope pos) spos) (wsSet i (wLc wi wg wt we (own.map (·.2)))) := by
  obtain ⟨ti, pi, ri⟩ := hi.ex
  have r := rd_lc ri (rd_gOf (K := X.K) (wg := wg)) his (rd_ttOf (w := wt)) (rd_tOf (w := we))
  exact ⟨_, ps_setLc hc hN hy hyl hsw pi ok (fun s H C cl fp => (hg s H C cl fp).can) (fun s H C cl fp => (ht s H C cl fp).can) (fun s H C cl fp => (he s H C cl fp).can) hs,
    ⟨fun M mu σ ρ S H D D' ok en hw n => r.run M mu σ ρ S H _ _ _ ok en hw (fun v H' d S' k ok' r' h => n.nx M mu _ _ S' H' (.of ok.sub k) ok' ((en.keep ok k).set r') h) (n.exc ok.sub σ)⟩⟩
end
/-! ### a fresh list as a cell -/
def NrmF (K : PySem.W.Frag) (M : Addr → Prop) (mu : List Addr) (H : Hp) (P : List D → Sto → Prop) (Q : VK) : Prop := ∀ p vs H' ds S', H p = none → Keep mu H H' → H' p = some (.lst vs) → Wok K (fun a => M a ∨ a = p) mu H' S' → Rs K (fun a => M a ∨ a = p) mu H' ds vs → P ds S' → Q (.ref p) H'
abbrev DSpF := List D → Sto → (List D → Sto → Prop) → Ex → Prop
def toSpF (K : PySem.W.Frag) (sp : DSpF) : Sp := fun vs H Q E => ∃ (M : Addr → Prop) (mu : List Addr) (S : Sto) (ds : List D) (P : List D → Sto → Prop) (Ex : Ex), Wok K M mu H S ∧ Rs K M mu H ds vs ∧ sp ds S P Ex ∧ NrmF K M mu H P Q ∧ Exc K M mu H Ex (fun C d H' => E C d H')
structure RdF (K : PySem.W.Frag) (W : WX) (t : TE) (w : DWA) : Prop where
  run : ∀ (M : Addr → Prop) (mu : List Addr) (σ : L2.St) (ρ : Loc) (S : Sto) (H : Hp) (P : List D → Sto → Prop) (E : Ex) (Q : VK), Wok K M mu H S → Env K M mu H ρ σ → w ρ S P E → NrmF K M mu H P Q → Exc K M mu H E (fun C d H' => W C d σ H') → t σ H Q
structure DF (X : Cx) (W : WX) (e : Expr) (w : DWA) : Prop where
  ex : ∃ t, PE X e t ∧ RdF X.K W t w
section
variable {K : PySem.W.Frag} {M : Addr → Prop} {mu : List Addr} {H H' : Hp} {S : Sto}
/-- the object set aside becomes the store's next cell -/
theorem Wok.push {p : Addr} {vs : List V} {ds : List D} (ok : Wok K (fun a => M a ∨ a = p) mu H S) (np : p ∉ mu) (hp : H p = some (.lst vs)) (r : Rs K (fun a => M a ∨ a = p) mu H ds vs) :
    Wok K (fun a => M a ∨ a = p) (mu ++ [p]) H (S ++ [.lst ds]) ∧ Ext0 (fun a => M a ∨ a = p) mu H (fun a => M a ∨ a = p) (mu ++ [p]) H := by
  have ex : Ext0 (fun a => M a ∨ a = p) mu H (fun a => M a ∨ a = p) (mu ++ [p]) H := ⟨fun _ _ h _ => h, ⟨[p], rfl⟩, fun a h => .inl h⟩
  refine ⟨⟨by simp [ok.len], fun a h => ?_, ?_, ok.tr, fun i a d h1 h2 => ?_⟩, ex⟩
  · rcases List.mem_append.mp h with h | h
    · exact ok.sub a h
    · exact .inr (by simpa using h)
  · rw [List.nodup_append]
    exact ⟨ok.nd, by simp, fun a ha b hb e => np (by
      have hb' : b = p := by simpa using hb
      rw [← hb', ← e]; exact ha)⟩
  · by_cases hi : i < mu.length
    · rw [List.getElem?_append_left hi] at h1
      rw [List.getElem?_append_left (by rw [ok.len]; exact hi)] at h2
      have c := ok.at_ i a d h1 h2
      cases d with
      | lst ds => obtain ⟨vs, h1, h2⟩ := c; exact ⟨vs, h1, Rs.mono ex _ _ h2⟩
      | dk kvs => obtain ⟨es, h1, h2, h3⟩ := c; exact ⟨es, h1, h2, Rk.mono ex _ _ h3⟩
      | dt kvs => obtain ⟨es, h1, h2, h3⟩ := c; exact ⟨es, h1, h2, Rt.mono ex _ _ h3⟩
      | obj C fs => obtain ⟨dx, gs, h1, h2, h3⟩ := c; exact ⟨dx, gs, h1, h2, Rfs.mono ex _ _ h3⟩
      | tb P q => exact ⟨c.1, TabM.mono ex rfl c.2⟩
      | _ => exact c
    · have hi' := (List.getElem?_eq_some_iff.mp h1).1
      have e : i = mu.length := by simp at hi'; omega
      subst e
      have h1' : p = a := by simpa using h1
      have h2' : D.lst ds = d := by rw [← ok.len] at h2; simpa using h2
      subst h1' h2'
      exact ⟨vs, hp, Rs.mono ex _ _ r⟩
end
/-- name = a fresh list, held as a cell -/
def wsSetF (i : Nat) (w : DWA) : DWS := fun Y ρ S => w ρ S (fun ds S1 => Y.nx (ρ.set i (some (.loc S1.length))) (S1 ++ [.lst ds])) Y.ex
section
variable {X : Cx} {W : WX} {e : Expr} {es : List Expr} {w : DWA} {pos : Pos}
theorem ds_setF {i : Nat} {x : Str} {pos' : Pos} (hN : X.N.Nodup) (hi : X.N[i]? = some x) (hx : L2.Loc X.env.scope x) (he : DF X W e w) (hs : swapsWith e (some (.Name x pos')) pos.line X.env = pure false := by rfl) (hf : X.fn x = true ∨ X.env.scope.names.lookup x = some .local := by first | exact .inl rfl | exact .inr rfl | assumption) :
    DS X W (.Assign [.Name x pos'] e pos) (wsSetF i w) := by
  obtain ⟨_, p, r⟩ := he.ex
  refine ⟨_, ps_set hN hi hx p hs hf, ⟨fun M mu σ ρ S H D D' ok en hw n => ?_⟩⟩
  refine r.run M mu σ ρ S H _ _ _ ok en hw (fun p vs H' ds S' hp k hp' ok' rr h => ?_) (n.exc ok.sub σ)
  have np : p ∉ mu := fun m => ok.tr p (ok.sub p m) hp
  obtain ⟨ok2, ex2⟩ := ok'.push np hp' rr
  have ex1 : Ext M mu H (fun a => M a ∨ a = p) (mu ++ [p]) H' := ⟨⟨fun b q hb nb => k b q hb (nb.imp (fun nb m => nb (ok.sub b m)) id), ⟨[p], rfl⟩, fun a h => h.imp id fun e => by rw [e]; exact hp⟩, k, fun a h => by
    rcases List.mem_append.mp h with h | h
    · exact .inl h
    · exact .inr (by rw [show a = p by simpa using h]; exact hp), fun a h => .inl h, ok.sub⟩
  refine n.nx _ (mu ++ [p]) _ _ _ H' ex1 ok2 ((en.mono ex1.toExt0).set (d := .loc S'.length) (v := .ref p) ⟨p, rfl, ?_⟩) h
  rw [ok'.len]
  simp
theorem df_lst (hs : DA X W es w) : DF X W (.List es pos) (fun ρ S P E => w ρ S (fun ds S1 => ds.length ≤ 1000000 ∧ P ds S1) E) := by
  obtain ⟨ts, ps, rs⟩ := hs.ex
  refine ⟨_, pe_lst ps, ⟨fun M mu σ ρ S H P E Q ok en hw n x => ?_⟩⟩
  refine rs.run M mu σ ρ S H _ E _ ok en hw (fun vs H1 ds S1 k1 ok1 r1 h1 => ?_) x
  refine ⟨by rw [← r1.len]; exact line_of h1.1, fun p hp => ?_⟩
  obtain ⟨ex, oka⟩ := ok1.aside hp (.lst vs)
  refine n p vs _ ds S1 ?_ (k1.trans ex.keep) upd_same oka (Rs.mono ex.toExt0 _ _ r1) h1.2
  exact (Ext.of ok.sub k1).back hp fun m => ok1.tr p (ok1.sub p m) hp
end
/-- return a fresh list -/
def wsRetF (w : DWA) : DWS := fun Y ρ S => w ρ S Y.rf Y.ex
theorem ds_retF {X : Cx} {W : WX} {e : Expr} {w : DWA} {pos : Pos} (h : DF X W e w) : DS X W (.Return (some e) pos) (wsRetF w) := by
  obtain ⟨_, p, r⟩ := h.ex
  exact ⟨_, ps_ret p, ⟨fun M mu σ ρ S H D D' ok en hw n => r.run M mu σ ρ S H _ _ _ ok en hw (fun p vs H' ds S' hp k hp' ok' rr h =>
    n.rf M mu p vs ds S' H' (.of ok.sub k) hp' hp (fun m => ok.tr p (ok.sub p m) hp) ok' rr h) (n.exc ok.sub σ)⟩⟩
def endsF (n : Nat) (P : List D → Sto → Prop) (E : Ex) : DEnds where
  nx := fun _ _ => False
  rt := fun _ _ => False
  ex := fun c fs S' => S'.length = n ∧ E c fs S'
  rf := fun ds S' => S'.length = n ∧ P ds S'
theorem eok_defF {K : PySem.W.Frag} {M : Addr → Prop} {mu : List Addr} {H : Hp} {S : Sto} {P : List D → Sto → Prop} {Ex : Ex} {Q : VK} {E : XK} (ok : Wok K M mu H S) (n : NrmF K M mu H P Q) (x : Exc K M mu H Ex (fun C d H' => E C d H')) :
    EOk K (fun C d _ H' => E C d H') M mu H (endsF S.length P Ex) { nx := fun _ H' => Q .non H', rt := Q } := by
  have hl := ok.len
  have nil_of : ∀ {l : List Addr} {S' : Sto}, S'.length = S.length → S'.length = (mu ++ l).length → l = [] := fun {l S'} h1 h2 => by
    rw [List.length_append] at h2
    exact List.length_eq_zero_iff.mp (by omega)
  refine ⟨fun _ _ _ _ _ _ _ _ _ h => h.elim, fun _ _ _ _ _ _ _ _ _ h => h.elim, fun _ _ _ _ _ _ _ _ _ h => h.elim, fun _ _ _ _ _ _ _ _ _ h => h.elim, fun M' mu' C d σ' c fs S' H' e ok' xr h => ?_, fun M' mu' p vs ds S' H' e hp hn np ok' r h => ?_⟩
  · obtain ⟨rfl, a, gs, rfl, hm, ha, hnn, hf⟩ := xr
    have k := e.keep
    have up := e.up
    obtain ⟨l, rfl⟩ := e.pre
    obtain rfl := nil_of h.1 ok'.len
    rw [List.append_nil] at ok' hf
    exact x _ _ H' c fs S' k (ok'.less up ok.sub) ⟨rfl, a, gs, rfl, fun m => hm (up a m), ha, hnn, Rfs.mono (ext_less up) _ _ hf⟩ h.2
  · have k := e.keep
    have up := e.up
    obtain ⟨l, rfl⟩ := e.pre
    obtain rfl := nil_of h.1 ok'.len
    rw [List.append_nil] at ok' r
    exact n p vs H' ds S' hn k hp (ok'.less (fun a h => h.imp (up a) id) fun a m => .inl (ok.sub a m)) (Rs.mono (ext_less fun a h => h.imp (up a) id) _ _ r) h.2
/-- what a caller knows of a def that hands back a fresh list -/
def CalFr (P : Program) (w : World) (K : PySem.W.Frag) (mg : Str → Option Value) (base : Heap) (CX : CXT) (k : Nat) (x : Str) (ps : List Str) (sp : DSpF) : Prop := ∃ (f : Addr) (fd : FuncData), FnOk P w K mg base CX k f fd ps (toSpF K sp) ∧ mg x = some (.ref f) ∧ PySem.W.keepIn K (.ref f) = true ∧ Binds K fd ps []
section
variable {X : Cx} {W : WX} {CX : CXT} {j k : Nat} {ps : List Str} {sp : DSpF} {x : Str} {p pos : Pos} {e : Expr} {es : List Expr} {w : DWA}
theorem df_cal (c : CalFr X.prog X.w X.K X.mg X.base CX j x ps sp) (hr : Room k X.A) (hx : ∀ σ, PassesAt CX X σ (WE W σ)) (ha : DA X W (e :: es) w) (hjk : j ≤ k := by first | decide | exact Nat.le_refl _ | omega) (hg : Gl X x := by rfl) (hdb : (x == ("__debug__" : Str)) = false := by decide)
    (he : starEach (e :: es) X.env = (false, eval e X.env) :: starEach es X.env := by rfl) (hpl : (backTo pos (starEach es X.env)).any (·.1) = false := by rfl) : DF X W (.Call (.Name x p) (e :: es) [] pos) (fun ρ S P E => w ρ S (fun ds S1 => sp ds S1 P E) E) := by
  obtain ⟨f, fd, ok, hm, hk, hb⟩ := c
  obtain ⟨_, pa, ra⟩ := ha.ex
  refine ⟨_, pe_callSD ok (hr.mono hjk) hg hm hk hb .nil hx pa hdb he hpl, ⟨fun M mu σ ρ S H P E Q ok en hw n x => ?_⟩⟩
  refine ra.run M mu σ ρ S H _ E _ ok en hw (fun vs H1 ds S1 k1 ok1 r1 h1 => ?_) x
  refine ⟨M, mu, S1, ds, P, E, ok1, by rw [List.append_nil]; exact r1, h1, fun p vs H' ds S' hp k hp' ok' rr h => ?_, x.mono k1⟩
  exact n p vs H' ds S' ((Ext.of ok.sub k1).back hp fun m => ok1.tr p (ok1.sub p m) hp) (k1.trans k) hp' ok' rr h
end
end DL
namespace DL
open PySem PySem.Spec PyProof.Rows L2
section
variable {P : Program} {w : World} {K : PySem.W.Frag} {mg : Str → Option Value} {base : Heap} {x nm : Str} {st : Stmt}
theorem cal_defF {CX : CXT} {N ps : List Str} {k : Nat} {sp : DSpF} {wb : DWS} (I : DefIn K mg x nm st) (sc : FnScope N ps (defScope st))
    (hbd : ∀ (kV doc pm : Value) (an : Option Addr) (cdv ct : Value) (us : List Value), us.length = ps.length → bindArgs (PySem.W.fnOf nm nm (defArgs st) (defBody st) (defScope st) .none kV doc pm an cdv ct) ⟨us, []⟩ = pure (ps.zip us))
    (len : ∀ ds S P E, sp ds S P E → ds.length = ps.length)
    (hb : ∀ (f : Addr) (cdv : Value) (A : Around) (outer : List PySem.Env) (s : Shared) (H : Hp) (E : XK), Room k (A.deeper (envOfC nm (defScope st) s.heap.objs.size f cdv)) → DSs (cxOf CX P w K mg base N nm (defScope st) f cdv A outer s H E) (fun C d _ H' => E C d H') (defBody st) wb)
    (hw : ∀ ds S P E, S.all (lo S.length) = true → sp ds S P E → wb (endsF S.length P E) (startD N.length ds) S) : CalFr P w K mg base CX (k + 1) x ps sp := by
  obtain ⟨f, fd, F, hm⟩ := I
  refine ⟨f, fd, F.ok sc (fun vs H Q E h => ?_) (fun cdv A outer s H vs Q E hr h => ?_), hm, F.kp, F.bindsN hbd⟩
  · obtain ⟨M, mu, S, ds, P, Ex, ok, r, q, _⟩ := h
    rw [← r.len]
    exact len _ _ _ _ q
  · obtain ⟨M, mu, S, ds, P, Ex, ok, r, q, n, xx⟩ := h
    obtain ⟨t, p, rb⟩ := (hb f cdv A outer s H E hr).ex
    exact ⟨t, p, rb.run M mu _ _ S H _ _ ok (env_start r) (hw ds S P Ex ok.scoped q) (eok_defF ok n xx)⟩
end
/-- the built-ins' names are the built-ins' still -/
structure Bn (mg : Str → Option Value) : Prop where
  isinstance : mg "isinstance" = none
  len : mg "len" = none
  int : mg "int" = none
  bool : mg "bool" = none
  str : mg "str" = none
  list : mg "list" = none
  tuple : mg "tuple" = none
  dict : mg "dict" = none
  set : mg "set" = none
  range : mg "range" = none
  zip : mg "zip" = none
  enumerate : mg "enumerate" = none
  abs : mg "abs" = none
  all : mg "all" = none
  any : mg "any" = none
  sorted : mg "sorted" = none
  min : mg "min" = none
  max : mg "max" = none
  sum : mg "sum" = none
  repr : mg "repr" = none
  super : mg "super" = none
/-- of a kind that isinstance is asked of -/
def plainD : D → Bool
  | .non | .bl _ | .int _ | .str _ | .lst _ | .tup _ | .dk _ => true
  | _ => false
theorem plain_val {d : D} {S : Sto} (h : plainD d = true) : val S d = d := by
  cases d <;> first | rfl | cases h
end DL
set_option maxRecDepth 100000
set_option maxHeartbeats 2000000
namespace DL
open PySem PySem.Spec PyProof.Rows L2
/-! ### facts of a head -/
def dvD : He.Dv → Option D
  | .non => some .non
  | .bl b => some (.bl b)
  | .int i => some (.int i)
  | .str s => some (.str s)
  | .ty n => some (.ty n)
  | _ => none
def dvDs : List He.Dv → Option (List D)
  | [] => some []
  | v :: vs => match dvD v, dvDs vs with
    | some d, some ds => some (d :: ds)
    | _, _ => none
theorem rs_dv {K : PySem.W.Frag} {M : Addr → Prop} {mu : List Addr} {H : Hp} : ∀ {vs : List He.Dv} {ds : List D}, dvDs vs = some ds → Rs K M mu H ds (vs.map (He.Dv.v K))
  | [], ds, e => by obtain rfl : ([] : List D) = ds := Option.some.inj e; rfl
  | v :: vs, ds, e => by
    have e' : (match dvD v, dvDs vs with
      | some d, some ds => some (d :: ds)
      | _, _ => none) = some ds := by rw [← e]; rfl
    cases e1 : dvD v with
    | none => rw [e1] at e'; cases e'
    | some d =>
      cases e2 : dvDs vs with
      | none => rw [e1, e2] at e'; cases e'
      | some es =>
        rw [e1, e2] at e'
        obtain rfl : d :: es = ds := Option.some.inj e'
        refine ⟨_, _, rfl, ?_, rs_dv e2⟩
        cases v with
        | non => obtain rfl : D.non = d := Option.some.inj e1; rfl
        | bl b => obtain rfl : D.bl b = d := Option.some.inj e1; rfl
        | int b => obtain rfl : D.int b = d := Option.some.inj e1; rfl
        | str b => obtain rfl : D.str b = d := Option.some.inj e1; rfl
        | ty b => obtain rfl : D.ty b = d := Option.some.inj e1; rfl
        | _ => cases e1
theorem gtup_of {K : PySem.W.Frag} {mg : Str → Option Value} {x : Str} {vs : List He.Dv} {ds : List D} (h : He.tupB K x vs = true) (hm : mg x = some (.ref (He.ga K x))) (e : dvDs vs = some ds) : GTup K mg x ds := by
  refine ⟨_, _, hm, ?_, fun M mu H => rs_dv e⟩
  rcases He.tupB_ok h (fun _ => none) with (q | ⟨o, q⟩) | q
  · cases q
  · cases q
  · exact q
theorem defIn_of {K : PySem.W.Frag} {mg : Str → Option Value} {x nm : Str} {st : Stmt} {f : Addr} (h : ∃ fd, FunD K nm nm (defArgs st) (defBody st) (defScope st) [] [] f fd) (hm : mg x = some (.ref f)) : DefIn K mg x nm st := let ⟨fd, F⟩ := h; ⟨f, fd, F, hm⟩
/-! ### the law -/
/-- the law: at every script of at most 63 ints it gives True -/
def spLaw : DSp := fun ds S P _ => match ds with
  | [.scr ns] => ns.length ≤ 63 ∧ S = [] ∧ P (.bl true) []
  | _ => False
theorem law_sp {K : PySem.W.Frag} {H : Hp} {a : Addr} {ns : List Int} (hl : ns.length ≤ 63) (hO : Only H) (hS : SqL K H a (ns.map V.int)) : toSp K spLaw [.ref a] H (fun v _ => v = .bl true) fun _ _ _ => False := by
  refine ⟨fun _ => False, [], [], [.scr ns], fun d _ => d = .bl true, EF, ⟨rfl, (fun _ h => nomatch h), List.nodup_nil, fun _ h => False.elim h, fun i a d h => by simp at h⟩, ⟨.ref a, [], rfl, ⟨a, rfl, ?_⟩, rfl⟩, ⟨hl, rfl, rfl⟩, fun v H' d S' _ _ r e => ?_, fun _ _ _ _ _ _ _ _ _ h => h⟩
  · rcases hS with (q | ⟨o, q⟩) | q
    · rcases hO a with z | ⟨o, xs, z⟩
      · rw [z] at q; cases q
      · rw [z] at q; cases q
    · exact .inl ⟨fun h => h, .inr ⟨o, q⟩⟩
    · exact .inr q
  · subst e
    exact r
/-! ### the bag of the laws: the script's cells, how many were taken, the rest of a great one, the mixed number, the draws -/
def BagOk (b : List D) : Prop := ∃ (cells : List Int) (taken rest mixed draws : Int), b = [.lst (cells.map D.int), .int taken, .int rest, .int mixed, .int draws] ∧ 0 ≤ taken ∧ 0 ≤ rest ∧ 0 ≤ mixed ∧ mixed < 2147483629
def sp_bag : DSpF := fun ds S P _ => match ds with
  | [.scr ns] => ns.length ≤ 63 ∧ ∀ b, BagOk b → P b S
  | _ => False
def sp_pull : DSp := fun ds S P _ => match ds with
  | [.loc i, .int many] => ∃ b, S[i]? = some (.lst b) ∧ BagOk b ∧ 0 < many ∧ many < 10 ^ 1000 ∧ ∀ d b', 0 ≤ d → d < many → BagOk b' → P (.int d) (S.set i (.lst b'))
  | _ => False
def sp_of : DSp := fun ds S P _ => match ds with
  | [.loc i, .lst xs] => ∃ b, S[i]? = some (.lst b) ∧ BagOk b ∧ xs ≠ [] ∧ xs.length < 1000000 ∧ ∀ x b', x ∈ xs → BagOk b' → P x (S.set i (.lst b'))
  | _ => False
def sp_near : DSp := fun ds S P _ => match ds with
  | [.loc i, .int far] => ∃ b, S[i]? = some (.lst b) ∧ BagOk b ∧ 0 ≤ far ∧ far < 10 ^ 900 ∧ ∀ z b', -far ≤ z → z ≤ far → BagOk b' → P (.int z) (S.set i (.lst b'))
  | _ => False
def sp_any : DSp := fun ds S P _ => match ds with
  | [.loc i] => ∃ b, S[i]? = some (.lst b) ∧ BagOk b ∧ ∀ z b', -(10 ^ 30) ≤ z → z ≤ 10 ^ 30 → BagOk b' → P (.int z) (S.set i (.lst b'))
  | _ => False
theorem rt_same {n : Nat} {P : DK} {E : Ex} {d : D} {S : Sto} (hl : S.length = n) (h : P d S) : (endsOf n P E).rt d S := .inl ⟨hl, h⟩
theorem val_at {S : Sto} {i : Nat} {ds : List D} (h : S[i]? = some (.lst ds)) : val S (.loc i) = .lst ds := by
  show cont (S.getD i .non) (.loc i) = _
  rw [List.getD_eq_getElem?_getD, h]
  rfl
theorem get_set {S : Sto} {i : Nat} {d c : D} (h : S[i]? = some d) : (S.set i c)[i]? = some c := List.getElem?_set_self (List.getElem?_eq_some_iff.mp h).1
/-- a loop of a comprehension, its element a value of its item -/
theorem lcW_map {i : Nat} {te : DW} {ρ : Loc} {P : List D → Sto → Prop} {S : Sto} (f : D → D) : ∀ (xs acc : List D), (∀ x ∈ xs, ∀ Q : DK, Q (f x) S → te (ρ.set i (some x)) S Q EF) → acc.length + xs.length ≤ 1000000 → P (acc ++ xs.map f) S → lcW (wgName i) wTYes te ρ P xs acc S
  | [], acc, _, hl, h => ⟨hl, by simpa using h⟩
  | x :: xs, acc, ht, hl, h => by
    refine ⟨by rw [List.length_cons] at hl; omega, ?_⟩
    show (if true = true then te (ρ.set i (some x)) S (fun y S2 => lcW (wgName i) wTYes te ρ P xs (acc ++ [y]) S2) EF else lcW (wgName i) wTYes te ρ P xs acc S)
    rw [if_pos rfl]
    refine ht x (by simp) _ ?_
    exact lcW_map f xs (acc ++ [f x]) (fun y hy => ht y (by simp [hy])) (by rw [List.length_append, List.length_singleton]; rw [List.length_cons] at hl; omega) (by rw [List.append_assoc]; exact h)
theorem v_non {S : Sto} : val S .non = .non := rfl
theorem v_bl {S : Sto} {b : Bool} : val S (.bl b) = .bl b := rfl
theorem v_int {S : Sto} {b : Int} : val S (.int b) = .int b := rfl
theorem v_str {S : Sto} {b : Str} : val S (.str b) = .str b := rfl
theorem v_ty {S : Sto} {b : String} : val S (.ty b) = .ty b := rfl
theorem v_cst {S : Sto} {b : Addr} : val S (.cst b) = .cst b := rfl
theorem v_lst {S : Sto} {b : List D} : val S (.lst b) = .lst b := rfl
theorem v_tup {S : Sto} {b : List D} : val S (.tup b) = .tup b := rfl
theorem v_dk {S : Sto} {b : List (Key × D)} : val S (.dk b) = .dk b := rfl
theorem v_dt {S : Sto} {b : List (List Key × D)} : val S (.dt b) = .dt b := rfl
theorem v_ktp {S : Sto} {b : List D} : val S (.ktp b) = .tup b := rfl
theorem v_obj {S : Sto} {C : Addr} {b : List (Str × D)} : val S (.obj C b) = .obj C b := rfl
theorem v_scr {S : Sto} {b : List Int} : val S (.scr b) = .scr b := rfl
theorem bls_map (f : D → Bool) : ∀ l : List D, blsD (l.map fun d => .bl (f d)) = some (l.map f)
  | [] => rfl
  | d :: l => by
    show (blsD (l.map fun d => .bl (f d))).map (f d :: ·) = _
    rw [bls_map f l]
    rfl
theorem all_map_id (f : D → Bool) : ∀ l : List D, (l.map f).all id = l.all f
  | [] => rfl
  | d :: l => by
    show (f d && (l.map f).all id) = (f d && l.all f)
    rw [all_map_id f l]
theorem at5_0 {a b c d e : D} : atI [a, b, c, d, e] 0 = some a := rfl
theorem at5_1 {a b c d e : D} : atI [a, b, c, d, e] 1 = some b := rfl
theorem at5_2 {a b c d e : D} : atI [a, b, c, d, e] 2 = some c := rfl
theorem at5_3 {a b c d e : D} : atI [a, b, c, d, e] 3 = some d := rfl
theorem at5_4 {a b c d e : D} : atI [a, b, c, d, e] 4 = some e := rfl
theorem ix5_1 : ixN 5 1 = some 1 := rfl
theorem ix5_2 : ixN 5 2 = some 2 := rfl
theorem ix5_3 : ixN 5 3 = some 3 := rfl
theorem ix5_4 : ixN 5 4 = some 4 := rfl
theorem at2_0 {a b : D} : atI [a, b] 0 = some a := rfl
theorem at2_1 {a b : D} : atI [a, b] 1 = some b := rfl
theorem at3_0 {a b c : D} : atI [a, b, c] 0 = some a := rfl
theorem at3_1 {a b c : D} : atI [a, b, c] 1 = some b := rfl
theorem at3_2 {a b c : D} : atI [a, b, c] 2 = some c := rfl
theorem at_in {α : Type} {l : List α} {z : Int} (h0 : 0 ≤ z) (h1 : z < l.length) : ∃ x, x ∈ l ∧ atI l z = some x := by
  obtain ⟨n, rfl⟩ : ∃ n : Nat, z = n := ⟨z.toNat, by omega⟩
  have hn : n < l.length := by omega
  exact ⟨l[n], List.getElem_mem hn, atI_nat (List.getElem?_eq_getElem hn)⟩
/-! ### kinds -/
def kdInt : D → Bool
  | .int _ | .bl _ => true
  | _ => false
def kdBl : D → Bool
  | .bl _ => true
  | _ => false
def kdStr : D → Bool
  | .str _ => true
  | _ => false
def kdLst : D → Bool
  | .lst _ => true
  | _ => false
def kdTup : D → Bool
  | .tup _ => true
  | _ => false
theorem isi_int {d : D} (h : plainD d = true) : isiN d "int" = some (kdInt d) := by cases d <;> first | rfl | cases h
theorem isi_bl {d : D} (h : plainD d = true) : isiN d "bool" = some (kdBl d) := by cases d <;> first | rfl | cases h
theorem isi_str {d : D} (h : plainD d = true) : isiN d "str" = some (kdStr d) := by cases d <;> first | rfl | cases h
theorem isi_lst {d : D} (h : plainD d = true) : isiN d "list" = some (kdLst d) := by cases d <;> first | rfl | cases h
theorem isi_tup {d : D} (h : plainD d = true) : isiN d "tuple" = some (kdTup d) := by cases d <;> first | rfl | cases h
/-! ### _law_same: equal and of the same kinds, part by part -/
mutual
/-- plain all through -/
def deep : D → Bool
  | .non | .bl _ | .int _ | .str _ => true
  | .lst ds => decide (ds.length ≤ 1000000) && deeps ds
  | .tup ds => decide (ds.length ≤ 1000000) && deeps ds
  | _ => false
def deeps : List D → Bool
  | [] => true
  | d :: ds => deep d && deeps ds
end
mutual
def same : D → D → Bool
  | .lst a, .lst b => sames a b
  | .tup a, .tup b => sames a b
  | .non, .non => true
  | .bl a, .bl b => decide (a = b)
  | .int a, .int b => decide (a = b)
  | .str a, .str b => decide (a = b)
  | _, _ => false
def sames : List D → List D → Bool
  | [], [] => true
  | a :: as, b :: bs => same a b && sames as bs
  | _, _ => false
end
mutual
theorem same_refl : ∀ d : D, deep d = true → same d d = true
  | .non, _ => rfl
  | .bl b, _ => by simp [same]
  | .int b, _ => by simp [same]
  | .str b, _ => by simp [same]
  | .lst ds, h => sames_refl ds (and_tt h).2
  | .tup ds, h => sames_refl ds (and_tt h).2
  | .ty _, h => by cases h
  | .cst _, h => by cases h
  | .loc _, h => by cases h
  | .scr _, h => by cases h
  | .dk _, h => by cases h
  | .dt _, h => by cases h
  | .ktp _, h => by cases h
  | .obj _ _, h => by cases h
theorem sames_refl : ∀ ds : List D, deeps ds = true → sames ds ds = true
  | [], _ => rfl
  | d :: ds, h => tt_and (same_refl d (and_tt h).1) (sames_refl ds (and_tt h).2)
end
mutual
def dep : D → Nat
  | .lst ds => deps ds + 1
  | .tup ds => deps ds + 1
  | _ => 0
def deps : List D → Nat
  | [] => 0
  | d :: ds => max (dep d) (deps ds)
end
def sp_same (n : Nat) : DSp := fun ds S P _ => match ds with
  | [x, y] => deep x = true ∧ deep y = true ∧ dep y ≤ n ∧ P (.bl (same x y)) S
  | _ => False
end DL
set_option maxRecDepth 100000
namespace DL
open PySem PySem.Spec PyProof.Rows L2
/-! the combinators applied, one step each: for simp from the head on -/
theorem wC_ap  {d : D} {z0} {S} {P} {z3} : wC d z0 S P z3 = (P d S) := rfl
theorem wNil_ap  {z0} {S} {P} {z3} : wNil  z0 S P z3 = (P [] S) := rfl
theorem wCons_ap  {wa : DW} {w : DWA} {ρ} {S} {P} {E} : wCons wa w ρ S P E = (wa ρ S (fun x S1 => w ρ S1 (fun xs S2 => P (x :: xs) S2) E) E) := rfl
theorem wLst_ap  {w : DWA} {ρ} {S} {P} {E} : wLst w ρ S P E = (w ρ S (fun ds S1 => ds.length ≤ 1000000 ∧ P (.lst ds) S1) E) := rfl
theorem wTup_ap  {w : DWA} {ρ} {S} {P} {E} : wTup w ρ S P E = (w ρ S (fun ds S1 => ds.length ≤ 1000000 ∧ P (.tup ds) S1) E) := rfl
theorem wOp_ap  {f : DF2} {wa wb : DW} {ρ} {S} {P} {E} : wOp f wa wb ρ S P E = (wa ρ S (fun x S1 => wb ρ S1 (fun y S2 => f x y S2 P) E) E) := rfl
theorem wB_ap  {w : DW} {ρ} {S} {P} {E} : wB w ρ S P E = (w ρ S (fun x S1 => match x with
  | .bl k => P k S1
  | _ => False) E) := rfl
theorem wUn_ap  {f : D → Sto → DK → Prop} {wa : DW} {ρ} {S} {P} {E} : wUn f wa ρ S P E = (wa ρ S (fun x S1 => f x S1 P) E) := rfl
theorem wCB_ap  {f : DFn} {w : DWA} {ρ} {S} {P} {E} : wCB f w ρ S P E = (w ρ S (fun xs S1 => f xs S1 P) E) := rfl
theorem wCall_ap  {sp : DSp} {dd : List D} {w : DWA} {ρ} {S} {P} {E} : wCall sp dd w ρ S P E = (w ρ S (fun ds S1 => sp (ds ++ dd) S1 P E) E) := rfl
theorem wCallK_ap  {sp : DSp} {n m : Nat} {w wk : DWA} {ρ} {S} {P} {E} : wCallK sp n m w wk ρ S P E = (w ρ S (fun ds S1 => wk ρ S1 (fun es S2 => ds.length = n ∧ es.length = m ∧ sp (ds ++ es) S2 P E) E) E) := rfl
theorem wSl_ap  {wa : DW} {wl wh : DWO} {ρ} {S} {P} {E} : wSl wa wl wh ρ S P E = (wa ρ S (fun x S1 => wl ρ S1 (fun l S2 => wh ρ S2 (fun u S3 => sliceD x l u S3 P) E) E) E) := rfl
theorem wPart_ap  {w : DW} {ρ} {S} {P} {E} : wPart w ρ S P E = (w ρ S (fun x S1 => match x with
  | .int i => P (some i) S1
  | _ => False) E) := rfl
theorem wNoPart_ap  {z0} {S} {P} {z3} : wNoPart  z0 S P z3 = (P none S) := rfl
theorem wAndT_ap  {a b : DWT} {ρ} {S} {P} {E} : wAndT a b ρ S P E = (a ρ S (fun k S1 => if k = true then b ρ S1 P E else P false S1) E) := rfl
theorem wOrT_ap  {a b : DWT} {ρ} {S} {P} {E} : wOrT a b ρ S P E = (a ρ S (fun k S1 => if k = true then P true S1 else b ρ S1 P E) E) := rfl
theorem wNotT_ap  {a : DWT} {ρ} {S} {P} {E} : wNotT a ρ S P E = (a ρ S (fun k S1 => P (!k) S1) E) := rfl
theorem wAndV_ap  {a b : DW} {ρ} {S} {P} {E} : wAndV a b ρ S P E = (a ρ S (fun x S1 => match x with
  | .bl k => if k = true then b ρ S1 P E else P (.bl false) S1
  | _ => False) E) := rfl
theorem wOrV_ap  {a b : DW} {ρ} {S} {P} {E} : wOrV a b ρ S P E = (a ρ S (fun x S1 => match x with
  | .bl k => if k = true then P (.bl true) S1 else b ρ S1 P E
  | _ => False) E) := rfl
theorem wIf_ap  {t : DWT} {a b : DW} {ρ} {S} {P} {E} : wIf t a b ρ S P E = (t ρ S (fun k S1 => if k = true then a ρ S1 P E else b ρ S1 P E) E) := rfl
theorem wTru_ap  {w : DW} {ρ} {S} {P} {E} : wTru w ρ S P E = (w ρ S (fun x S1 => truD x S1 P) E) := rfl
theorem wLc_ap  {wi : DWI} {g : DWG} {tt : DWT} {te : DW} {vs : List Nat} {ρ} {S} {P} {E} : wLc wi g tt te vs ρ S P E = (wi ρ S (fun items src S1 => (match src with
  | none => True
  | some _ => False) ∧ lcW g tt te (wD ρ vs) (fun ds S2 => P (.lst ds) S2) items [] S1) E) := rfl
theorem wiSeq_ap  {w : DW} {ρ} {S} {P} {E} : wiSeq w ρ S P E = (w ρ S (fun d S1 => match d with
  | .lst ds => P ds none S1
  | .tup ds => P ds none S1
  | .ktp ds => P ds none S1
  | .loc i => (match val S1 (.loc i) with
    | .lst ds => P ds (some (i, ds)) S1
    | _ => False)
  | _ => False) E) := rfl
theorem wiRng1_ap  {w : DWA} {ρ} {S} {P} {E} : wiRng1 w ρ S P E = (w ρ S (fun ds S1 => match ds with
  | [.int j] => (-1000000 ≤ j ∧ j ≤ 1000000) ∧ P (rangeD 0 j.toNat) none S1
  | _ => False) E) := rfl
theorem wiRng2_ap  {w : DWA} {ρ} {S} {P} {E} : wiRng2 w ρ S P E = (w ρ S (fun ds S1 => match ds with
  | [.int i, .int j] => (-1000000 ≤ i ∧ i ≤ 1000000 ∧ -1000000 ≤ j ∧ j ≤ 1000000) ∧ P (rangeD i (j - i).toNat) none S1
  | _ => False) E) := rfl
theorem wiZip_ap  {w : DWA} {ρ} {S} {P} {E} : wiZip w ρ S P E = (w ρ S (fun ds S1 => match ds with
  | [.lst a, .lst b] => P (zipD a b) none S1
  | [.tup a, .tup b] => P (zipD a b) none S1
  | _ => False) E) := rfl
theorem wLstRg_ap  {we : DW} {ρ} {S} {P} {E} : wLstRg we ρ S P E = (we ρ S (fun d S1 => match d with
  | .int n => (-1000000 ≤ n ∧ n ≤ 1000000) ∧ P (.lst (rangeD 0 n.toNat)) S1
  | _ => False) E) := rfl
theorem wTYes_ap  {z0} {S} {P} {z3} : wTYes  z0 S P z3 = (P true S) := rfl
theorem wsNext_ap  {D} {ρ} {S} : wsNext  D ρ S = (D.nx ρ S) := rfl
theorem wsSeq_ap  {a b : DWS} {D} {ρ} {S} : wsSeq a b D ρ S = (a { D with nx := b D } ρ S) := rfl
theorem wsRet_ap  {w : DW} {D} {ρ} {S} : wsRet w D ρ S = (w ρ S D.rt D.ex) := rfl
theorem wsRetN_ap  {D} {z1} {S} : wsRetN  D z1 S = (D.rt .non S) := rfl
theorem wsRetF_ap  {w : DWA} {Y} {ρ} {S} : wsRetF w Y ρ S = (w ρ S Y.rf Y.ex) := rfl
theorem wsDrop_ap  {w : DW} {D} {ρ} {S} : wsDrop w D ρ S = (w ρ S (fun _ S1 => D.nx ρ S1) D.ex) := rfl
theorem wsIf_ap  {t : DWT} {a b : DWS} {D} {ρ} {S} : wsIf t a b D ρ S = (t ρ S (fun k S1 => if k = true then a D ρ S1 else b D ρ S1) D.ex) := rfl
theorem wsAsg_ap  {w : DW} {g : DWG} {D} {ρ} {S} : wsAsg w g D ρ S = (w ρ S (fun d S1 => g d S1 ρ fun ρ' => D.nx ρ' S1) D.ex) := rfl
theorem wsSet_ap  {i : Nat} {w : DW} {D} {ρ} {S} : wsSet i w D ρ S = (w ρ S (fun d S1 => D.nx (ρ.set i (some d)) S1) D.ex) := rfl
theorem wsSetF_ap  {i : Nat} {w : DWA} {Y} {ρ} {S} : wsSetF i w Y ρ S = (w ρ S (fun ds S1 => Y.nx (ρ.set i (some (.loc S1.length))) (S1 ++ [.lst ds])) Y.ex) := rfl
theorem wsPar_ap  {is : List Nat} {w : DWA} {D} {ρ} {S} : wsPar is w D ρ S = (w ρ S (fun ds S1 => ds.length = is.length ∧ D.nx ((is.zip ds).foldl (fun r p => r.set p.1 (some p.2)) ρ) S1) D.ex) := rfl
theorem wsStore_ap  {we wo wi : DW} {D} {ρ} {S} : wsStore we wo wi D ρ S = (we ρ S (fun d S1 => wo ρ S1 (fun x S2 => wi ρ S2 (fun y S3 => match x, y with
  | .loc j, .int k => (match val S3 (.loc j) with
    | .lst ds => (match ixN ds.length k with
      | some n => D.nx ρ (S3.set j (.lst (ds.set n d)))
      | none => False)
    | _ => False)
  | _, _ => False) D.ex) D.ex) D.ex) := rfl
theorem wsFor_ap  {wi : DWI} {g : DWG} {tb : DWS} {Y} {ρ} {S} : wsFor wi g tb Y ρ S = (wi ρ S (fun items src S1 => forW g tb Y items src items ρ S1) Y.ex) := rfl
theorem wsBreak_ap  {D} {ρ} {S} : wsBreak  D ρ S = (D.bk ρ S) := rfl
theorem wsCont_ap  {D} {ρ} {S} : wsCont  D ρ S = (D.ct ρ S) := rfl
theorem wgName_ap  {i : Nat} {d} {z1} {ρ} {P} : wgName i d z1 ρ P = (P (ρ.set i (some d))) := rfl
theorem wgNil_ap  {ds} {z1} {ρ} {P} : wgNil  ds z1 ρ P = (ds = [] ∧ P ρ) := rfl
theorem wgCons_ap  {g : DWG} {gs : DWGs} {ds} {S} {ρ} {P} : wgCons g gs ds S ρ P = (match ds with
  | d :: r => g d S ρ fun ρ' => gs r S ρ' P
  | [] => False) := rfl
theorem wgTup_ap  {gs : DWGs} {d} {S} {ρ} {P} : wgTup gs d S ρ P = (match val S d with
  | .tup ds => gs ds S ρ P
  | _ => False) := rfl
theorem wVar_0 {d : D} {ρ : Loc} {S : Sto} {P : DK} {E : Ex} : wVar 0 (some d :: ρ) S P E = P d S := rfl
theorem wVar_s {n : Nat} {x : Option D} {ρ : Loc} {S : Sto} {P : DK} {E : Ex} : wVar (n + 1) (x :: ρ) S P E = wVar n ρ S P E := rfl
theorem wD_nil {ρ : Loc} : wD ρ [] = ρ := rfl
theorem wD_cons {ρ : Loc} {v : Nat} {vs : List Nat} : wD ρ (v :: vs) = (wD ρ vs).set v none := rfl
theorem lcW_nil {g : DWG} {tt : DWT} {te : DW} {ρ : Loc} {P : List D → Sto → Prop} {acc : List D} {S : Sto} : lcW g tt te ρ P [] acc S = (acc.length ≤ 1000000 ∧ P acc S) := rfl
theorem lcW_cons {g : DWG} {tt : DWT} {te : DW} {ρ : Loc} {P : List D → Sto → Prop} {x : D} {xs acc : List D} {S : Sto} : lcW g tt te ρ P (x :: xs) acc S = (acc.length ≤ 1000000 ∧ g x S ρ fun ρ' => tt ρ' S (fun b S1 => if b = true then te ρ' S1 (fun y S2 => lcW g tt te ρ P xs (acc ++ [y]) S2) EF else lcW g tt te ρ P xs acc S1) EF) := rfl
theorem startD_ap {n : Nat} {ds : List D} : startD n ds = ds.map some ++ List.replicate (n - ds.length) none := rfl
end DL
set_option maxRecDepth 100000
namespace DL
open PySem PySem.Spec PyProof.Rows L2
/-- a loop by an invariant over what is left -/
theorem for_inv {g : DWG} {tb : DWS} {Y : DEnds} {all : List D} (J : List D → Loc → Sto → Prop)
    (hs : ∀ x xs ρ S, J (x :: xs) ρ S → ∀ nx : Loc → Sto → Prop, (∀ ρ' S', J xs ρ' S' → nx ρ' S') → g x S ρ fun ρ' => tb { Y with nx := nx, ct := nx, bk := Y.nx } ρ' S)
    (he : ∀ ρ S, J [] ρ S → Y.nx ρ S) : ∀ xs ρ S, J xs ρ S → forW g tb Y all none xs ρ S
  | [], ρ, S, h => ⟨True.intro, he ρ S h⟩
  | x :: xs, ρ, S, h => ⟨True.intro, hs x xs ρ S h _ fun ρ' S' h' => for_inv J hs he xs ρ' S' h'⟩
theorem cut63 {ns : List Int} (h : ns.length ≤ 63) : cutD (ns.map D.int) none (some 63) = ns.map D.int := by
  have h1 : HT.sIx (ns.map D.int).length 0 none = 0 := rfl
  have h2 : (ns.map D.int).length ≤ HT.sIx (ns.map D.int).length (ns.map D.int).length (some 63) := by
    rw [List.length_map]
    unfold HT.sIx
    first | omega | (simp; omega) | (split <;> omega)
  unfold cutD
  rw [h1, List.drop_zero, Nat.sub_zero, List.take_of_length_le h2]
theorem mulC {i j : Int} (h : j.natAbs < 2 ^ 64) : MulOk i j := .inr (.inl h)
theorem mulC1 {i j : Int} (h : i.natAbs < 2 ^ 64) : MulOk i j := .inl h
end DL
namespace DL
open PySem PySem.Spec PyProof.Rows L2
theorem val_set {S : Sto} {i : Nat} {ds : List D} (h : i < S.length) : val (S.set i (.lst ds)) (.loc i) = .lst ds := val_at (List.getElem?_set_self h)
theorem set_set {S : Sto} {i : Nat} {a b : D} : (S.set i a).set i b = S.set i b := by simp
theorem lt_at {S : Sto} {i : Nat} {d : D} (h : S[i]? = some d) : i < S.length := (List.getElem?_eq_some_iff.mp h).1
end DL
namespace DL
open PySem PySem.Spec PyProof.Rows L2
/-- a step, what it reaches told -/
theorem ws_join {a b : DWS} {Y : DEnds} {ρ : Loc} {S : Sto} (J : Loc → Sto → Prop) (h1 : ∀ nx : Loc → Sto → Prop, (∀ ρ' S', J ρ' S' → nx ρ' S') → a { Y with nx := nx } ρ S) (h2 : ∀ ρ' S', J ρ' S' → b Y ρ' S') : wsSeq a b Y ρ S := h1 _ h2
end DL
namespace DL
open PySem PySem.Spec PyProof.Rows L2
/-! tables -/
theorem is_non_int : isiN .non "int" = some false := rfl
theorem is_bl_int {b : Bool} : isiN (.bl b) "int" = some true := rfl
theorem is_int_int {b : Int} : isiN (.int b) "int" = some true := rfl
theorem is_str_int {b : Str} : isiN (.str b) "int" = some false := rfl
theorem is_lst_int {b : List D} : isiN (.lst b) "int" = some false := rfl
theorem is_tup_int {b : List D} : isiN (.tup b) "int" = some false := rfl
theorem is_dk_int {b : List (Key × D)} : isiN (.dk b) "int" = some false := rfl
theorem is_non_bool : isiN .non "bool" = some false := rfl
theorem is_bl_bool {b : Bool} : isiN (.bl b) "bool" = some true := rfl
theorem is_int_bool {b : Int} : isiN (.int b) "bool" = some false := rfl
theorem is_str_bool {b : Str} : isiN (.str b) "bool" = some false := rfl
theorem is_lst_bool {b : List D} : isiN (.lst b) "bool" = some false := rfl
theorem is_tup_bool {b : List D} : isiN (.tup b) "bool" = some false := rfl
theorem is_dk_bool {b : List (Key × D)} : isiN (.dk b) "bool" = some false := rfl
theorem is_non_str : isiN .non "str" = some false := rfl
theorem is_bl_str {b : Bool} : isiN (.bl b) "str" = some false := rfl
theorem is_int_str {b : Int} : isiN (.int b) "str" = some false := rfl
theorem is_str_str {b : Str} : isiN (.str b) "str" = some true := rfl
theorem is_lst_str {b : List D} : isiN (.lst b) "str" = some false := rfl
theorem is_tup_str {b : List D} : isiN (.tup b) "str" = some false := rfl
theorem is_dk_str {b : List (Key × D)} : isiN (.dk b) "str" = some false := rfl
theorem is_non_list : isiN .non "list" = some false := rfl
theorem is_bl_list {b : Bool} : isiN (.bl b) "list" = some false := rfl
theorem is_int_list {b : Int} : isiN (.int b) "list" = some false := rfl
theorem is_str_list {b : Str} : isiN (.str b) "list" = some false := rfl
theorem is_lst_list {b : List D} : isiN (.lst b) "list" = some true := rfl
theorem is_tup_list {b : List D} : isiN (.tup b) "list" = some false := rfl
theorem is_dk_list {b : List (Key × D)} : isiN (.dk b) "list" = some false := rfl
theorem is_non_tuple : isiN .non "tuple" = some false := rfl
theorem is_bl_tuple {b : Bool} : isiN (.bl b) "tuple" = some false := rfl
theorem is_int_tuple {b : Int} : isiN (.int b) "tuple" = some false := rfl
theorem is_str_tuple {b : Str} : isiN (.str b) "tuple" = some false := rfl
theorem is_lst_tuple {b : List D} : isiN (.lst b) "tuple" = some false := rfl
theorem is_tup_tuple {b : List D} : isiN (.tup b) "tuple" = some true := rfl
theorem is_dk_tuple {b : List (Key × D)} : isiN (.dk b) "tuple" = some false := rfl
theorem lcW_mapG {g : DWG} {te : DW} {ρ : Loc} {P : List D → Sto → Prop} {S : Sto} (f : D → D) : ∀ (xs acc : List D), (∀ x ∈ xs, ∀ Q : DK, Q (f x) S → g x S ρ fun ρ' => te ρ' S Q EF) → acc.length + xs.length ≤ 1000000 → P (acc ++ xs.map f) S → lcW g wTYes te ρ P xs acc S
  | [], acc, _, hl, h => ⟨hl, by simpa using h⟩
  | x :: xs, acc, ht, hl, h => by
    refine ⟨by rw [List.length_cons] at hl; omega, ?_⟩
    refine ht x (by simp) _ ?_
    exact lcW_mapG f xs (acc ++ [f x]) (fun y hy => ht y (by simp [hy])) (by rw [List.length_append, List.length_singleton]; rw [List.length_cons] at hl; omega) (by rw [List.append_assoc]; exact h)
def smP : D → Bool
  | .tup [x, y] => same x y
  | _ => false
theorem sames_zip : ∀ a b : List D, sames a b = (decide (a.length = b.length) && (zipD a b).all smP)
  | [], [] => rfl
  | [], _ :: _ => rfl
  | _ :: _, [] => rfl
  | x :: a, y :: b => by
    show (same x y && sames a b) = (decide ((x :: a).length = (y :: b).length) && (same x y && (zipD a b).all smP))
    rw [sames_zip a b]
    have e : decide ((x :: a).length = (y :: b).length) = decide (a.length = b.length) := by simp
    rw [e]
    cases same x y <;> cases decide (a.length = b.length) <;> rfl
theorem deep_plain {d : D} (h : deep d = true) : plainD d = true := by cases d <;> first | rfl | cases h
theorem deeps_mem : ∀ {l : List D} {d : D}, deeps l = true → d ∈ l → deep d = true
  | x :: l, d, h, hd => by
    rcases List.mem_cons.mp hd with e | e
    · subst e; exact (and_tt h).1
    · exact deeps_mem (and_tt h).2 e
theorem deps_mem : ∀ {l : List D} {d : D}, d ∈ l → dep d ≤ deps l
  | x :: l, d, hd => by
    have e0 : deps (x :: l) = max (dep x) (deps l) := rfl
    rcases List.mem_cons.mp hd with e | e
    · subst e; rw [e0]; exact Nat.le_max_left _ _
    · rw [e0]; exact Nat.le_trans (deps_mem e) (Nat.le_max_right _ _)
theorem zip_mem {a b : List D} {p : D} (h : p ∈ zipD a b) : ∃ x y, p = .tup [x, y] ∧ x ∈ a ∧ y ∈ b := by
  obtain ⟨i, hi⟩ := List.getElem?_of_mem h
  obtain ⟨x, y, h1, h2, rfl⟩ := zip_at hi
  exact ⟨x, y, rfl, List.mem_of_getElem? h1, List.mem_of_getElem? h2⟩
theorem zip_len {a b : List D} (h : a.length ≤ 1000000) : (zipD a b).length ≤ 1000000 := by
  unfold zipD
  rw [List.length_zipWith]
  omega
section
variable {P : Program} {w : World} {K : PySem.W.Frag} {mg : Str → Option Value} {base : Heap} {x nm : Str} {st : Stmt}
/-- a callee that is never reached -/
theorem cal_no {CX : CXT} {ps : List Str} (I : DefIn K mg x nm st)
    (hbd : ∀ (kV doc pm : Value) (an : Option Addr) (cdv ct : Value) (us : List Value), us.length = ps.length → bindArgs (PySem.W.fnOf nm nm (defArgs st) (defBody st) (defScope st) .none kV doc pm an cdv ct) ⟨us, []⟩ = pure (ps.zip us)) : Cal P w K mg base CX 0 x ps (fun _ _ _ _ => False) := by
  obtain ⟨f, fd, F, hm⟩ := I
  exact ⟨f, fd, ⟨⟨fun _ _ _ _ h => (let ⟨_, _, _, _, _, _, _, _, q, _⟩ := h; q.elim), fun _ _ _ _ _ _ _ _ _ _ _ _ _ h => (let ⟨_, _, _, _, _, _, _, _, q, _⟩ := h; q.elim)⟩, hm, F.kp, F.bindsN hbd, let ⟨oc, od, _, _, _, _, _, _, _, osl, _, lk, _⟩ := F.ex; ⟨oc, od, osl, lk⟩⟩⟩
end
end DL
namespace DL
open PySem PySem.Spec PyProof.Rows L2
theorem sp_same_of {n : Nat} {x y : D} {S : Sto} {P : DK} {E : Ex} (hx : deep x = true) (hy : deep y = true) (hd : dep y ≤ n) (e : DL.same x y = true) (h : P (.bl true) S) : sp_same n [x, y] S P E := ⟨hx, hy, hd, by rw [e]; exact h⟩
/-- the same thing twice -/
theorem sp_same_rf {n : Nat} {x y : D} {S : Sto} {P : DK} {E : Ex} (e : x = y) (hy : deep y = true) (hd : dep y ≤ n) (h : P (.bl true) S) : sp_same n [x, y] S P E := by
  subst e
  exact ⟨hy, hy, hd, by rw [same_refl x hy]; exact h⟩
theorem rt0 {P : DK} {E : Ex} {b : Bool} {S : Sto} (h : P (.bl b) []) : (endsOf 0 P E).rt (.bl b) S := .inr ⟨.bl b, rfl, rfl, h⟩
end DL
namespace DL
open PySem PySem.Spec PyProof.Rows L2
theorem truD_non {S : Sto} {P : Bool → Sto → Prop} : truD .non S P = P false S := rfl
theorem truD_bl {k : Bool} {S : Sto} {P : Bool → Sto → Prop} : truD (.bl k) S P = P k S := rfl
theorem truD_int {k : Int} {S : Sto} {P : Bool → Sto → Prop} : truD (.int k) S P = P (k != 0) S := rfl
theorem truD_str {k : Str} {S : Sto} {P : Bool → Sto → Prop} : truD (.str k) S P = (k.length ≤ 1000000 ∧ P ((k.length : Int) != 0) S) := rfl
theorem truD_lst {k : List D} {S : Sto} {P : Bool → Sto → Prop} : truD (.lst k) S P = P (!k.isEmpty) S := rfl
theorem truD_tup {k : List D} {S : Sto} {P : Bool → Sto → Prop} : truD (.tup k) S P = P (!k.isEmpty) S := rfl
section
variable {P : Program} {w : World} {K : PySem.W.Frag} {mg : Str → Option Value} {base : Heap} {CX : CXT} {k : Nat} {x : Str} {ps ks : List Str} {n : Nat}
/-- the promise behind a name of its own, so that no step looks into it -/
theorem hide {sp : DSp} (c : Cal P w K mg base CX k x ps sp) : ∃ sp' : DSp, Cal P w K mg base CX k x ps sp' ∧ ∀ ds S P E, sp ds S P E → sp' ds S P E := ⟨sp, c, fun _ _ _ _ h => h⟩
theorem hideK {sp : DSp} (c : CalK P w K mg base CX k x ps n ks sp) : ∃ sp' : DSp, CalK P w K mg base CX k x ps n ks sp' ∧ ∀ ds S P E, sp ds S P E → sp' ds S P E := ⟨sp, c, fun _ _ _ _ h => h⟩
theorem hideF {sp : DSpF} (c : CalFr P w K mg base CX k x ps sp) : ∃ sp' : DSpF, CalFr P w K mg base CX k x ps sp' ∧ ∀ ds S P E, sp ds S P E → sp' ds S P E := ⟨sp, c, fun _ _ _ _ h => h⟩
end
end DL
set_option maxRecDepth 100000
set_option maxHeartbeats 200000
namespace DL
open PySem PySem.Spec PyProof.Rows L2
/-! ### what is never reached -/
def wsNever : DWS := fun _ _ _ => False
def wNever : DW := fun _ _ _ _ => False
def tNeverE : TE := fun _ _ _ => False
section
variable {X : Cx} {W : WX}
theorem ds_never {st : Stmt} : DS X W st wsNever := ⟨_, ps_never, ⟨fun _ _ _ _ _ _ _ _ _ _ h _ => h.elim⟩⟩
theorem dss_never {st : List Stmt} : DSs X W st wsNever := ⟨_, pss_never, ⟨fun _ _ _ _ _ _ _ _ _ _ h _ => h.elim⟩⟩
theorem de_never {e : Expr} : DE X W e wNever := ⟨tNeverE, ⟨fun _ _ _ _ _ _ h => h.elim⟩, ⟨fun _ _ _ _ _ _ _ _ _ _ _ h _ _ => h.elim⟩⟩
end
/-! ### expressions that make cells -/
def NrmX (K : PySem.W.Frag) (M : Addr → Prop) (mu : List Addr) (H : Hp) (P : DK) (Q : VK) : Prop := ∀ M' mu' v H' d S', Ext M mu H M' mu' H' → Wok K M' mu' H' S' → R K M' mu' H' d v → P d S' → Q v H'
def NrmAX (K : PySem.W.Frag) (M : Addr → Prop) (mu : List Addr) (H : Hp) (P : List D → Sto → Prop) (Q : List V → Hp → Prop) : Prop := ∀ M' mu' v H' d S', Ext M mu H M' mu' H' → Wok K M' mu' H' S' → Rs K M' mu' H' d v → P d S' → Q v H'
def ExcX (K : PySem.W.Frag) (M : Addr → Prop) (mu : List Addr) (H : Hp) (E : Ex) (W : Value → Option Addr → Hp → Prop) : Prop := ∀ M' mu' C d H' c fs S', Ext M mu H M' mu' H' → Wok K M' mu' H' S' → XR K M' mu' H' C d c fs → E c fs S' → W C d H'
structure RdX (K : PySem.W.Frag) (W : WX) (t : TE) (w : DW) : Prop where
  run : ∀ (M : Addr → Prop) (mu : List Addr) (σ : L2.St) (ρ : Loc) (S : Sto) (H : Hp) (P : DK) (E : Ex) (Q : VK), Wok K M mu H S → Env K M mu H ρ σ → w ρ S P E → NrmX K M mu H P Q → ExcX K M mu H E (fun C d H' => W C d σ H') → t σ H Q
structure RdAX (K : PySem.W.Frag) (W : WX) (t : TA) (w : DWA) : Prop where
  run : ∀ (M : Addr → Prop) (mu : List Addr) (σ : L2.St) (ρ : Loc) (S : Sto) (H : Hp) (P : List D → Sto → Prop) (E : Ex) (Q : List V → Hp → Prop), Wok K M mu H S → Env K M mu H ρ σ → w ρ S P E → NrmAX K M mu H P Q → ExcX K M mu H E (fun C d H' => W C d σ H') → t σ H Q
structure DX (X : Cx) (W : WX) (e : Expr) (w : DW) : Prop where
  ex : ∃ t, PE X e t ∧ RdX X.K W t w
structure DAX (X : Cx) (W : WX) (es : List Expr) (w : DWA) : Prop where
  ex : ∃ t, PA X es t ∧ RdAX X.K W t w
section
variable {K : PySem.W.Frag} {W : WX} {M M1 : Addr → Prop} {mu mu1 : List Addr} {H H1 : Hp}
theorem NrmX.mono {P : DK} {Q : VK} (x : Ext M mu H M1 mu1 H1) (n : NrmX K M mu H P Q) : NrmX K M1 mu1 H1 P Q := fun M' mu' v H' d S' e => n M' mu' v H' d S' (x.trans e)
theorem NrmAX.mono {P : List D → Sto → Prop} {Q : List V → Hp → Prop} (x : Ext M mu H M1 mu1 H1) (n : NrmAX K M mu H P Q) : NrmAX K M1 mu1 H1 P Q := fun M' mu' v H' d S' e => n M' mu' v H' d S' (x.trans e)
theorem ExcX.mono {E : Ex} {Wc : Value → Option Addr → Hp → Prop} (x : Ext M mu H M1 mu1 H1) (n : ExcX K M mu H E Wc) : ExcX K M1 mu1 H1 E Wc := fun M' mu' C d H' c fs S' e => n M' mu' C d H' c fs S' (x.trans e)
theorem ExcX.to {E : Ex} {Wc : Value → Option Addr → Hp → Prop} (s : ∀ a ∈ mu, M a) (n : ExcX K M mu H E Wc) : Exc K M mu H E Wc := fun C d H' c fs S' k ok x e => n M mu C d H' c fs S' (.of s k) ok x e
theorem EOk.excX {D : DEnds} {D' : L2.Ends} (h : EOk K W M mu H D D') (σ : L2.St) : ExcX K M mu H D.ex (fun C d H' => W C d σ H') := fun M' mu' C d H' c fs S' x ok xr e => h.ex M' mu' C d σ c fs S' H' x ok xr e
theorem RdX.of {t : TE} {w : DW} (r : Rd K W t w) : RdX K W t w := ⟨fun M mu σ ρ S H P E Q ok en hw n x =>
  r.run M mu σ ρ S H P E Q ok en hw (fun v H' d S' k ok' r' h => n M mu v H' d S' (.of ok.sub k) ok' r' h) (x.to ok.sub)⟩
end
/-- a fresh list becomes a cell -/
def wFr (w : DWA) : DW := fun ρ S P E => w ρ S (fun ds S1 => P (.loc S1.length) (S1 ++ [.lst ds])) E
section
variable {X : Cx} {W : WX} {e : Expr} {es : List Expr} {w : DW} {wa : DWA}
theorem dx_of (h : DE X W e w) : DX X W e w := let ⟨t, p, r⟩ := h.ex; ⟨t, p, .of r⟩
theorem dx_fr (h : DF X W e wa) : DX X W e (wFr wa) := by
  obtain ⟨t, pt, r⟩ := h.ex
  refine ⟨t, pt, ⟨fun M mu σ ρ S H P E Q ok en hw n x => ?_⟩⟩
  refine r.run M mu σ ρ S H _ E _ ok en hw (fun p vs H' ds S' hp k hp' ok' rr h => ?_) (x.to ok.sub)
  have np : p ∉ mu := fun m => ok.tr p (ok.sub p m) hp
  obtain ⟨ok2, ex2⟩ := ok'.push np hp' rr
  have ex1 : Ext M mu H (fun a => M a ∨ a = p) (mu ++ [p]) H' := ⟨⟨fun b q hb nb => k b q hb (nb.imp (fun nb m => nb (ok.sub b m)) id), ⟨[p], rfl⟩, fun a h => h.imp id fun e => by rw [e]; exact hp⟩, k, fun a h => by
    rcases List.mem_append.mp h with h | h
    · exact .inl h
    · exact .inr (by rw [show a = p by simpa using h]; exact hp), fun a h => .inl h, ok.sub⟩
  refine n _ (mu ++ [p]) (.ref p) H' (.loc S'.length) _ ex1 ok2 ⟨p, rfl, ?_⟩ h
  rw [ok'.len]
  simp
theorem dax_nil : DAX X W [] wNil := ⟨_, pa_nil, ⟨fun M mu σ ρ S H P E Q ok en hw n x => n M mu [] H [] S (.refl ok.sub) ok rfl hw⟩⟩
theorem dax_cons (ha : DX X W e w) (hs : DAX X W es wa) (hst : starEach (e :: es) X.env = (false, eval e X.env) :: starEach es X.env := by rfl) : DAX X W (e :: es) (wCons w wa) := by
  obtain ⟨ta, pa, ra⟩ := ha.ex
  obtain ⟨ts, ps, rs⟩ := hs.ex
  refine ⟨_, pa_cons pa ps hst, ⟨fun M mu σ ρ S H P E Q ok en hw n x => ?_⟩⟩
  refine ra.run M mu σ ρ S H _ E _ ok en hw (fun M1 mu1 v H1 d S1 e1 ok1 r1 h1 => ?_) x
  refine rs.run M1 mu1 σ ρ S1 H1 _ E _ ok1 (en.mono e1.toExt0) h1 (fun M2 mu2 vs H2 ds S2 e2 ok2 r2 h2 => ?_) (x.mono e1)
  exact n M2 mu2 (v :: vs) H2 (d :: ds) S2 (e1.trans e2) ok2 ⟨v, vs, rfl, R.mono e2.toExt0 _ _ r1, r2⟩ h2
theorem ds_setX {i : Nat} {x : Str} {pos pos' : Pos} (hN : X.N.Nodup) (hi : X.N[i]? = some x) (hx : L2.Loc X.env.scope x) (he : DX X W e w) (hs : swapsWith e (some (.Name x pos')) pos.line X.env = pure false := by rfl) (hf : X.fn x = true ∨ X.env.scope.names.lookup x = some .local := by first | exact .inl rfl | exact .inr rfl | assumption) :
    DS X W (.Assign [.Name x pos'] e pos) (wsSet i w) := by
  obtain ⟨_, p, r⟩ := he.ex
  exact ⟨_, ps_set hN hi hx p hs hf, ⟨fun M mu σ ρ S H Y Y' ok en hw n => r.run M mu σ ρ S H _ _ _ ok en hw (fun M1 mu1 v H' d S' e1 ok' r' h => n.nx M1 mu1 _ _ S' H' e1 ok' ((en.mono e1.toExt0).set r') h) (n.excX σ)⟩⟩
theorem ds_parX {i j : Nat} {x y : Str} {a b : Expr} {w : DWA} {px py pt pos : Pos} {kt k2 pt2} (hc : X.calm = true) (hN : X.N.Nodup) (hi : X.N[i]? = some x) (hj : X.N[j]? = some y) (hij : i ≠ j)
    (hx : X.env.scope.names.lookup x = some .local) (hy : X.env.scope.names.lookup y = some .local) (ha : DAX X W [a, b] w)
    (hw : swappedStores [.Tuple [.Name x px, .Name y py] kt pt] (.Tuple [a, b] k2 pt2) X.env = pure (some [x, y]) := by rfl)
    (hs : swapsWithSole [.Tuple [.Name x px, .Name y py] kt pt] (.Tuple [a, b] k2 pt2) pos.line X.env = pure false := by rfl) : DS X W (.Assign [.Tuple [.Name x px, .Name y py] kt pt] (.Tuple [a, b] k2 pt2) pos) (wsPar [i, j] w) := by
  obtain ⟨_, p, r⟩ := ha.ex
  refine ⟨_, ps_par hc hN hi hj hij hx hy p hw hs, ⟨fun M mu σ ρ S H Y Y' ok en hw n => r.run M mu σ ρ S H _ _ _ ok en hw (fun M1 mu1 vs H' ds S' e1 ok' r' h => ?_) (n.excX σ)⟩⟩
  obtain ⟨hl, h⟩ := h
  match ds, hl, r', h with
  | [d1, d2], _, r', h =>
    obtain ⟨v, u, rfl, r1, r2⟩ := r'.two
    exact ⟨v, u, rfl, n.nx M1 mu1 _ _ S' H' e1 ok' (((en.mono e1.toExt0).set r1).set r2) h⟩
end
/-! ### lists made anew -/
def wFLst (w : DWA) : DWA := fun ρ S P E => w ρ S (fun ds S1 => ds.length ≤ 1000000 ∧ P ds S1) E
theorem df_lstW {X : Cx} {W : WX} {es : List Expr} {w : DWA} {pos : Pos} (hs : DA X W es w) : DF X W (.List es pos) (wFLst w) := df_lst hs
/-- list(x), held -/
def wFList (w : DWA) : DWA := fun ρ S P E => w ρ S (fun xs S1 => match xs with
  | [x] => (match val S1 x with
    | .lst ds => P ds S1
    | .tup ds => P ds S1
    | _ => False)
  | _ => False) E
/-- a + b, held -/
def wFAdd (wa wb : DW) : DWA := fun ρ S P E => wa ρ S (fun x S1 => wb ρ S1 (fun y S2 => match val S2 x, val S2 y with
  | .lst a, .lst b => a.length + b.length ≤ 1000000 ∧ P (a ++ b) S2
  | _, _ => False) E) E
section
variable {K : PySem.W.Frag} {M : Addr → Prop} {mu : List Addr} {H H0 : Hp} {S S0 : Sto}
/-- the end of such an expression -/
theorem fr_end (ok : Wok K M mu H S) {P : List D → Sto → Prop} {Q : VK} (ok0 : Wok K M mu H0 S0) (k : Keep mu H0 H) (n : NrmF K M mu H0 P Q) {ds : List D} {vs : List V} (r : Rs K M mu H ds vs) (h : P ds S) : ∀ p, H p = none → Q (.ref p) (upd H p (.lst vs)) := fun p hp => by
  obtain ⟨ex, oka⟩ := ok.aside hp (.lst vs)
  refine n p vs _ ds S ?_ (k.trans ex.keep) upd_same oka (Rs.mono ex.toExt0 _ _ r) h
  exact (Ext.of ok0.sub k).back hp fun m => ok.tr p (ok.sub p m) hp
end
section
variable {X : Cx} {W : WX} {e a b : Expr} {es : List Expr} {w : DWA} {wa wb : DW} {p pos : Pos}
theorem df_list (hm : X.mg "list" = none) (ha : DA X W (e :: es) w) (hg : Gl X "list" := by rfl) (he : starEach (e :: es) X.env = (false, eval e X.env) :: starEach es X.env := by rfl) (hpl : (backTo pos (starEach es X.env)).any (·.1) = false := by rfl) :
    DF X W (.Call (.Name "list" p) (e :: es) [] pos) (wFList w) := by
  obtain ⟨_, pa, ra⟩ := ha.ex
  refine ⟨_, pe_callTy call_list_of hg hm bt_list pa (by decide) (by decide) he hpl, ⟨fun M mu σ ρ S H P E Q ok en hw n x => ?_⟩⟩
  refine ra.run M mu σ ρ S H _ E _ ok en hw (fun vs H1 ds S1 k1 ok1 r1 h1 => ?_) x
  match ds, r1, h1 with
  | [d], r1, h1 =>
    obtain ⟨v, rfl, rv⟩ := r1.one
    cases e1 : val S1 d with
    | lst xs =>
      simp only [e1] at h1
      obtain ⟨q, ys, rfl, hq, rq⟩ := seq_lst ok1 rv e1
      exact ⟨q, ys, rfl, .inl (SqL.of hq), fr_end ok1 ok k1 n rq h1⟩
    | tup xs =>
      simp only [e1] at h1
      obtain ⟨q, ys, rfl, hq, rq⟩ := seq_tup ok1 rv e1
      exact ⟨q, ys, rfl, .inr hq, fr_end ok1 ok k1 n rq h1⟩
    | _ => simp only [e1] at h1
theorem df_add (ha : DE X W a wa) (hb : DE X W b wb) : DF X W (.BinOp a .Add b pos) (wFAdd wa wb) := by
  obtain ⟨_, pa, ra⟩ := ha.ex
  obtain ⟨_, pb, rb⟩ := hb.ex
  refine ⟨_, pe_op op_addA pa pb, ⟨fun M mu σ ρ S H P E Q ok en hw n x => ?_⟩⟩
  refine ra.run M mu σ ρ S H _ E _ ok en hw (fun v H1 d S1 k1 ok1 r1 h1 => ?_) x
  refine rb.run M mu σ ρ S1 H1 _ E _ ok1 (en.keep ok k1) h1 (fun u H2 d2 S2 k2 ok2 r2 h2 => ?_) (x.mono k1)
  have r1' := r1.keep ok1 k2
  cases e1 : val S2 d with
  | lst xs =>
    cases e2 : val S2 d2 with
    | lst ys =>
      simp only [e1, e2] at h2
      obtain ⟨q, vs, rfl, hq, rq⟩ := seq_lst ok2 r1' e1
      obtain ⟨q2, us, rfl, hq2, rq2⟩ := seq_lst ok2 r2 e2
      exact .inr (.inl ⟨q, q2, vs, us, rfl, rfl, hq, hq2, by rw [← rq.len, ← rq2.len]; exact line_of h2.1, fr_end ok2 ok (k1.trans k2) n (rq.app rq2) h2.2⟩)
    | _ => simp only [e1, e2] at h2
  | _ => simp only [e1] at h2
end
/-! ### while -/
def wsWhile (c : DWT) (tb : DWS) : DWS := fun Y ρ S => ∃ Wi : Nat → Loc → Sto → Prop, (∃ m, Wi m ρ S) ∧ ∀ m ρ S, Wi m ρ S →
  c ρ S (fun b S1 => if b = true then ∃ N : Loc → Sto → Prop, (∀ ρ' S', N ρ' S' → ∃ m', m' < m ∧ Wi m' ρ' S') ∧ tb { Y with nx := N, ct := N, bk := Y.nx } ρ S1 else Y.nx ρ S1) Y.ex
theorem ds_while {X : Cx} {W : WX} {c : Expr} {body : List Stmt} {wc : DWT} {wb : DWS} {pos : Pos} (hp : PassesOwn (model X.prog X.w) X.A X.env X.xe) (hc : DT X W c wc) (hb : DSs X W body wb) : DS X W (.While c body [] pos) (wsWhile wc wb) := by
  obtain ⟨_, pc, rc⟩ := hc.ex
  obtain ⟨_, pb, rb⟩ := hb.ex
  refine ⟨_, ps_while hp pc pb, ⟨fun M mu σ ρ S H Y Y' ok en hw n => ?_⟩⟩
  obtain ⟨Wi, ⟨m0, w0⟩, turn⟩ := hw
  refine ⟨fun m σ' H' => ∃ M' mu' ρ' S', Ext M mu H M' mu' H' ∧ Wok X.K M' mu' H' S' ∧ Env X.K M' mu' H' ρ' σ' ∧ Wi m ρ' S', ⟨m0, M, mu, ρ, S, .refl ok.sub, ok, en, w0⟩, ?_⟩
  rintro m σ' H' ⟨M', mu', ρ', S', x', ok', en', w'⟩
  have n' := n.mono x'
  refine rc.run M' mu' σ' ρ' S' H' _ Y.ex _ ok' en' (turn m ρ' S' w') (fun b H1 S1 k1 ok1 h1 => ?_) (n'.exc ok'.sub σ')
  have x1 : Ext M' mu' H' M' mu' H1 := .of ok'.sub k1
  have n1 := n'.mono x1
  cases b with
  | false =>
    rw [if_neg Bool.false_ne_true] at h1 ⊢
    exact n1.nx M' mu' σ' ρ' S1 H1 (.refl ok1.sub) ok1 (en'.keep ok' k1) h1
  | true =>
    rw [if_pos rfl] at h1 ⊢
    obtain ⟨N, hN, hb1⟩ := h1
    refine ⟨fun σ2 H2 => ∃ M2 mu2 ρ2 S2, Ext M mu H M2 mu2 H2 ∧ Wok X.K M2 mu2 H2 S2 ∧ Env X.K M2 mu2 H2 ρ2 σ2 ∧ N ρ2 S2, fun σ2 H2 ⟨M2, mu2, ρ2, S2, x2, ok2, en2, h2⟩ => ?_, ?_⟩
    · obtain ⟨m', hm, w2⟩ := hN ρ2 S2 h2
      exact ⟨m', hm, M2, mu2, ρ2, S2, x2, ok2, en2, w2⟩
    · refine rb.run M' mu' σ' ρ' S1 H1 _ _ ok1 (en'.keep ok' k1) hb1 ?_
      exact ⟨fun M4 mu4 σ4 ρ4 S4 H4 x4 ok4 en4 h4 => ⟨M4, mu4, ρ4, S4, (x'.trans x1).trans x4, ok4, en4, h4⟩, n1.rt, n1.nx, fun M4 mu4 σ4 ρ4 S4 H4 x4 ok4 en4 h4 => ⟨M4, mu4, ρ4, S4, (x'.trans x1).trans x4, ok4, en4, h4⟩, n1.ex, n1.rf⟩
/-! ### methods of built-in types -/
abbrev DFm := D → List D → Sto → DK → Prop
def MtD (K : PySem.W.Frag) (r : V → List V → Hp → VK → Prop) (f : DFm) : Prop := ∀ (M : Addr → Prop) (mu : List Addr) (H : Hp) (S : Sto) (x : D) (xs : List D) (v : V) (vs : List V) (P : DK) (Q : VK),
  Wok K M mu H S → R K M mu H x v → Rs K M mu H xs vs → f x xs S P → Nrm K M mu H P Q → r v vs H Q
/-- the receiver's type -/
def rcv (T : String) (S : Sto) (x : D) : Prop := match val S x with
  | .str _ => T = "str"
  | .lst _ => T = "list"
  | .dk _ => T = "dict" ∧ isLoc x = true
  | .dt _ => T = "dict" ∧ isLoc x = true
  | _ => False
where isLoc : D → Bool
  | .loc _ => true
  | _ => false
theorem rcv_ok {K : PySem.W.Frag} {M : Addr → Prop} {mu : List Addr} {H : Hp} {S : Sto} {T : String} {x : D} {v : V} (ok : Wok K M mu H S) (r : R K M mu H x v) (h : rcv T S x) : tyV K T v H := by
  unfold rcv at h
  cases e : val S x with
  | str s =>
    rw [e] at h
    obtain rfl := val_str ok r e
    exact h
  | lst ds =>
    rw [e] at h
    obtain ⟨a, vs, rfl, ha, _⟩ := seq_lst ok r e
    exact .inl ⟨h, vs, SqL.of ha⟩
  | dk ds =>
    rw [e] at h
    cases x with
    | loc i =>
      obtain ⟨a, rfl, h2⟩ := r
      obtain ⟨es, q, _⟩ := (show Cl K M mu H (.dk ds) a from ok.at_ i a _ h2 (val_loc e (by simp)))
      exact .inr (.inr (.inl ⟨h.1, .inl ⟨_, q⟩⟩))
    | _ => exact absurd h.2 Bool.false_ne_true
  | dt ds =>
    rw [e] at h
    cases x with
    | loc i =>
      obtain ⟨a, rfl, h2⟩ := r
      obtain ⟨es, q, _⟩ := (show Cl K M mu H (.dt ds) a from ok.at_ i a _ h2 (val_loc e (by simp)))
      exact .inr (.inr (.inl ⟨h.1, .inr ⟨_, q⟩⟩))
    | _ => exact absurd h.2 Bool.false_ne_true
  | _ => rw [e] at h; exact h.elim
def wBM (T : String) (f : DFm) (wo : DW) (w : DWA) : DW := fun ρ S P E => wo ρ S (fun x S1 => rcv T S1 x ∧ w ρ S1 (fun xs S2 => f x xs S2 P) E) E
section
variable {X : Cx} {W : WX} {o e : Expr} {es : List Expr} {wo : DW} {w : DWA} {name : Str} {apos cpos : Pos} {T id : String} {r : V → List V → Hp → VK → Prop} {f : DFm}
theorem de_bm (pa : PlainAttrs T) (slot : Slot T name id) (hty : typeOf (.builtin id) = pure (.type "method_descriptor")) (hm : MtR X id r) (hf : MtD X.K r f) (ho : DE X W o wo) (ha : DA X W (e :: es) w)
    (hbase : attributeBase o name X.env (eval o X.env) = eval o X.env := by rfl)
    (hfew : ((backTo cpos (starEach (e :: es) X.env)).all (fun x => !x.1) && (backToKw cpos (keywordEach [] X.env)).all (fun x => x.1.isSome)
      && decide ((e :: es).length + ([] : List Keyword).length + (if ([] : List Keyword).isEmpty then 0 else 1) < 30)) = true := by rfl)
    (hline : (apos.endLine == cpos.line) = true := by rfl) (hs : starEach (e :: es) X.env = (false, eval e X.env) :: starEach es X.env := by rfl) (hplain : (backTo cpos (starEach es X.env)).any (·.1) = false := by rfl) :
    DE X W (.Call (.Attribute o name apos) (e :: es) [] cpos) (wBM T f wo w) := by
  obtain ⟨_, po, ro⟩ := ho.ex
  obtain ⟨_, pt, rt⟩ := ha.ex
  refine ⟨_, pe_bm pa slot hty hm po pt hbase hfew hline hs hplain, ⟨fun M mu σ ρ S H P E Q ok en hw n x => ?_⟩⟩
  refine ro.run M mu σ ρ S H _ E _ ok en hw (fun v H1 d S1 k1 ok1 r1 h1 => ?_) x
  refine ⟨rcv_ok ok1 r1 h1.1, ?_⟩
  refine rt.run M mu σ ρ S1 H1 _ E _ ok1 (en.keep ok k1) h1.2 (fun vs H2 ds S2 k2 ok2 r2 h2 => ?_) (x.mono k1)
  exact hf M mu H2 S2 d ds v vs P Q ok2 (r1.keep ok1 k2) r2 h2 (n.mono (k1.trans k2))
def wBM0 (T : String) (f : DFm) (wo : DW) : DW := fun ρ S P E => wo ρ S (fun x S1 => rcv T S1 x ∧ f x [] S1 P) E
theorem de_bm0 (pa : PlainAttrs T) (slot : Slot T name id) (hty : typeOf (.builtin id) = pure (.type "method_descriptor")) (hm : MtR X id r) (hf : MtD X.K r f) (ho : DE X W o wo)
    (hbase : attributeBase o name X.env (eval o X.env) = eval o X.env := by rfl) (hline : (apos.endLine == cpos.line) = true := by rfl) : DE X W (.Call (.Attribute o name apos) [] [] cpos) (wBM0 T f wo) := by
  obtain ⟨_, po, ro⟩ := ho.ex
  refine ⟨_, pe_bm0 pa slot hty hm po hbase hline, ⟨fun M mu σ ρ S H P E Q ok en hw n x => ?_⟩⟩
  refine ro.run M mu σ ρ S H _ E _ ok en hw (fun v H1 d S1 k1 ok1 r1 h1 => ?_) x
  exact ⟨rcv_ok ok1 r1 h1.1, hf M mu H1 S1 d [] v [] P Q ok1 r1 rfl h1.2 (n.mono k1)⟩
end
section
variable {K : PySem.W.Frag}
theorem line_lt {n : Nat} (h : n < 1000000) : n < sizeLine := Nat.lt_of_lt_of_le h (line_of (Nat.le_refl _))
/-- xs.append(y), xs a cell -/
def appendD : DFm := fun x xs S P => match x, xs with
  | .loc i, [y] => (match val S (.loc i) with
    | .lst ds => ds.length < 1000000 ∧ P .non (S.set i (.lst (ds ++ [y])))
    | _ => False)
  | _, _ => False
theorem cell_lst {M : Addr → Prop} {mu : List Addr} {H : Hp} {S : Sto} (ok : Wok K M mu H S) {i : Nat} {a : Addr} (ha : mu[i]? = some a) {vs us : List V} {ds : List D} (hv : H a = some (.lst vs))
    (r : Rs K M mu H ds us) : Wok K M mu (upd H a (.lst us)) (S.set i (.lst ds)) ∧ Keep mu H (upd H a (.lst us)) ∧ Ext0 M mu H M mu (upd H a (.lst us)) := by
  have ex : Ext0 M mu H M mu (upd H a (.lst us)) := ⟨fun b q h nb => by rw [upd_ne fun e => nb.elim (fun nb => nb (by rw [e]; exact ok.sub a (List.mem_of_getElem? ha))) (notF_lst hv q (by rw [← e]; exact h))]; exact h, ⟨[], by simp⟩, fun a h => .inl h⟩
  obtain ⟨h1, h2⟩ := ok.cell (o := .lst us) (c := .lst ds) ha (notF_lst hv) ⟨us, upd_same, Rs.mono ex _ _ r⟩
  exact ⟨h1, h2, ex⟩
theorem mtd_append : MtD K rAppend appendD := by
  intro M mu H S x xs v vs P Q ok rx rxs h n
  unfold appendD at h
  split at h
  · rename_i i y
    obtain ⟨u, rfl, ru⟩ := rxs.one
    cases e : val S (.loc i) with
    | lst ds =>
      simp only [e] at h
      obtain ⟨a, rfl, ha⟩ := rx
      obtain ⟨ws, hv, rw_⟩ : Cl K M mu H (.lst ds) a := ok.at_ i a _ ha (val_loc e (by simp))
      obtain ⟨ok2, k2, _⟩ := cell_lst ok ha hv (rw_.app (es := [y]) (us := [u]) ⟨u, [], rfl, ru, rfl⟩)
      have hl : ws.length < 1000000 := by rw [← rw_.len]; exact h.1
      exact ⟨a, ws, u, rfl, rfl, hv, line_lt hl, n _ _ .non _ k2 ok2 rfl h.2⟩
    | _ => simp only [e] at h
  · exact h.elim
/-- xs.pop(k), xs a cell, k among its places -/
def popD : DFm := fun x xs S P => match x, xs with
  | .loc i, [.int k] => (match val S (.loc i) with
    | .lst ds => 0 ≤ k ∧ k < 1000000 ∧ (match ds[k.toNat]? with
      | some y => P y (S.set i (.lst (ds.eraseIdx k.toNat)))
      | none => False)
    | _ => False)
  | _, _ => False
theorem Rs.erase {M : Addr → Prop} {mu : List Addr} {H : Hp} : ∀ {ds : List D} {vs : List V} (n : Nat), Rs K M mu H ds vs → Rs K M mu H (ds.eraseIdx n) (vs.eraseIdx n)
  | [], _, n, e => by rw [show _ = [] from e]; exact rfl
  | _ :: _, _, 0, ⟨u, r, e, a, t⟩ => by rw [e]; exact t
  | x :: ds, _, n + 1, ⟨u, r, e, a, t⟩ => ⟨u, r.eraseIdx n, by rw [e]; rfl, a, Rs.erase n t⟩
theorem mtd_popAt : MtD K rPopAt popD := by
  intro M mu H S x xs v vs P Q ok rx rxs h n
  unfold popD at h
  split at h
  · rename_i i k
    obtain ⟨u, rfl, ru⟩ := rxs.one
    obtain rfl : u = .int k := ru
    cases e : val S (.loc i) with
    | lst ds =>
      simp only [e] at h
      obtain ⟨h0, h1, h⟩ := h
      cases e2 : ds[k.toNat]? with
      | none => simp only [e2] at h
      | some y =>
        simp only [e2] at h
        obtain ⟨a, rfl, ha⟩ := rx
        obtain ⟨ws, hv, rw_⟩ : Cl K M mu H (.lst ds) a := ok.at_ i a _ ha (val_loc e (by simp))
        obtain ⟨z, hz, rz⟩ := rw_.get e2
        obtain ⟨ok2, k2, ex2⟩ := cell_lst ok ha hv (rw_.erase k.toNat)
        have hlt := (List.getElem?_eq_some_iff.mp hz).1
        refine ⟨a, ws, k, k.toNat, z, rfl, rfl, hv, by omega, by omega, ?_, hz, n _ _ y _ k2 ok2 (R.mono ex2 _ _ rz) h⟩
        unfold seqIndex?
        have e3 : (if k < 0 then k + (ws.length : Int) else k) = k := if_neg (by omega)
        simp only [e3]
        rw [if_pos (by simp; omega)]
    | _ => simp only [e] at h
  · exact h.elim
end
end DL
set_option maxRecDepth 100000
namespace DL
open PySem PySem.Spec PyProof.Rows L2
/-! ### dicts with tuple keys -/
def keysOf : List D → Option (List Key)
  | [] => some []
  | .int i :: ds => (keysOf ds).map (Sum.inl i :: ·)
  | .str s :: ds => (keysOf ds).map (Sum.inr s :: ·)
  | _ :: _ => none
def tkOf : D → Option (List Key)
  | .tup ds => keysOf ds
  | _ => none
abbrev TD := List (List Key × D)
def lookT (es : TD) (k : List Key) : Option D := (es.find? fun e => decide (e.1 = k)).map (·.2)
def putT (es : TD) (k : List Key) (d : D) : TD := if (es.any fun e => decide (e.1 = k)) = true then es.map (fun e => if e.1 = k then (e.1, d) else e) else es ++ [(k, d)]
section
variable {K : PySem.W.Frag} {M : Addr → Prop} {mu : List Addr} {H : Hp} {S : Sto}
theorem keys_ok : ∀ {ds : List D} {vs : List V} {ks : List Key}, Rs K M mu H ds vs → keysOf ds = some ks → vs = ks.map kV
  | [], vs, ks, r, e => by obtain rfl : vs = [] := r; obtain rfl : ([] : List Key) = ks := Option.some.inj e; rfl
  | d :: ds, vs, ks, r, e => by
    obtain ⟨v, rr, rfl, h1, h2⟩ := r
    cases d with
    | int i =>
      obtain ⟨ms, e1, rfl⟩ := Option.map_eq_some_iff.mp (show (keysOf ds).map (Sum.inl i :: ·) = some ks from e)
      obtain rfl : v = .int i := h1
      rw [keys_ok h2 e1]
      rfl
    | str i =>
      obtain ⟨ms, e1, rfl⟩ := Option.map_eq_some_iff.mp (show (keysOf ds).map (Sum.inr i :: ·) = some ks from e)
      obtain rfl : v = .str i := h1
      rw [keys_ok h2 e1]
      rfl
    | _ => simp [keysOf] at e
theorem tk_ok {d : D} {v : V} {ks : List Key} (r : R K M mu H d v) (e : tkOf d = some ks) : ∃ b, v = .ref b ∧ H b = some (.tup (ks.map kV)) := by
  cases d with
  | tup ds =>
    obtain ⟨b, vs, rfl, hb, rr⟩ := r
    rw [keys_ok rr e] at hb
    exact ⟨b, rfl, hb⟩
  | _ => cases e
theorem rs_keys : ∀ ks : List Key, Rs K M mu H (ks.map keyD) (ks.map kV)
  | [] => rfl
  | .inl i :: ks => ⟨_, _, rfl, rfl, rs_keys ks⟩
  | .inr s :: ks => ⟨_, _, rfl, rfl, rs_keys ks⟩
/-- the dict and its entries -/
theorem dt_at (ok : Wok K M mu H S) {x : D} {v : V} {kvs : TD} (r : R K M mu H x v) (e : val S x = .dt kvs) : ∃ a es, v = .ref a ∧ L2.Rd H a (.dT es) ∧ es.map (·.1) = kvs.map (·.1) ∧ Rt K M mu H kvs (es.map (·.2)) := by
  cases x with
  | loc i =>
    obtain ⟨a, rfl, h2⟩ := r
    obtain ⟨es, q, h3, h4⟩ := (show Cl K M mu H (.dt kvs) a from ok.at_ i a _ h2 (val_loc e (by simp)))
    exact ⟨a, es, rfl, .inl q, h3, h4⟩
  | dt l =>
    obtain rfl : l = kvs := by simpa [val] using e
    obtain ⟨a, od, es, rfl, q, h3, h4⟩ := r
    exact ⟨a, es, rfl, .inr ⟨od, q⟩, h3, h4⟩
  | _ => simp [val] at e
theorem rt_look : ∀ {kvs : TD} {es : List (List Key × V)} (k : List Key), es.map (·.1) = kvs.map (·.1) → Rt K M mu H kvs (es.map (·.2)) → (lookT kvs k = none ∧ valV es k = none) ∨ ∃ d v, lookT kvs k = some d ∧ valV es k = some v ∧ R K M mu H d v
  | [], [], k, _, _ => .inl ⟨rfl, rfl⟩
  | [], _ :: _, k, h, _ => by cases h
  | _ :: _, [], k, h, _ => by cases h
  | (k1, d1) :: kvs, (k2, v2) :: es, k, h, r => by
    obtain ⟨v, rr, e, h1, h2⟩ := r
    injection e with e1 e2
    injection h with e3 e4
    have e1' : v2 = v := e1
    have e3' : k2 = k1 := e3
    subst e1' e3'
    by_cases hk : k2 = k
    · exact .inr ⟨d1, v2, by simp [lookT, List.find?_cons, hk], valV_pos hk, h1⟩
    · have q1 : lookT ((k2, d1) :: kvs) k = lookT kvs k := by simp [lookT, List.find?_cons, hk]
      rw [q1, valV_neg hk]
      exact rt_look k e4 (by rw [e2]; exact h2)
theorem keys_any : ∀ {kvs : TD} {es : List (List Key × V)} (k : List Key), es.map (·.1) = kvs.map (·.1) → (es.any fun e => decide (e.1 = k)) = (kvs.any fun e => decide (e.1 = k))
  | [], [], k, _ => rfl
  | [], _ :: _, k, h => by cases h
  | _ :: _, [], k, h => by cases h
  | (k1, d1) :: kvs, (k2, v2) :: es, k, h => by
    injection h with e3 e4
    have e3' : k2 = k1 := e3
    subst e3'
    rw [List.any_cons, List.any_cons, keys_any k e4]
theorem rt_map {d : D} {v : V} (hr : R K M mu H d v) (k : List Key) : ∀ {kvs : TD} {es : List (List Key × V)}, es.map (·.1) = kvs.map (·.1) → Rt K M mu H kvs (es.map (·.2)) →
    (es.map fun e => if e.1 = k then (e.1, v) else e).map (·.1) = (kvs.map fun e => if e.1 = k then (e.1, d) else e).map (·.1) ∧ Rt K M mu H (kvs.map fun e => if e.1 = k then (e.1, d) else e) ((es.map fun e => if e.1 = k then (e.1, v) else e).map (·.2))
  | [], [], _, _ => ⟨rfl, rfl⟩
  | [], _ :: _, h, _ => by cases h
  | _ :: _, [], h, _ => by cases h
  | (k1, d1) :: kvs, (k2, v2) :: es, h, r => by
    obtain ⟨v0, rr, e, h1, h2⟩ := r
    injection e with e1 e2
    injection h with e3 e4
    have e1' : v2 = v0 := e1
    have e3' : k2 = k1 := e3
    subst e1' e3'
    obtain ⟨i1, i2⟩ := rt_map hr k e4 (by rw [e2]; exact h2)
    by_cases hk : k2 = k
    · simp only [List.map_cons, if_pos hk]
      exact ⟨by rw [i1], v, _, rfl, hr, i2⟩
    · simp only [List.map_cons, if_neg hk]
      exact ⟨by rw [i1], v2, _, rfl, h1, i2⟩
theorem rt_app {d : D} {v : V} (hr : R K M mu H d v) : ∀ {kvs : TD} {vs : List V} (k : List Key), Rt K M mu H kvs vs → Rt K M mu H (kvs ++ [(k, d)]) (vs ++ [v])
  | [], vs, k, r => by obtain rfl : vs = [] := r; exact ⟨v, [], rfl, hr, rfl⟩
  | (_, _) :: _, vs, k, ⟨v0, rr, e, h1, h2⟩ => ⟨v0, rr ++ [v], by rw [e]; rfl, h1, rt_app hr k h2⟩
theorem rt_put {d : D} {v : V} (hr : R K M mu H d v) {kvs : TD} {es : List (List Key × V)} (k : List Key) (h : es.map (·.1) = kvs.map (·.1)) (r : Rt K M mu H kvs (es.map (·.2))) :
    (putK es k v).map (·.1) = (putT kvs k d).map (·.1) ∧ Rt K M mu H (putT kvs k d) ((putK es k v).map (·.2)) := by
  unfold putK putT
  rw [keys_any k h]
  by_cases q : (kvs.any fun e => decide (e.1 = k)) = true
  · rw [if_pos q, if_pos q]
    exact rt_map hr k h r
  · rw [if_neg q, if_neg q, List.map_append, List.map_append, List.map_append, h]
    exact ⟨rfl, rt_app hr k r⟩
theorem rt_len {kvs : TD} {es : List (List Key × V)} (h : es.map (·.1) = kvs.map (·.1)) : es.length = kvs.length := by
  have := congrArg List.length h
  simpa using this
/-- what the dict at a says at the key y -/
theorem dget_at (ok : Wok K M mu H S) {x y : D} {v u : V} {kvs : TD} {k : List Key} (rx : R K M mu H x v) (ry : R K M mu H y u) (e : val S x = .dt kvs) (ek : tkOf y = some k) :
    ∃ a, v = .ref a ∧ ((lookT kvs k = none ∧ DGet H a u none) ∨ ∃ d w, lookT kvs k = some d ∧ DGet H a u (some w) ∧ R K M mu H d w) := by
  obtain ⟨a, es, rfl, hd, h1, h2⟩ := dt_at ok rx e
  obtain ⟨b, rfl, hb⟩ := tk_ok ry ek
  refine ⟨a, rfl, ?_⟩
  rcases rt_look k h1 h2 with ⟨q1, q2⟩ | ⟨d, w, q1, q2, q3⟩
  · exact .inl ⟨q1, .inr ⟨es, k, b, hd, rfl, hb, q2.symm⟩⟩
  · exact .inr ⟨d, w, q1, .inr ⟨es, k, b, hd, rfl, hb, q2.symm⟩, q3⟩
end
/-! d[k], d.get(k, x), k in d, d[k] = v -/
def getT (x y : D) (S : Sto) (P : Option D → Prop) : Prop := match val S x, tkOf y with
  | .dt es, some k => P (lookT es k)
  | _, _ => False
theorem getT_ok {K : PySem.W.Frag} {M : Addr → Prop} {mu : List Addr} {H : Hp} {S : Sto} (ok : Wok K M mu H S) {x y : D} {v u : V} {P : Option D → Prop} (rx : R K M mu H x v) (ry : R K M mu H y u) (h : getT x y S P) :
    ∃ a, v = .ref a ∧ ((DGet H a u none ∧ P none) ∨ ∃ d w, DGet H a u (some w) ∧ R K M mu H d w ∧ P (some d)) := by
  unfold getT at h
  cases e : val S x with
  | dt es =>
    cases ek : tkOf y with
    | none => rw [e, ek] at h; exact h.elim
    | some k =>
      rw [e, ek] at h
      obtain ⟨a, rfl, q⟩ := dget_at ok rx ry e ek
      refine ⟨a, rfl, ?_⟩
      rcases q with ⟨q1, q2⟩ | ⟨d, w, q1, q2, q3⟩
      · exact .inl ⟨q2, by rw [← q1]; exact h⟩
      · exact .inr ⟨d, w, q2, q3, by rw [← q1]; exact h⟩
  | _ => rw [e] at h; exact h.elim
/-- the entry at a key: there -/
def entT (x y : D) (S : Sto) (P : DK) : Prop := getT x y S fun o => match o with
  | some d => P d S
  | none => False
def wDGet (wo wk : DW) : DW := fun ρ S P E => wo ρ S (fun x S1 => wk ρ S1 (fun y S2 => entT x y S2 P) E) E
def dflT (x y z : D) (S : Sto) (P : DK) : Prop := getT x y S fun o => P (o.getD z) S
def isDt (S : Sto) (x : D) : Prop := match val S x with
  | .dt _ => True
  | _ => False
def wDGet2 (wo wk wd : DW) : DW := fun ρ S P E => wo ρ S (fun x S1 => isDt S1 x ∧ wk ρ S1 (fun y S2 => wd ρ S2 (fun z S3 => dflT x y z S3 P) E) E) E
def inT (neg : Bool) : DF2 := fun y x S P => getT x y S fun o => P (.bl (if neg then !o.isSome else o.isSome)) S
def wsDPut (we wo wk : DW) : DWS := fun Y ρ S => we ρ S (fun d S1 => wo ρ S1 (fun x S2 => wk ρ S2 (fun y S3 => match x, tkOf y with
  | .loc i, some k => (match val S3 (.loc i) with
    | .dt es => es.length < 1000000 ∧ Y.nx ρ (S3.set i (.dt (putT es k d)))
    | _ => False)
  | _, _ => False) Y.ex) Y.ex) Y.ex
theorem isD_ok {K : PySem.W.Frag} {M : Addr → Prop} {mu : List Addr} {H : Hp} {S : Sto} (ok : Wok K M mu H S) {x : D} {v : V} (r : R K M mu H x v) (h : isDt S x) : ∃ a, v = .ref a ∧ IsD H a := by
  unfold isDt at h
  cases e : val S x with
  | dt es =>
    obtain ⟨a, es', rfl, hd, _⟩ := dt_at ok r e
    exact ⟨a, rfl, .inr ⟨es', hd⟩⟩
  | _ => rw [e] at h; exact h.elim
theorem op_inDt {X : Cx} (hu : X.A.units + 64 < cLine) : OpR X (compareOp .In) (fun y x H Q => ∃ a o, x = .ref a ∧ DGet H a y o ∧ Q (.bl o.isSome) H) := by
  intro pins s σ H y x v u Q I ry rx h
  obtain ⟨a, o, rfl, g, q⟩ := h
  cases rx
  exact d_in (by omega) I g ry fun s3 I3 => ⟨.bl o.isSome, H, I3, rfl, q⟩
theorem op_notInDt {X : Cx} (hu : X.A.units + 64 < cLine) : OpR X (compareOp .NotIn) (fun y x H Q => ∃ a o, x = .ref a ∧ DGet H a y o ∧ Q (.bl (!o.isSome)) H) := by
  intro pins s σ H y x v u Q I ry rx h
  obtain ⟨a, o, rfl, g, q⟩ := h
  cases rx
  exact d_notIn (by omega) I g ry fun s3 I3 => ⟨.bl (!o.isSome), H, I3, rfl, q⟩
theorem opd_inDt {K : PySem.W.Frag} : OpD K (fun y x H Q => ∃ a o, x = .ref a ∧ DGet H a y o ∧ Q (.bl o.isSome) H) (inT false) := by
  intro M mu H S y x u v P Q ok ry rx h n
  obtain ⟨a, rfl, q⟩ := getT_ok ok rx ry h
  rcases q with ⟨g, h⟩ | ⟨d, w, g, _, h⟩
  · exact ⟨a, _, rfl, g, n _ H (.bl _) S (.refl _ _) ok rfl h⟩
  · exact ⟨a, _, rfl, g, n _ H (.bl _) S (.refl _ _) ok rfl h⟩
theorem opd_notInDt {K : PySem.W.Frag} : OpD K (fun y x H Q => ∃ a o, x = .ref a ∧ DGet H a y o ∧ Q (.bl (!o.isSome)) H) (inT true) := by
  intro M mu H S y x u v P Q ok ry rx h n
  obtain ⟨a, rfl, q⟩ := getT_ok ok rx ry h
  rcases q with ⟨g, h⟩ | ⟨d, w, g, _, h⟩
  · exact ⟨a, _, rfl, g, n _ H (.bl _) S (.refl _ _) ok rfl h⟩
  · exact ⟨a, _, rfl, g, n _ H (.bl _) S (.refl _ _) ok rfl h⟩
section
variable {X : Cx} {W : WX} {o i e f : Expr} {wo wk wd we : DW} {pos pos' apos cpos : Pos}
theorem de_dget (hu : X.A.units + 64 < cLine) (ho : DE X W o wo) (hi : DE X W i wk) (hs : NoSl i := by intro _ _; rfl) : DE X W (.Subscript o i pos) (wDGet wo wk) := by
  obtain ⟨_, po, ro⟩ := ho.ex
  obtain ⟨_, pi, ri⟩ := hi.ex
  refine ⟨_, pe_dget (by omega) po pi hs, ⟨fun M mu σ ρ S H P E Q ok en hw n x => ?_⟩⟩
  refine ro.run M mu σ ρ S H _ E _ ok en hw (fun v H1 d S1 k1 ok1 r1 h1 => ?_) x
  refine ri.run M mu σ ρ S1 H1 _ E _ ok1 (en.keep ok k1) h1 (fun u H2 y S2 k2 ok2 r2 h2 => ?_) (x.mono k1)
  obtain ⟨a, rfl, q⟩ := getT_ok ok2 (r1.keep ok1 k2) r2 h2
  rcases q with ⟨_, h⟩ | ⟨d', w, g, r3, h⟩
  · exact h.elim
  · exact ⟨a, w, rfl, g, n w H2 d' S2 (k1.trans k2) ok2 r3 h⟩
theorem de_dget2 (hu : X.A.units + 64 < cLine) (ho : DE X W o wo) (hi : DE X W e wk) (hf : DE X W f wd) (m : M2 X o "get" apos e f cpos := by exact ⟨rfl, rfl, rfl, rfl⟩) : DE X W (.Call (.Attribute o "get" apos) [e, f] [] cpos) (wDGet2 wo wk wd) := by
  obtain ⟨_, po, ro⟩ := ho.ex
  obtain ⟨_, pi, ri⟩ := hi.ex
  obtain ⟨_, pf, rf⟩ := hf.ex
  refine ⟨_, pe_dget2 (by omega) po pi pf m, ⟨fun M mu σ ρ S H P E Q ok en hw n x => ?_⟩⟩
  refine ro.run M mu σ ρ S H _ E _ ok en hw (fun v H1 d S1 k1 ok1 r1 h1 => ?_) x
  obtain ⟨a, rfl, hd⟩ := isD_ok ok1 r1 h1.1
  refine ⟨a, rfl, hd, ?_⟩
  refine ri.run M mu σ ρ S1 H1 _ E _ ok1 (en.keep ok k1) h1.2 (fun u H2 y S2 k2 ok2 r2 h2 => ?_) (x.mono k1)
  refine rf.run M mu σ ρ S2 H2 _ E _ ok2 ((en.keep ok k1).keep ok1 k2) h2 (fun w H3 z S3 k3 ok3 r3 h3 => ?_) (x.mono (k1.trans k2))
  obtain ⟨a', e', q⟩ := getT_ok ok3 ((r1.keep ok1 k2).keep ok2 k3) (r2.keep ok2 k3) h3
  cases e'
  have kk := k1.trans (k2.trans k3)
  rcases q with ⟨g, h⟩ | ⟨d', w', g, r4, h⟩
  · exact ⟨_, g, n _ H3 _ S3 kk ok3 r3 h⟩
  · exact ⟨_, g, n _ H3 _ S3 kk ok3 r4 h⟩
theorem cell_dt {K : PySem.W.Frag} {M : Addr → Prop} {mu : List Addr} {H : Hp} {S : Sto} (ok : Wok K M mu H S) {i : Nat} {a : Addr} (ha : mu[i]? = some a) {es us : List (List Key × V)} {kvs : TD} (hv : H a = some (.dT es))
    (hk : us.map (·.1) = kvs.map (·.1)) (r : Rt K M mu H kvs (us.map (·.2))) : Wok K M mu (upd H a (.dT us)) (S.set i (.dt kvs)) ∧ Keep mu H (upd H a (.dT us)) ∧ Ext0 M mu H M mu (upd H a (.dT us)) := by
  have ex : Ext0 M mu H M mu (upd H a (.dT us)) := ⟨fun b q h nb => by rw [upd_ne fun e => nb.elim (fun nb => nb (by rw [e]; exact ok.sub a (List.mem_of_getElem? ha))) (notF_dT hv q (by rw [← e]; exact h))]; exact h, ⟨[], by simp⟩, fun a h => .inl h⟩
  obtain ⟨h1, h2⟩ := ok.cell (o := .dT us) (c := .dt kvs) ha (notF_dT hv) ⟨us, upd_same, hk, Rt.mono ex _ _ r⟩
  exact ⟨h1, h2, ex⟩
theorem ds_dput (hu : X.A.units + 64 < cLine) (he : DE X W e we) (ho : DE X W o wo) (hi : DE X W i wk) (hs : swapsWith e (some (.Subscript o i pos')) pos.line X.env = pure false := by rfl) : DS X W (.Assign [.Subscript o i pos'] e pos) (wsDPut we wo wk) := by
  obtain ⟨_, pe, re⟩ := he.ex
  obtain ⟨_, po, ro⟩ := ho.ex
  obtain ⟨_, pi, ri⟩ := hi.ex
  refine ⟨_, ps_dput (by omega) po pi pe hs, ⟨fun M mu σ ρ S H Y Y' ok en hw n => ?_⟩⟩
  refine re.run M mu σ ρ S H _ _ _ ok en hw (fun v H1 d S1 k1 ok1 r1 h1 => ?_) (n.exc ok.sub σ)
  have n1 := n.mono (.of ok.sub k1)
  refine ro.run M mu σ ρ S1 H1 _ _ _ ok1 (en.keep ok k1) h1 (fun u H2 x S2 k2 ok2 r2 h2 => ?_) (n1.exc ok1.sub σ)
  have n2 := n1.mono (.of ok1.sub k2)
  refine ri.run M mu σ ρ S2 H2 _ _ _ ok2 ((en.keep ok k1).keep ok1 k2) h2 (fun w H3 y S3 k3 ok3 r3 h3 => ?_) (n2.exc ok2.sub σ)
  have n3 := n2.mono (.of ok2.sub k3)
  split at h3
  · rename_i j k ek
    cases e1 : val S3 (.loc j) with
    | dt es =>
      simp only [e1] at h3
      obtain ⟨a, rfl, ha⟩ := r2
      obtain ⟨b, rfl, hb⟩ := tk_ok r3 ek
      obtain ⟨es', hv, hk, rv⟩ : Cl X.K M mu H3 (.dt es) a := ok3.at_ j a _ ha (val_loc e1 (by simp))
      have r1' := (r1.keep ok1 k2).keep ok2 k3
      obtain ⟨q1, q2⟩ := rt_put r1' k hk rv
      obtain ⟨ok4, k4, _⟩ := cell_dt ok3 ha hv q1 q2
      have hl : es'.length < 1000000 := by rw [rt_len hk]; exact h3.1
      exact ⟨a, _, rfl, .inr ⟨es', k, b, hv, rfl, hb, line_lt hl, rfl⟩, n3.nx M mu σ ρ _ _ (.of ok3.sub k4) ok4 ((((en.keep ok k1).keep ok1 k2).keep ok2 k3).keep ok3 k4) h3.2⟩
    | _ => simp only [e1] at h3
  · exact h3.elim
end
end DL
set_option maxRecDepth 100000
namespace DL
open PySem PySem.Spec PyProof.Rows L2
/-! ### a dict comprehension whose keys are tuples (the walk follows the rule for plain keys in HandS.DictComp; the table is a dT here) -/
section
variable {X : Cx} {pins : List (Addr × Obj)} {σ : L2.St} {H : Hp} {s : Shared}
theorem dictSet_T {E : Value → Shared → Prop} {d b : Addr} {es : List (List Key × V)} {k : List Key} {v : V} {r : Value} {Q : Unit → Shared → Prop} (hu : X.A.units < cLine) (I : Inv X pins σ H s) (hd : H d = some (.dT es)) (hz : es.length < sizeLine)
    (hb : H b = some (.tup (k.map kV))) (rv : RelV v r) (h : ∀ s', Inv X pins σ (upd H d (.dT (putK es k v))) s' → Q () s') : wpAny (model X.prog X.w) X.A (dictSet d (.ref b) r) Q E s := by
  obtain ⟨z, h0, xs, rel, dd⟩ := dt_of I.hok hd
  have hzx : xs.length ≤ sizeLine := by rw [← Paired.length rel]; exact z
  have hzp : (putK es k v).length ≤ sizeLine := Nat.le_trans (length_putK es k v) hz
  refine wpAny_dictSet_heap (hsz := hzx) (show (tupleKind (mixKind X.prog X.w)).room X.A from hu) (key_of I.hok hb) dd fun h' dd' hs => h _ ?_
  obtain ⟨ob, es', ep, hob, c1, c2, c3, _, c4⟩ := dd'
  refine d_write I (by rw [hd]; exact True.intro) hs ⟨ob, hob⟩ ⟨hzp, h0, _, (rel.put k hb rv).keeps fun c ys ec => ?_, ob, es', ep, hob, c1, c2, c3, c4⟩
  rw [upd_ne (ne_of ec hd (fun z => nomatch z))]
  exact ec
end
section
variable {X : Cx}
/-- the reading: d is the new dict -/
def tDcT (wi : TI) (g : TG) (tt : TT) (tk tv : TE) (vs : List Nat) : TE := fun σ H Q => wi σ H fun J H1 => ∀ d, H1 d = none → ∃ Wd : Nat → Nat → Hp → Prop, (∃ m, Wd 0 m (upd H1 d (.dT []))) ∧ ∀ i m H, Wd i m H →
  (J.stop i H ∧ Q (.ref d) H) ∨ (J.go i H ∧ ∃ Nx : Hp → Prop, (∀ H', Nx H' → ∃ m', m' < m ∧ Wd (i + 1) m' H') ∧ ∀ x H', J.yld i H x H' → g x (wipe σ vs) H' fun σ2 H2 => wipe σ2 vs = wipe σ vs ∧ tt σ2 H2 fun b H3 =>
    if b = true then tk σ2 H3 fun y H4 => tv σ2 H4 fun z H5 => ∃ es k q, y = .ref q ∧ H5 q = some (.tup (k.map kV)) ∧ H5 d = some (.dT es) ∧ es.length < sizeLine ∧ Nx (upd H5 d (.dT (putK es k z))) else Nx H3)
abbrev CeX (X : Cx) (s : Shared) (H : Hp) (scope : Scope) (C : Addr) (cl : List (Str × Addr)) (fp : List Addr) : Cx := X.blk s H scope (compEnvC scope cl C X.env) fp
theorem pe_dcT {kx vx tg iter : Expr} {ifs : List Expr} {scope : Scope} {own : List (Str × Nat)} {pos : Pos} {wi : TI} {g : TG} {tt : TT} {tk tv : TE} (hu : X.A.units < cLine) (hc : X.calm = true) (hN : X.N.Nodup) (hi : PI X tg iter wi) (ok : BlkOk X.N X.env.scope scope own)
    (hg : ∀ s H C cl fp, PG (CeX X s H scope C cl fp) tg g) (ht : ∀ s H C cl fp, PTs (CeX X s H scope C cl fp) ifs tt) (hk : ∀ s H C cl fp, PE (CeX X s H scope C cl fp) kx tk) (he : ∀ s H C cl fp, PE (CeX X s H scope C cl fp) vx tv)
    (hA : ∀ s H C cl fp, (CeX X s H scope C cl fp).A.units < cLine) (hs : ∀ x, foldedSetIterable iter X.env x = pure x := by intro _; rfl) : PE X (.DictComp kx vx [⟨tg, iter, ifs, 0⟩] scope pos) (tDcT wi g tt tk tv (own.map (·.2))) := by
  refine ⟨fun pins s σ H Q I h => ?_⟩
  rw [arm_eval_DictComp]
  have hfree : ∀ y ∈ scope.names, y.2 = .free → ∃ c, X.env.cells.lookup y.1 = some c := fun y hy e => (ok.free y hy e).elim (fun z => I.ok.has _ (.inl z)) fun z => I.ok.has _ (.inr z)
  refine wpAny_comprehension_free (use := none) rfl hs (closure_ok hfree) ok.kind (fun y hy e => by rw [ok.uniq y hy, e]) (thn (hi.run pins s σ H _ I h) fun xv s1 hx => thn hx fun itv s2 h2 => ?_)
  obtain ⟨it, fp, tn, J, H2, rfl, I2, T, st2, f2, q⟩ := h2
  refine wpAny_newObj_type (newEnv_comp ?_)
  generalize hd : s2.heap.objs.size = d
  obtain ⟨Wd, ⟨m0, w0⟩, turn⟩ := q d (I2.hok.fresh (Nat.le_of_eq hd))
  generalize hs3 : ({ s2 with heap := s2.heap.push { cls := .type "dict", data := .dict #[] } } : Shared) = s3
  have h3 : s3.heap = s2.heap.push { cls := .type "dict", data := .dict #[] } := by rw [← hs3]
  have I3 : Inv X pins σ (upd H2 d (.dT [])) s3 := by
    subst hs3 hd
    exact I2.laid (t' := s2.toks) (fun b o e => Heap.get?_push_of_some _ e) (Nat.le_refl _) (dt_empty s2.heap I2.big)
  have f3 : ∀ b ∈ fp, FpOk X pins (upd H2 d (.dT [])) b ∧ b < s3.heap.objs.size := fun b hb => by
    obtain ⟨o, e, _⟩ := T.obj _ _ st2 b hb
    have hlt := Heap.lt_size e
    exact ⟨⟨by rw [upd_ne (by rw [← hd]; exact Nat.ne_of_lt hlt)]; exact (f2 b hb).1, (f2 b hb).2⟩, by rw [h3, Heap.size_push]; exact Nat.lt_succ_of_lt hlt⟩
  have st3 : tn 0 s3.heap := T.keep _ _ _ st2 fun b _ o e => by rw [h3]; exact Heap.get?_push_of_some _ e
  have I4 := block_start I3 ok hN f3
  generalize hcl : cellsFrom (s3.heap.objs.size + 1) scope.names (cloFrom X.env.cells scope.names []) = cl at I4
  have pg := hg s3 (upd H2 d (.dT [])) s3.heap.objs.size cl fp
  have pt := ht s3 (upd H2 d (.dT [])) s3.heap.objs.size cl fp
  have pk := hk s3 (upd H2 d (.dT [])) s3.heap.objs.size cl fp
  have pv := he s3 (upd H2 d (.dT [])) s3.heap.objs.size cl fp
  have hu' := hA s3 (upd H2 d (.dT [])) s3.heap.objs.size cl fp
  have nfp : ∀ b ∈ fp, (upd H2 d (.dT [])) b = none := fun b hb => (f3 b hb).1.1
  unfold CeX at pg pt pk pv hu'
  show codeAny _ _ (.compStart (.DictComp kx vx [⟨tg, iter, ifs, 0⟩] scope pos) 0 (.ref it) (.ref d) (compEnvC scope cl s3.heap.objs.size X.env)) (compPost (model X.prog X.w) X.A X.xe none (EP X pins σ Q) (.ref d) s3.heap.objs.size) { s3 with heap := pushCells (s3.heap.push { cls := .type "dict", data := .dict #[] }) scope.names }
  generalize hce : compEnvC scope cl s3.heap.objs.size X.env = ce at I4 pg pt pk pv hu' ⊢
  have cL : ce.locals = s3.heap.objs.size := by rw [← hce]; rfl
  generalize hH3 : upd H2 d (.dT []) = H3 at I3 I4 pg pt pk pv w0 nfp f3 hu'
  generalize hs4 : ({ s3 with heap := pushCells (s3.heap.push { cls := .type "dict", data := .dict #[] }) scope.names } : Shared) = s4 at I4 ⊢
  have st4 : tn 0 s4.heap := T.keep _ _ _ st3 fun b _ o e => by rw [← hs4]; exact pushCells_keeps _ _ _ _ (Heap.get?_push_of_some _ e)
  have stat : ∀ {σ' : L2.St} {H' : Hp} {s' : Shared}, Inv (X.blk s3 H3 scope ce fp) [] σ' H' s' → (∀ b ∈ fp, H' b = none) → ∀ b ∈ fp, FpOk (X.blk s3 H3 scope ce fp) [] H' b := fun {σ' H' s'} J hn b hb =>
    ⟨hn b hb, (J.ok.exf b hb).1, J.ok.exfs b hb, .inl hb, fun x c e => (J.ok.exf b hb).2 x c e, fun p hp => absurd (show p ∈ ([] : List (Addr × Obj)) ++ [] from hp) (by simp)⟩
  have hRR : ∀ s' m H', Inv X pins σ H' s' → Q (.ref d) H' → s'.heap.Ns s3.heap.objs.size m → FpOk X pins H' s3.heap.objs.size → compPost (model X.prog X.w) X.A X.xe none (EP X pins σ Q) (.ref d) s3.heap.objs.size (.ok .next) s' := fun s' m H' J qq hn ff =>
    ⟨m, hn, fun h'' sb => ⟨.ref d, H', J.turned (t' := s'.toks) (fun b o hb e => (sb.2 b hb).trans e) ff.1 ff.2.1 ff.2.2.2.1 ff.2.2.2.2.1 ff.2.2.2.2.2, rfl, qq⟩⟩
  let Lp : Nat → Shared → Prop := fun n s' => ∃ i H', Inv (X.blk s3 H3 scope ce fp) [] (wipe σ (own.map (·.2))) H' s' ∧ tn i s'.heap ∧ (∀ b ∈ fp, H' b = none) ∧ Wd i n H'
  have loop : codeAny (model X.prog X.w) X.A (.compLoop (.DictComp kx vx [⟨tg, iter, ifs, 0⟩] scope pos) 0 (.ref it) (.ref d) ce) (compPost (model X.prog X.w) X.A X.xe none (EP X pins σ Q) (.ref d) s3.heap.objs.size) s4 := by
    refine compLoop_anyD Lp ?_ m0 ⟨0, H3, I4, st4, nfp, w0⟩
    rintro n s5 ⟨i, H5, I5, st5, n5, w5⟩
    rcases turn i n H5 w5 with ⟨stop, qq⟩ | ⟨go, Nx, hNx, step⟩
    · refine thnF (T.done (X.blk s3 H3 scope ce fp) rfl rfl rfl hc i [] s5 _ H5 (fun _ _ => False) I5 (stat I5 n5) st5 stop) fun r s6 ⟨hr, I6⟩ => ?_
      subst hr
      have I7 : Inv X pins σ H5 s6 := I3.call' (ch := fp) I6.os I6.base I6.hok I6.bare fun b hb => ⟨(f3 b hb).1.2.2.2.1, (f3 b hb).1.2.1, (f3 b hb).1.2.2.2.2.1, (f3 b hb).1.2.2.2.2.2⟩
      have nC : H5 s3.heap.objs.size = none := by
        rw [← cL]
        exact I6.free
      obtain ⟨m, hn, _⟩ := I6.loc
      exact hRR s6 m H5 I7 qq (by rw [← cL]; exact hn) (I3.fpOk (Nat.le_refl _) nC)
    · refine thnF (T.item (X.blk s3 H3 scope ce fp) rfl rfl rfl hc i [] s5 _ H5 (fun _ _ => False) I5 (stat I5 n5) st5 go) fun r s6 ⟨u, hr, h6⟩ => ?_
      subst hr
      refine thnF h6 fun _ s7 ⟨x, H7, I7, r7, y7, st7, n7⟩ => ?_
      refine thnF (pg.run _ s7 _ H7 x u _ (I7.pinned (stat I7 n7) (T.obj _ _ st7)) r7 (step x H7 y7)) fun _ s8 ⟨σ8, H8, I8, hw8, q8⟩ => ?_
      refine thnF (pt.run _ s8 σ8 H8 _ I8 q8) fun b s9 ⟨H9, I9, q9⟩ => ?_
      have fin : ∀ {s' : Shared} {H' : Hp}, Inv (X.blk s3 H3 scope ce fp) ([] ++ pinsAt fp s7.heap) σ8 H' s' → Nx H' → ∃ m, m < n ∧ Lp m s' := fun {s' H'} J nx => by
        obtain ⟨m', hm, w'⟩ := hNx H' nx
        have pin' : ∀ b ∈ fp, ∀ o, s7.heap.get? b = some o → s'.heap.get? b = some o ∧ H' b = none := fun b hb o e =>
          have z := J.pin (b, o) (List.mem_append_right _ (List.mem_append_right _ (mem_pinsAt hb e)))
          ⟨z.1, z.2.1⟩
        refine ⟨m', hm, i + 1, H', (J.unpinned (pins := [])).weak (by rw [← hw8, wipe_length]) (fun j v e => ?_), T.keep _ _ _ st7 fun b hb o e => (pin' b hb o e).1, fun b hb => ?_, w'⟩
        · rw [← hw8] at e
          exact (wipe_some e).1
        · obtain ⟨o, e, _⟩ := T.obj _ _ st7 b hb
          exact (pin' b hb o e).2
      cases b with
      | false =>
        rw [if_neg Bool.false_ne_true] at q9 ⊢
        exact fin I9 q9
      | true =>
        rw [if_pos rfl] at q9 ⊢
        refine thnF (pk.run _ s9 σ8 H9 _ I9 q9) fun z s10 ⟨yk, H10, I10, r10, q10⟩ => ?_
        refine thnF (pv.run _ s10 σ8 H10 _ I10 q10) fun z2 s11 ⟨yv, H11, I11, r11, es, k, b, ek, hb11, hd11, hz11, nx⟩ => ?_
        subst ek
        cases r10
        exact dictSet_T (X := X.blk s3 H3 scope ce fp) hu' I11 hd11 hz11 hb11 r11 fun s12 I12 => fin I12 nx
  exact codeAny_compStart_dict loop (T.self X.A 0 _ _ _ st4 loop)
end
end DL
set_option maxRecDepth 100000
namespace DL
open PySem PySem.Spec PyProof.Rows L2
/-! ### dicts: made, told to be for good, walked over -/
def tFrz (t : TE) : TE := fun σ H Q => t σ H fun v H1 => ∃ d u, v = .ref d ∧ H1 d = some u ∧ Mut (some u) ∧ ∀ od, Q v (upd H1 d (.frz od u))
theorem pe_frz {X : Cx} {e : Expr} {t : TE} (h : PE X e t) : PE X e (tFrz t) := ⟨fun pins s σ H Q I hh => thn (h.run pins s σ H _ I hh) fun u s1 ⟨x, H1, I1, rx, d, uo, ex, hd, mu, q⟩ => by
  obtain ⟨od, I2⟩ := I1.lock hd mu
  exact ⟨x, _, I2, rx, q od⟩⟩
section
variable {K : PySem.W.Frag} {M M' : Addr → Prop} {mu mu' : List Addr} {H H' : Hp} {S : Sto}
theorem Cl.mono (e : Ext0 M mu H M' mu' H') {d : D} {a : Addr} (q : H' a = H a) (c : Cl K M mu H d a) : Cl K M' mu' H' d a := by
  cases d with
  | lst ds => obtain ⟨vs, h1, h2⟩ := c; exact ⟨vs, q.trans h1, Rs.mono e _ _ h2⟩
  | dk kvs => obtain ⟨es, h1, h2, h3⟩ := c; exact ⟨es, q.trans h1, h2, Rk.mono e _ _ h3⟩
  | dt kvs => obtain ⟨es, h1, h2, h3⟩ := c; exact ⟨es, q.trans h1, h2, Rt.mono e _ _ h3⟩
  | obj C fs => obtain ⟨dx, gs, h1, h2, h3⟩ := c; exact ⟨dx, gs, q.trans h1, h2, Rfs.mono e _ _ h3⟩
  | tb P z => obtain ⟨rfl, h⟩ := c; exact ⟨rfl, TabM.mono e q h⟩
  | _ => exact c
/-- the object set aside becomes the next cell, whatever it is -/
theorem Wok.pushC {p : Addr} {c : D} (ok : Wok K (fun a => M a ∨ a = p) mu H S) (np : p ∉ mu) (hc : Cl K (fun a => M a ∨ a = p) mu H c p) :
    Wok K (fun a => M a ∨ a = p) (mu ++ [p]) H (S ++ [c]) ∧ Ext0 (fun a => M a ∨ a = p) mu H (fun a => M a ∨ a = p) (mu ++ [p]) H := by
  have ex : Ext0 (fun a => M a ∨ a = p) mu H (fun a => M a ∨ a = p) (mu ++ [p]) H := ⟨fun _ _ h _ => h, ⟨[p], rfl⟩, fun a h => .inl h⟩
  refine ⟨⟨by simp [ok.len], fun a h => ?_, ?_, ok.tr, fun i a d h1 h2 => ?_⟩, ex⟩
  · exact (List.mem_append.mp h).elim (ok.sub a) fun z => .inr (List.mem_singleton.mp z)
  · exact List.nodup_append.mpr ⟨ok.nd, by simp, fun a ha b hb e => np ((List.mem_singleton.mp hb) ▸ e ▸ ha)⟩
  · by_cases hi : i < mu.length
    · rw [List.getElem?_append_left hi] at h1
      rw [List.getElem?_append_left (by rw [ok.len]; exact hi)] at h2
      exact (ok.at_ i a d h1 h2).mono ex rfl
    · have hi' := (List.getElem?_eq_some_iff.mp h1).1
      have e : i = mu.length := by simp at hi'; omega
      subst e
      obtain rfl : p = a := by simpa using h1
      obtain rfl : c = d := by rw [← ok.len] at h2; simpa using h2
      exact hc.mono ex rfl
end
def wNewT : DW := fun _ S P _ => P (.loc S.length) (S ++ [.dt []])
theorem dx_newT {X : Cx} {W : WX} {pos : Pos} : DX X W (.Dict [] [] pos) wNewT := by
  refine ⟨_, pe_dnewT, ⟨fun M mu σ ρ S H P E Q ok en hw n x p hp => ?_⟩⟩
  obtain ⟨ex, oka⟩ := ok.aside hp (.dT [])
  have np : p ∉ mu := fun m => ok.tr p (ok.sub p m) hp
  obtain ⟨ok2, ex2⟩ := oka.pushC (c := .dt []) np ⟨[], upd_same, rfl, rfl⟩
  have ex1 : Ext M mu H (fun a => M a ∨ a = p) (mu ++ [p]) (upd H p (.dT [])) := ⟨⟨fun b q hb nb => ex.keepM b q hb nb, ⟨[p], rfl⟩, fun a h => h.imp id fun e => by rw [e]; exact hp⟩, ex.keep, fun a h =>
    (List.mem_append.mp h).elim .inl fun z => .inr (by rw [List.mem_singleton.mp z]; exact hp), fun a h => .inl h, ok.sub⟩
  refine n _ (mu ++ [p]) (.ref p) _ (.loc S.length) _ ex1 ok2 ⟨p, rfl, ?_⟩ hw
  rw [ok.len]
  simp
/-! the dict in the slot v is for good from here on -/
def wsRetire (v : Nat) (w : DWS) : DWS := fun Y ρ S => match ρ[v]? with
  | some (some (.loc i)) => (match S[i]? with
    | some (.dt es) => w Y (ρ.set v (some (.dt es))) (S.set i .non)
    | _ => False)
  | _ => False
theorem ds_retire {X : Cx} {W : WX} {st : Stmt} {w : DWS} (v : Nat) (h : DS X W st w) : DS X W st (wsRetire v w) := by
  obtain ⟨t, p, r⟩ := h.ex
  refine ⟨fun Y σ H => ∃ d u, H d = some u ∧ Mut (some u) ∧ ∀ od, t Y σ (upd H d (.frz od u)), ⟨fun pins s σ H Y I ⟨d, u, hd, mu, q⟩ => ?_⟩, ⟨fun M mu σ ρ S H Y Y' ok en hw n => ?_⟩⟩
  · obtain ⟨od, I2⟩ := I.lock hd mu
    exact p.run pins s σ _ Y I2 (q od)
  · unfold wsRetire at hw
    split at hw
    · rename_i i e1
      split at hw
      · rename_i es e2
        obtain ⟨u, hu, a, rfl, ha⟩ := en.get v _ e1
        obtain ⟨es', hv, hk, rv⟩ : Cl X.K M mu H (.dt es) a := ok.at_ i a _ ha e2
        refine ⟨a, _, hv, True.intro, fun od => ?_⟩
        obtain ⟨ok1, k1⟩ := ok.cell (o := .frz od (.dT es')) (c := .non) ha (notF_dT hv) True.intro
        have e0 := (ok.ext k1).toExt0
        have rr : R X.K M mu (upd H a (.frz od (.dT es'))) (.dt es) (.ref a) := ⟨a, od, es', rfl, upd_same, hk, Rt.mono e0 _ _ rv⟩
        have en1 := (en.keep ok k1).set (i := v) rr
        have es1 : σ.set v (some (V.ref a)) = σ := by
          obtain ⟨hlt, he⟩ := List.getElem?_eq_some_iff.mp hu
          rw [← he]
          exact List.set_getElem_self hlt
        rw [es1] at en1
        exact r.run M mu σ _ _ _ Y Y' ok1 en1 hw (n.mono (ok.ext k1))
      · exact hw.elim
    · exact hw.elim
/-! the keys, one after the other -/
def keysT (es : TD) : List D := es.map fun e => .tup (e.1.map keyD)
section
variable {K : PySem.W.Frag} {M : Addr → Prop} {mu : List Addr} {H : Hp} {S : Sto}
theorem itOk_keysT {a : Addr} {od : Obj} {es : List (List Key × V)} {kvs : TD} (ha : H a = some (.frz od (.dT es))) (hk : es.map (·.1) = kvs.map (·.1)) : ItOk K (Itkt a od es) M mu H (keysT kvs) none := fun M' mu' H' S' ex ok _ i => by
  have h' := ex.toExt0.keepM a _ ha (.inr isF_frz)
  have hl := rt_len hk
  have hl2 : (keysT kvs).length = kvs.length := by simp [keysT]
  refine ⟨fun d hd => ?_, fun hi => ⟨h', by omega⟩⟩
  have hi : i < kvs.length := by rw [← hl2]; exact (List.getElem?_eq_some_iff.mp hd).1
  refine ⟨⟨h', by omega⟩, fun x H2 y => ?_⟩
  obtain ⟨rfl, k, v, q, e1, rfl, hq⟩ := y
  refine ⟨.refl _ _, ok, ?_⟩
  have e2 : (kvs.map (·.1))[i]? = some k := by rw [← hk, List.getElem?_map, e1]; rfl
  have e3 : d = .tup (k.map keyD) := by
    unfold keysT at hd
    rw [List.getElem?_map] at hd
    rw [List.getElem?_map] at e2
    cases e4 : kvs[i]? with
    | none => rw [e4] at e2; cases e2
    | some z =>
      rw [e4] at hd e2
      obtain rfl : z.1 = k := Option.some.inj e2
      exact (Option.some.inj hd).symm
  subst e3
  exact ⟨q, _, rfl, hq, rs_keys k⟩
end
def wiKeysT (w : DW) : DWI := fun ρ S P E => w ρ S (fun d S1 => match d with
  | .dt es => P (keysT es) none S1
  | _ => False) E
theorem di_keysT {X : Cx} {W : WX} {tg e : Expr} {we : DW} (h : DE X W e we) : DI X W tg e (wiKeysT we) := by
  obtain ⟨_, pa, ra⟩ := h.ex
  refine ⟨_, pi_keys pa, ⟨fun M mu σ ρ S H P E Q ok en hw n x => ?_⟩⟩
  refine ra.run M mu σ ρ S H _ E _ ok en hw (fun v H1 d S1 k1 ok1 r1 h1 => ?_) x
  cases d with
  | dt es =>
    obtain ⟨a, od, es', rfl, ha, hk, rv⟩ := r1
    exact ⟨a, od, rfl, .inr ⟨es', ha, n _ H1 _ none S1 k1 ok1 (itOk_keysT ha hk) True.intro h1⟩⟩
  | _ => exact h1.elim
/-! {k: v for .. in .. if ..} -/
def dcW (g : DWG) (tt : DWT) (tk tv : DW) (ρ : Loc) (P : TD → Sto → Prop) : List D → TD → Sto → Prop
  | [], acc, S => P acc S
  | x :: xs, acc, S => g x S ρ fun ρ' => tt ρ' S (fun b S1 => if b = true then tk ρ' S1 (fun y S2 => tv ρ' S2 (fun z S3 => acc.length < 1000000 ∧ match tkOf y with
    | some k => dcW g tt tk tv ρ P xs (putT acc k z) S3
    | none => False) EF) EF else dcW g tt tk tv ρ P xs acc S1) EF
def wDcT (wi : DWI) (g : DWG) (tt : DWT) (tk tv : DW) (vs : List Nat) : DW := fun ρ S P E => wi ρ S (fun items src S1 => (match src with
  | none => True
  | some _ => False) ∧ dcW g tt tk tv (wD ρ vs) (fun es S2 => P (.dt es) S2) items [] S1) E
section
variable {K : PySem.W.Frag} {W : WX} {ti : TI} {g : TG} {tt : TT} {tk tv : TE} {wi : DWI} {wg : DWG} {wt : DWT} {wk wv : DW} {vs is : List Nat}
theorem rd_dcT (ri : RdI K W ti wi) (rg : RdG K g wg is) (hs : ∀ i ∈ is, i ∈ vs) (rt : RdT K W0 tt wt) (rk : Rd K W0 tk wk) (rv : Rd K W0 tv wv) : Rd K W (tFrz (tDcT ti g tt tk tv vs)) (wDcT wi wg wt wk wv vs) := by
  refine ⟨fun M mu σ ρ S H P E Q ok en hw n x => ?_⟩
  refine ri.run M mu σ ρ S H _ E _ ok en hw (fun J H1 items src S1 k1 ok1 it hsrc h1 => ?_) x
  obtain ⟨hnone, h1⟩ := h1
  cases src with
  | some _ => exact hnone.elim
  | none =>
  intro p hp
  have np : p ∉ mu := fun h => ok1.tr p (ok1.sub p h) hp
  obtain ⟨ex1, oka⟩ := ok1.aside hp (.dT [])
  have en1 := en.keep ok k1
  have good : ∀ H', Keep mu H1 H' → Ext M mu H1 (fun a => M a ∨ a = p) mu H' := fun H' k => ⟨⟨fun b q h nb => k b q h (nb.imp (fun nb z => nb (ok1.sub b z)) id), ⟨[], by simp⟩, fun a h => h.imp id fun e => by rw [e]; exact hp⟩, k, fun a h => .inl h, fun a h => .inl h, ok1.sub⟩
  have xf : ∀ (M : Addr → Prop) H' σ', Exc K M mu H' EF (fun C d H' => W0 C d σ' H') := fun _ _ _ _ _ _ _ _ _ _ _ _ h => h
  refine ⟨fun i m H' => m = items.length - i ∧ i ≤ items.length ∧ ∃ S' acc es, Keep mu H1 H' ∧ H' p = some (.dT es) ∧ es.map (·.1) = acc.map (·.1) ∧ Wok K (fun a => M a ∨ a = p) mu H' S' ∧ Rt K (fun a => M a ∨ a = p) mu H' acc (es.map (·.2)) ∧ dcW wg wt wk wv (wD ρ vs) (fun es S2 => P (.dt es) S2) (items.drop i) acc S',
    ⟨items.length, by simp, Nat.zero_le _, S1, [], [], ex1.keep, upd_same, rfl, oka, rfl, by simpa using h1⟩, ?_⟩
  rintro i m H' ⟨rfl, hi, S', acc, es, kH, hpa, hke, okp, racc, hl⟩
  have ex' := good H' kH
  by_cases hlt : i < items.length
  · refine .inr ?_
    rw [List.drop_eq_getElem_cons hlt] at hl
    have hl1 := (it _ _ _ S' ex' okp True.intro i).1 items[i] (List.getElem?_eq_getElem hlt)
    refine ⟨hl1.1, fun H2 => ∃ S2 acc2 es2, Keep mu H1 H2 ∧ H2 p = some (.dT es2) ∧ es2.map (·.1) = acc2.map (·.1) ∧ Wok K (fun a => M a ∨ a = p) mu H2 S2 ∧ Rt K (fun a => M a ∨ a = p) mu H2 acc2 (es2.map (·.2)) ∧ dcW wg wt wk wv (wD ρ vs) (fun es S2 => P (.dt es) S2) (items.drop (i + 1)) acc2 S2,
      fun H2 q => ⟨items.length - (i + 1), by omega, rfl, hlt, q⟩, fun y H2 hy => ?_⟩
    obtain ⟨k2, ok2, r2⟩ := hl1.2 y H2 hy
    have enb : Env K (fun a => M a ∨ a = p) mu H2 (wD ρ vs) (wipe σ vs) := (en1.wipe vs).mono (good H2 (kH.trans k2)).toExt0
    have racc2 := Rt.mono (okp.ext k2).toExt0 _ _ racc
    refine rg.run _ mu _ _ S' H2 items[i] y _ _ ok2 enb r2 hl fun σ3 ρ3 en3 w3 h3 => ?_
    refine ⟨(w3 vs hs).trans wipe_wipe, ?_⟩
    refine rt.run _ mu σ3 ρ3 S' H2 _ EF _ ok2 en3 h3 (fun b H4 S4 k4 ok4 h4 => ?_) (xf _ _ _)
    have hp4 : H4 p = some (.dT es) := k4 _ _ (k2 _ _ hpa (.inl np)) (.inl np)
    have racc4 := Rt.mono (ok2.ext k4).toExt0 _ _ racc2
    cases b with
    | false =>
      rw [if_neg Bool.false_ne_true] at h4 ⊢
      exact ⟨S4, acc, es, kH.trans (k2.trans k4), hp4, hke, ok4, racc4, h4⟩
    | true =>
      rw [if_pos rfl] at h4 ⊢
      refine rk.run _ mu σ3 ρ3 S4 H4 _ EF _ ok4 (en3.keep ok2 k4) h4 (fun u H5 d5 S5 k5 ok5 r5 h5 => ?_) (xf _ _ _)
      refine rv.run _ mu σ3 ρ3 S5 H5 _ EF _ ok5 ((en3.keep ok2 k4).keep ok4 k5) h5 (fun z H6 d6 S6 k6 ok6 r6 h6 => ?_) (xf _ _ _)
      obtain ⟨hln, h6⟩ := h6
      cases ek : tkOf d5 with
      | none => simp only [ek] at h6
      | some k =>
        simp only [ek] at h6
        obtain ⟨b, rfl, hb⟩ := tk_ok (r5.keep ok5 k6) ek
        have hp6 : H6 p = some (.dT es) := k6 _ _ (k5 _ _ hp4 (.inl np)) (.inl np)
        have racc6 := Rt.mono (ok5.ext k6).toExt0 _ _ (Rt.mono (ok4.ext k5).toExt0 _ _ racc4)
        obtain ⟨q1, q2⟩ := rt_put r6 k hke racc6
        obtain ⟨exw, okw⟩ := ok6.wrote np (notF_dT hp6) (.dT (putK es k z))
        refine ⟨es, k, b, rfl, hb, hp6, line_lt (by rw [rt_len hke]; exact hln), S6, putT acc k d6, putK es k z, ?_, upd_same, q1, okw, Rt.mono exw _ _ q2, h6⟩
        intro b q hb nb
        rw [upd_ne (ne_of_none hb hp)]
        exact k6 _ _ (k5 _ _ (k4 _ _ (k2 _ _ (kH b q hb nb) nb) nb) nb) nb
  · refine .inl ?_
    have e : i = items.length := by omega
    subst e
    rw [List.drop_length] at hl
    refine ⟨(it _ _ _ S' ex' okp True.intro _).2 (Nat.le_refl _), p, _, rfl, hpa, True.intro, fun od => ?_⟩
    obtain ⟨exw, okw⟩ := okp.wrote np (notF_dT hpa) (.frz od (.dT es))
    refine n (.ref p) _ (.dt acc) S' ?_ (okw.less (fun a h => .inl h) ok1.sub) ⟨p, od, es, rfl, upd_same, hke, Rt.mono (ext_less fun a h => .inl h) _ _ (Rt.mono exw _ _ racc)⟩ hl
    exact k1.trans fun b q hb nb => by
      rw [upd_ne (ne_of_none hb hp)]
      exact kH b q hb nb
end
section
variable {X : Cx} {W : WX} {kx vx tg iter : Expr} {ifs : List Expr} {scope : Scope} {own : List (Str × Nat)} {pos : Pos} {wi : DWI} {wg : DWG} {wt : DWT} {wk wv : DW} {is : List Nat}
theorem de_dcT (hu : X.A.units + 64 < cLine) (hc : X.calm = true) (hN : X.N.Nodup) (hi : DI X W tg iter wi) (ok : BlkOk X.N X.env.scope scope own)
    (hg : ∀ (s : Shared) (H : Hp) (C : Addr) (cl : List (Str × Addr)) (fp : List Addr), DG (X.blk s H scope (compEnvC scope cl C X.env) fp) tg wg is)
    (ht : ∀ (s : Shared) (H : Hp) (C : Addr) (cl : List (Str × Addr)) (fp : List Addr), DTs (X.blk s H scope (compEnvC scope cl C X.env) fp) W0 ifs wt)
    (hk : ∀ (s : Shared) (H : Hp) (C : Addr) (cl : List (Str × Addr)) (fp : List Addr), DE (X.blk s H scope (compEnvC scope cl C X.env) fp) W0 kx wk)
    (he : ∀ (s : Shared) (H : Hp) (C : Addr) (cl : List (Str × Addr)) (fp : List Addr), DE (X.blk s H scope (compEnvC scope cl C X.env) fp) W0 vx wv)
    (his : ∀ i ∈ is, i ∈ own.map (·.2) := by decide) (hs : ∀ x, foldedSetIterable iter X.env x = pure x := by intro _; rfl) :
    DE X W (.DictComp kx vx [⟨tg, iter, ifs, 0⟩] scope pos) (wDcT wi wg wt wk wv (own.map (·.2))) := by
  obtain ⟨ti, pi, ri⟩ := hi.ex
  have hu' : X.A.units < cLine := Nat.lt_of_le_of_lt (Nat.le_add_right _ _) hu
  exact ⟨_, pe_frz (pe_dcT hu' hc hN pi ok (fun s H C cl fp => (hg s H C cl fp).can) (fun s H C cl fp => (ht s H C cl fp).can) (fun s H C cl fp => (hk s H C cl fp).can) (fun s H C cl fp => (he s H C cl fp).can) (fun _ _ _ _ _ => hu') hs),
    rd_dcT ri rd_gOf his rd_ttOf rd_tOf rd_tOf⟩
end
/-! len(d), list(d) -/
def lenDt : DFn := fun xs S P => match xs with
  | [x] => (match val S x with
    | .dt es => P (.int es.length) S
    | _ => False)
  | _ => False
theorem call_lenDt {X : Cx} : CallR X (.builtin "len") (fun xs H Q => ∃ (p : Addr) (es : List (List Key × V)), xs = [.ref p] ∧ L2.Rd H p (.dT es) ∧ Q (.int ((es.length : Nat) : Int)) H) := by
  intro pins s σ H xs us Q I r h
  obtain ⟨p, es, rfl, hp, q⟩ := h
  obtain ⟨u, rfl, rx⟩ := r.one
  cases rx
  obtain ⟨z, hd, ys, rel, dd⟩ := dt_rd I.hok hp
  have hl := Paired.length rel
  refine call_len_dictH hd dd (by rw [← hl]; rw [sizeLine_eq] at z; omega) ?_
  rw [← hl]
  exact ⟨.int _, H, I.tok _, ⟨_, rfl⟩, q⟩
theorem calld_lenDt {K : PySem.W.Frag} : CallD K (fun xs H Q => ∃ (p : Addr) (es : List (List Key × V)), xs = [.ref p] ∧ L2.Rd H p (.dT es) ∧ Q (.int ((es.length : Nat) : Int)) H) lenDt := by
  intro M mu H S xs vs P Q ok r h n
  unfold lenDt at h
  split at h
  · rename_i x
    obtain ⟨v, rfl, rv⟩ := r.one
    cases e : val S x with
    | dt es =>
      simp only [e] at h
      obtain ⟨a, es', rfl, hd, hk, _⟩ := dt_at ok rv e
      exact ⟨a, es', rfl, hd, by rw [rt_len hk]; exact n _ H (.int _) S (.refl _ _) ok rfl h⟩
    | _ => simp only [e] at h
  · exact h.elim
def listDt : DFn := fun xs S P => match xs with
  | [x] => (match val S x with
    | .dt es => P (.lst (keysT es)) S
    | _ => False)
  | _ => False
theorem rs_isKeys {K : PySem.W.Frag} {M : Addr → Prop} {mu : List Addr} {H : Hp} : ∀ {kvs : TD} {es : List (List Key × V)} {bs : List Addr}, es.map (·.1) = kvs.map (·.1) → IsKeys H es bs → Rs K M mu H (keysT kvs) (bs.map V.ref)
  | [], [], bs, _, h => by
    cases h
    rfl
  | [], _ :: _, _, h, _ => by cases h
  | _ :: _, [], _, h, _ => by cases h
  | (k1, d1) :: kvs, (k2, v2) :: es, bs, h, hk => by
    injection h with e3 e4
    obtain rfl : k2 = k1 := e3
    cases hk with
    | cons q t => exact ⟨_, _, rfl, ⟨_, _, rfl, q, rs_keys _⟩, rs_isKeys e4 t⟩
theorem calld_listDt {K : PySem.W.Frag} : CallD K (fun xs H Q => ∃ d kvs, xs = [V.ref d] ∧ L2.Rd H d (.dT kvs) ∧ ∀ p bs, H p = none → IsKeys H kvs bs → Q (.ref p) (upd H p (.lst (bs.map V.ref)))) listDt := by
  intro M mu H S xs vs P Q ok r h n
  unfold listDt at h
  split at h
  · rename_i x
    obtain ⟨v, rfl, rv⟩ := r.one
    cases e : val S x with
    | dt es =>
      simp only [e] at h
      obtain ⟨a, es', rfl, hd, hk, _⟩ := dt_at ok rv e
      refine ⟨a, es', rfl, hd, fun p bs hp hb => ?_⟩
      obtain ⟨ok2, k2, _⟩ := ok.alloc hp (.lst (bs.map V.ref))
      exact n _ _ _ S k2 ok2 (newL ok hp (rs_isKeys hk hb)) h
    | _ => simp only [e] at h
  · exact h.elim
end DL
set_option maxRecDepth 100000
namespace DL
open PySem PySem.Spec PyProof.Rows L2
/-! ### instances: fields -/
abbrev FD := List (Str × D)
def putFD (f : Str) (d : D) : FD → FD
  | [] => [(f, d)]
  | (g, x) :: r => if g = f then (g, d) :: r else (g, x) :: putFD f d r
section
variable {K : PySem.W.Frag} {M : Addr → Prop} {mu : List Addr} {H : Hp} {S : Sto}
theorem rfs_look : ∀ {fs : FD} {gs : List (Str × V)} (f : Str) {d : D}, gs.map (·.1) = fs.map (·.1) → Rfs K M mu H fs (gs.map (·.2)) → fs.lookup f = some d → ∃ v, gs.lookup f = some v ∧ R K M mu H d v
  | [], _, f, d, _, _, h => by cases h
  | _ :: _, [], f, d, h, _, _ => by cases h
  | (g1, d1) :: fs, (g2, v2) :: gs, f, d, h, r, l => by
    obtain ⟨v, rr, e, h1, h2⟩ := r
    injection e with e1 e2
    injection h with e3 e4
    obtain rfl : v2 = v := e1
    obtain rfl : g2 = g1 := e3
    rw [List.lookup_cons] at l ⊢
    cases q : f == g2 with
    | true =>
      rw [q] at l
      obtain rfl : d1 = d := Option.some.inj l
      exact ⟨v2, rfl, h1⟩
    | false =>
      rw [q] at l
      exact rfs_look f e4 (by rw [e2]; exact h2) l
theorem rfs_put {d : D} {v : V} (hr : R K M mu H d v) (f : Str) : ∀ {fs : FD} {gs : List (Str × V)}, gs.map (·.1) = fs.map (·.1) → Rfs K M mu H fs (gs.map (·.2)) →
    (putF f v gs).map (·.1) = (putFD f d fs).map (·.1) ∧ Rfs K M mu H (putFD f d fs) ((putF f v gs).map (·.2))
  | [], [], _, _ => ⟨rfl, v, [], rfl, hr, rfl⟩
  | [], _ :: _, h, _ => by cases h
  | _ :: _, [], h, _ => by cases h
  | (g1, d1) :: fs, (g2, v2) :: gs, h, r => by
    obtain ⟨v0, rr, e, h1, h2⟩ := r
    injection e with e1 e2
    injection h with e3 e4
    obtain rfl : v2 = v0 := e1
    obtain rfl : g2 = g1 := e3
    unfold putF putFD
    by_cases q : g2 = f
    · rw [if_pos q, if_pos q]
      refine ⟨by rw [List.map_cons, List.map_cons, e4], v, _, rfl, hr, ?_⟩
      rw [e2]
      exact h2
    · rw [if_neg q, if_neg q]
      obtain ⟨i1, i2⟩ := rfs_put hr f e4 (by rw [e2]; exact h2)
      exact ⟨by rw [List.map_cons, List.map_cons, i1], v2, _, rfl, h1, i2⟩
theorem rfs_len {fs : FD} {gs : List (Str × V)} (h : gs.map (·.1) = fs.map (·.1)) : gs.length = fs.length := by
  have := congrArg List.length h
  simpa using this
theorem obj_at (ok : Wok K M mu H S) {x : D} {v : V} {C : Addr} {fs : FD} (r : R K M mu H x v) (e : val S x = .obj C fs) : ∃ a dx gs, v = .ref a ∧ H a = some (.ins C dx gs) ∧ gs.map (·.1) = fs.map (·.1) ∧ Rfs K M mu H fs (gs.map (·.2)) := by
  cases x with
  | loc i =>
    obtain ⟨a, rfl, h2⟩ := r
    obtain ⟨dx, gs, q, h3, h4⟩ := (show Cl K M mu H (.obj C fs) a from ok.at_ i a _ h2 (val_loc e (by simp)))
    exact ⟨a, dx, gs, rfl, q, h3, h4⟩
  | obj C' l =>
    have e' : C' = C ∧ l = fs := by simpa [val] using e
    obtain ⟨rfl, rfl⟩ := e'
    obtain ⟨a, dx, gs, rfl, _, q, h3, h4⟩ := r
    exact ⟨a, dx, gs, rfl, q, h3, h4⟩
  | _ => simp [val] at e
theorem cell_obj (ok : Wok K M mu H S) {i : Nat} {a C dx : Addr} (ha : mu[i]? = some a) {gs us : List (Str × V)} {fs : FD} (hv : H a = some (.ins C dx gs)) (hk : us.map (·.1) = fs.map (·.1)) (r : Rfs K M mu H fs (us.map (·.2))) :
    Wok K M mu (upd H a (.ins C dx us)) (S.set i (.obj C fs)) ∧ Keep mu H (upd H a (.ins C dx us)) := by
  have ex : Ext0 M mu H M mu (upd H a (.ins C dx us)) := ⟨fun b q h nb => by rw [upd_ne fun e => nb.elim (fun nb => nb (by rw [e]; exact ok.sub a (List.mem_of_getElem? ha))) (notF_ins hv q (by rw [← e]; exact h))]; exact h, ⟨[], by simp⟩, fun a h => .inl h⟩
  exact ok.cell (o := .ins C dx us) (c := .obj C fs) ha (notF_ins hv) ⟨dx, us, upd_same, hk, Rfs.mono ex _ _ r⟩
end
/-- e.f, e an instance of the class at C -/
def fldD (C : Addr) (f : Str) (x : D) (S : Sto) (P : DK) : Prop := match val S x with
  | .obj C' fs => C' = C ∧ (match fs.lookup f with
    | some d => P d S
    | none => False)
  | _ => False
def wFld (C : Addr) (f : Str) (wo : DW) : DW := fun ρ S P E => wo ρ S (fun x S1 => fldD C f x S1 P) E
def wsFld (C : Addr) (f : Str) (wo we : DW) : DWS := fun Y ρ S => we ρ S (fun d S1 => wo ρ S1 (fun x S2 => match x with
  | .loc i => (match val S2 (.loc i) with
    | .obj C' fs => C' = C ∧ fs.length < 900 ∧ Y.nx ρ (S2.set i (.obj C (putFD f d fs)))
    | _ => False)
  | _ => False) Y.ex) Y.ex
section
variable {X : Cx} {W : WX} {C : Addr} {f : Str} {o e : Expr} {wo we : DW} {pos pos' : Pos}
theorem de_fld (c : Cls X.K C) (hn : NoAttr X.K C f) (ho : DE X W o wo) (hb : attributeBase o f X.env (eval o X.env) = eval o X.env := by rfl) : DE X W (.Attribute o f pos) (wFld C f wo) := by
  obtain ⟨_, po, ro⟩ := ho.ex
  refine ⟨_, pe_fld po hb, ⟨fun M mu σ ρ S H P E Q ok en hw n x => ?_⟩⟩
  refine ro.run M mu σ ρ S H _ E _ ok en hw (fun v H1 d S1 k1 ok1 r1 h1 => ?_) x
  unfold fldD at h1
  cases e1 : val S1 d with
  | obj C' fs =>
    simp only [e1] at h1
    obtain ⟨rfl, h1⟩ := h1
    cases e2 : fs.lookup f with
    | none => simp only [e2] at h1
    | some z =>
      simp only [e2] at h1
      obtain ⟨a, dx, gs, rfl, ha, hk, rv⟩ := obj_at ok1 r1 e1
      obtain ⟨u, hu, ru⟩ := rfs_look f hk rv e2
      exact ⟨a, C', dx, gs, u, rfl, ha, c, hn, hu, n u H1 z S1 k1 ok1 ru h1⟩
  | _ => simp only [e1] at h1
theorem ds_fld (c : Cls X.K C) (hn : NoAttr X.K C f) (ho : DE X W o wo) (he : DE X W e we) (hs : swapsWith e (some (.Attribute o f pos')) pos.line X.env = pure false := by rfl) : DS X W (.Assign [.Attribute o f pos'] e pos) (wsFld C f wo we) := by
  obtain ⟨_, po, ro⟩ := ho.ex
  obtain ⟨_, pe, re⟩ := he.ex
  refine ⟨_, ps_fld po pe hs, ⟨fun M mu σ ρ S H Y Y' ok en hw n => ?_⟩⟩
  refine re.run M mu σ ρ S H _ _ _ ok en hw (fun v H1 d S1 k1 ok1 r1 h1 => ?_) (n.exc ok.sub σ)
  have n1 := n.mono (.of ok.sub k1)
  refine ro.run M mu σ ρ S1 H1 _ _ _ ok1 (en.keep ok k1) h1 (fun u H2 x S2 k2 ok2 r2 h2 => ?_) (n1.exc ok1.sub σ)
  have n2 := n1.mono (.of ok1.sub k2)
  cases x with
  | loc i =>
    simp only at h2
    cases e1 : val S2 (.loc i) with
    | obj C' fs =>
      simp only [e1] at h2
      obtain ⟨rfl, hl, h2⟩ := h2
      obtain ⟨a, rfl, ha⟩ := r2
      obtain ⟨dx, gs, hv, hk, rv⟩ := (show Cl X.K M mu H2 (.obj C' fs) a from ok2.at_ i a _ ha (val_loc e1 (by simp)))
      obtain ⟨q1, q2⟩ := rfs_put (r1.keep ok1 k2) f hk rv
      obtain ⟨ok3, k3⟩ := cell_obj ok2 ha hv q1 q2
      have hlen : gs.length < 1000 := by rw [rfs_len hk]; omega
      exact ⟨a, C', dx, gs, rfl, hv, c, hn, hlen, n2.nx M mu σ ρ _ _ (.of ok2.sub k3) ok3 (((en.keep ok k1).keep ok1 k2).keep ok2 k3) h2⟩
    | _ => simp only [e1] at h2
  | _ => exact h2.elim
end
/-! ### a new instance: __init__ has it as a cell, behind it it is a tree -/
def makeD (C : Addr) (sp : DSp) (args : List D → List D) (S : Sto) (P : DK) : Prop := sp (args [.loc S.length]) (S ++ [.obj C []]) (fun d S' => d = .non ∧ (match S'[S.length]? with
  | some (.obj C' fs) => C' = C ∧ S'.length = S.length + 1 ∧ lofs S.length fs = true ∧ (S'.take S.length).all (lo S.length) = true ∧ P (.obj C fs) (S'.take S.length)
  | _ => False)) EF
theorem make_run {K : PySem.W.Frag} {M : Addr → Prop} {mu : List Addr} {H : Hp} {S : Sto} {C : Addr} {sp : DSp} {P : DK} {Q : VK} {E : XK} (ok : Wok K M mu H S) {args : List D → List D} {vargs : List V → List V}
    (ha : ∀ M' mu' H' ds vs, Ext0 M mu H M' mu' H' → Rs K M' mu' H' ds vs → Rs K M' mu' H' (args ds) (vargs vs)) (h : makeD C sp args S P) (n : Nrm K M mu H P Q) :
    ∀ x dx, H x = none → H dx = none → dx ≠ x → toSp K sp (vargs [.ref x]) (upd (upd H dx (.own x)) x (.ins C dx [])) (fun v H3 => v = .non ∧ Q (.ref x) H3) E := by
  intro x dx hx hdx hne
  obtain ⟨ok1, k1, _⟩ := ok.alloc hdx (.own x)
  have hx1 : (upd H dx (.own x)) x = none := by rw [upd_ne (Ne.symm hne)]; exact hx
  obtain ⟨ex2, oka⟩ := ok1.aside hx1 (.ins C dx [])
  have np : x ∉ mu := fun m => ok.tr x (ok.sub x m) hx
  have nM : ¬ M x := fun m => ok.tr x m hx
  obtain ⟨ok3, ex3⟩ := oka.pushC (c := .obj C []) np ⟨dx, [], upd_same, rfl, rfl⟩
  have e03 : Ext0 M mu H (fun a => M a ∨ a = x) (mu ++ [x]) (upd (upd H dx (.own x)) x (.ins C dx [])) := ⟨fun b q hb nb => ex2.keepM b q (k1 b q hb (nb.imp (fun nb m => nb (ok.sub b m)) id)) nb, ⟨[x], rfl⟩, fun a h => h.imp id fun e => by rw [e]; exact hx⟩
  refine ⟨_, mu ++ [x], _, args [.loc S.length], _, EF, ok3, ha _ _ _ _ _ e03 ⟨.ref x, [], rfl, ⟨x, rfl, by rw [ok.len]; simp⟩, rfl⟩, h, fun v H3 d S3 k3 ok4 r4 h4 => ?_, fun _ _ _ _ _ _ _ _ _ h => h.elim⟩
  obtain ⟨rfl, h4⟩ := h4
  refine ⟨r4, ?_⟩
  split at h4
  · rename_i C' fs e1
    obtain ⟨rfl, hl, h5, h6, h7⟩ := h4
    have hx3 : (mu ++ [x])[S.length]? = some x := by rw [ok.len]; simp
    obtain ⟨dx', gs, hv, hk, rv⟩ : Cl K (fun a => M a ∨ a = x) (mu ++ [x]) H3 (.obj C' fs) x := ok4.at_ S.length x _ hx3 e1
    rw [ok.len] at h5 h6 h7
    refine n (.ref x) H3 (.obj C' fs) _ (fun b q hb nb => ?_) (ok4.low (fun a h => .inl h) ok.sub h6) ⟨x, dx', gs, rfl, nM, hv, hk, Rfs.low (fun a h => .inl h) _ _ h5 rv⟩ h7
    have nbx : b ≠ x := ne_of_none hb hx
    refine k3 b q ?_ (nb.imp (fun nb m => (List.mem_append.mp m).elim nb fun z => nbx (List.mem_singleton.mp z)) id)
    rw [upd_ne nbx]
    exact k1 b q hb nb
  · exact h4.elim
def wMake (C : Addr) (sp : DSp) (n m : Nat) (g : List D → List D → List D → List D) (w wk : DWA) : DW := fun ρ S P E => w ρ S (fun ds S1 => wk ρ S1 (fun es S2 => ds.length = n ∧ es.length = m ∧ makeD C sp (fun self => g self ds es) S2 P) E) E
section
variable {X : Cx} {W : WX} {CX : CXT} {k n : Nat} {f C : Addr} {fd : FuncData} {ps ks : List Str} {sp : DSp} {x : Str} {p pos : Pos} {e : Expr} {es : List Expr} {kws : List Keyword} {w wk : DWA} {g : List Value → List Value → List Value} {gV : List V → List V → List V} {gD : List D → List D → List D → List D}
/-- the parameters' order, told of trees -/
def GRel (K : PySem.W.Frag) (gD : List D → List D → List D → List D) (gV : List V → List V → List V) : Prop := ∀ (M : Addr → Prop) (mu : List Addr) (H : Hp) (s : List D) (ds es : List D) (u us ws : List V), Rs K M mu H s u → Rs K M mu H ds us → Rs K M mu H es ws → Rs K M mu H (gD s ds es) (gV (u ++ us) ws)
theorem rd_make {K : PySem.W.Frag} {t tk : TA} {m : Nat} {E0 : XK} (hg : GRel K gD gV) (ra : RdA K W t w) (rk : RdA K W tk wk) : Rd K W (tMakeK C n m (toSp K sp) gV E0 t tk) (wMake C sp n m gD w wk) := by
  refine ⟨fun M mu σ ρ S H P E Q ok en hw nn x => ?_⟩
  refine ra.run M mu σ ρ S H _ E _ ok en hw (fun us H1 ds S1 k1 ok1 r1 h1 => ?_) x
  refine rk.run M mu σ ρ S1 H1 _ E _ ok1 (en.keep ok k1) h1 (fun ws H2 es S2 k2 ok2 r2 h2 => ?_) (x.mono k1)
  obtain ⟨l1, l2, h2⟩ := h2
  have r1' := r1.keep ok1 k2
  refine ⟨by rw [← r1.len]; exact l1, by rw [← r2.len]; exact l2, ?_⟩
  exact make_run ok2 (vargs := fun u => gV (u ++ us) ws) (fun M' mu' H' s u e0 r => hg M' mu' H' s ds es u us ws r (Rs.mono e0 _ _ r1') (Rs.mono e0 _ _ r2)) h2 (nn.mono (k1.trans k2))
/-- C(.., k = v, ..) -/
theorem de_makeK (M : Mk X.K C f) (F : FnOk X.prog X.w X.K X.mg X.base CX0 k f fd ps (toSp X.K sp)) (hr : Room (k + 1) X.A) (hm : X.mg x = some (.ref C)) (hb : KBn X.K fd ps (n + 1) ks g gV) (hgr : GRel X.K gD gV) (ha : DA X W (e :: es) w) (hk : DKw X W kws wk) (hg : Gl X x := by rfl)
    (hall : (backToKw pos (keywordEach kws X.env)).all (·.1.isSome) = true := by rfl) (hks : (backToKw pos (keywordEach kws X.env)).filterMap (·.1) = ks := by rfl) (hdb : (x == ("__debug__" : Str)) = false := by decide)
    (he : starEach (e :: es) X.env = (false, eval e X.env) :: starEach es X.env := by rfl) (hpl : ((backTo pos (starEach (e :: es) X.env)).any (·.1) || (backToKw pos (keywordEach kws X.env)).any (·.1.isNone)) = false := by rfl) :
    DE X W (.Call (.Name x p) (e :: es) kws pos) (wMake C sp n ks.length gD w wk) := by
  obtain ⟨_, pa, ra⟩ := ha.ex
  obtain ⟨_, pk, rk⟩ := hk.ex
  exact ⟨_, pe_makeK (E := fun _ _ _ => False) M F hr hg hm hb pass0 pa pk hall hks hdb he hpl, rd_make hgr ra rk⟩
theorem de_makeK0 (M : Mk X.K C f) (F : FnOk X.prog X.w X.K X.mg X.base CX0 k f fd ps (toSp X.K sp)) (hr : Room (k + 1) X.A) (hm : X.mg x = some (.ref C)) (hb : KBn X.K fd ps 1 ks g gV) (hgr : GRel X.K gD gV) (hk : DKw X W kws wk) (hg : Gl X x := by rfl)
    (hall : (backToKw pos (keywordEach kws X.env)).all (·.1.isSome) = true := by rfl) (hks : (backToKw pos (keywordEach kws X.env)).filterMap (·.1) = ks := by rfl) (hdb : (x == ("__debug__" : Str)) = false := by decide)
    (hpl : ((backTo pos (starEach [] X.env)).any (·.1) || (backToKw pos (keywordEach kws X.env)).any (·.1.isNone)) = false := by rfl) : DE X W (.Call (.Name x p) [] kws pos) (wMake C sp 0 ks.length gD wNil wk) := by
  obtain ⟨_, pk, rk⟩ := hk.ex
  exact ⟨_, pe_makeK0 (E := fun _ _ _ => False) M F hr hg hm hb pass0 pk hall hks hdb hpl, rd_make hgr ⟨fun M mu σ ρ S H P E Q ok en hw n x => n [] H [] S (.refl _ _) ok rfl hw⟩ rk⟩
end
end DL
set_option maxRecDepth 100000
namespace DL
open PySem PySem.Spec PyProof.Rows L2
/-! ### methods -/
/-- a method as it stands in its class: C the class, m its name, f the function -/
def MIn (K : PySem.W.Frag) (C : Addr) (m nm qual : Str) (st : Stmt) (dvs : List V) (kws : List (Str × V)) : Prop := ∃ (f : Addr) (fd : FuncData), FunD K nm qual (defArgs st) (defBody st) (defScope st) dvs kws f fd ∧ Cls K C ∧ Meth K C m f
/-- what a caller knows of a method -/
structure MtF (P : Program) (w : World) (K : PySem.W.Frag) (mg : Str → Option Value) (base : Heap) (k : Nat) (C : Addr) (m : Str) (ps : List Str) (sp : DSp) (f : Addr) (fd : FuncData) : Prop where
  ok : FnOk P w K mg base CX0 k f fd ps (toSp K sp)
  c : Cls K C
  m : Meth K C m f
  lk : ∃ (oc : Value) (od : Option Addr) (osl : Array (Option Value)), K.lookup f = some ⟨oc, od, .func fd, osl⟩
/-- .. called with all its parameters by position (self ahead) -/
def Mt (P : Program) (w : World) (K : PySem.W.Frag) (mg : Str → Option Value) (base : Heap) (k : Nat) (C : Addr) (m : Str) (ps : List Str) (sp : DSp) : Prop := ∃ f fd, MtF P w K mg base k C m ps sp f fd ∧ Binds K fd ps []
theorem hideM {P : Program} {w : World} {K : PySem.W.Frag} {mg : Str → Option Value} {base : Heap} {k : Nat} {C : Addr} {m : Str} {ps : List Str} {sp : DSp} (c : Mt P w K mg base k C m ps sp) : ∃ sp' : DSp, Mt P w K mg base k C m ps sp' ∧ ∀ ds S P E, sp ds S P E → sp' ds S P E := ⟨sp, c, fun _ _ _ _ h => h⟩
def recvD (C : Addr) (m : Str) (x : D) (S : Sto) : Prop := match val S x with
  | .obj C' fs => C' = C ∧ fs.lookup m = none
  | _ => False
def wMeth (C : Addr) (m : Str) (sp : DSp) (wo : DW) (w : DWA) : DW := fun ρ S P E => wo ρ S (fun x S1 => recvD C m x S1 ∧ w ρ S1 (fun ds S2 => sp (x :: ds) S2 P EF) E) E
theorem rfs_no {K : PySem.W.Frag} {M : Addr → Prop} {mu : List Addr} {H : Hp} : ∀ {fs : FD} {gs : List (Str × V)} (f : Str), gs.map (·.1) = fs.map (·.1) → fs.lookup f = none → gs.lookup f = none
  | [], [], _, _, _ => rfl
  | [], _ :: _, _, h, _ => by cases h
  | _ :: _, [], _, h, _ => by cases h
  | (g1, d1) :: fs, (g2, v2) :: gs, f, h, l => by
    injection h with e3 e4
    obtain rfl : g2 = g1 := e3
    rw [List.lookup_cons] at l ⊢
    cases q : f == g2 with
    | true => rw [q] at l; cases l
    | false => rw [q] at l; exact rfs_no (K := K) (M := M) (mu := mu) (H := H) f e4 l
section
variable {X : Cx} {W : WX} {C : Addr} {k j : Nat} {m : Str} {ps : List Str} {sp : DSp} {o e : Expr} {es : List Expr} {wo : DW} {w : DWA} {apos pos : Pos}
theorem rd_meth {K : PySem.W.Frag} {to : TE} {t : TA} (ro : Rd K W to wo) (ra : RdA K W t w) : Rd K W (tMeth C m (toSp K sp) [] (fun _ _ _ => False) to t) (wMeth C m sp wo w) := by
  refine ⟨fun M mu σ ρ S H P E Q ok en hw n x => ?_⟩
  refine ro.run M mu σ ρ S H _ E _ ok en hw (fun v H1 d S1 k1 ok1 r1 h1 => ?_) x
  obtain ⟨hr, h1⟩ := h1
  unfold recvD at hr
  cases e1 : val S1 d with
  | obj C' fs =>
    simp only [e1] at hr
    obtain ⟨rfl, hn⟩ := hr
    obtain ⟨a, dx, gs, rfl, ha, hk, rv⟩ := obj_at ok1 r1 e1
    refine ⟨a, dx, gs, rfl, ha, rfs_no (K := K) (M := M) (mu := mu) (H := H1) m hk hn, ?_⟩
    refine ra.run M mu σ ρ S1 H1 _ E _ ok1 (en.keep ok k1) h1 (fun vs H2 ds S2 k2 ok2 r2 h2 => ?_) (x.mono k1)
    exact ⟨M, mu, S2, d :: ds, P, EF, ok2, ⟨.ref a, vs ++ [], rfl, r1.keep ok1 k2, by rw [List.append_nil]; exact r2⟩, h2, n.mono (k1.trans k2), fun _ _ _ _ _ _ _ _ _ h => h.elim⟩
  | _ => simp only [e1] at hr
/-- o.m(e, ..) -/
theorem de_meth {pl : Sem Bool} (c : Mt X.prog X.w X.K X.mg X.base j C m ps sp) (hr : Room k X.A) (ho : DE X W o wo) (ha : DA X W (e :: es) w) (hjk : j ≤ k := by first | decide | exact Nat.le_refl _ | omega)
    (hst : starEach (e :: es) X.env = (false, eval e X.env) :: starEach es X.env := by rfl) (hpl : (backTo pos (starEach es X.env)).any (·.1) = false := by rfl)
    (ht : eval (.Call (.Attribute o m apos) (e :: es) [] pos) X.env = (do
      let ov ← eval o X.env
      standAt apos.atName
      let (f, first) ← holding [ov] (getMethod ov m pl)
      callWith pos f first (backTo pos (starEach (e :: es) X.env)) (backToKw pos (keywordEach [] X.env))) := by rfl) : DE X W (.Call (.Attribute o m apos) (e :: es) [] pos) (wMeth C m sp wo w) := by
  obtain ⟨f, fd, c, hb⟩ := c
  obtain ⟨_, po, ro⟩ := ho.ex
  obtain ⟨_, pa, ra⟩ := ha.ex
  exact ⟨_, pe_meth (pl := pl) (E := fun _ _ _ => False) po c.c c.m c.ok (hr.mono hjk) hb .nil pass0 pa hst hpl ht, rd_meth ro ra⟩
theorem de_meth0 {pl : Sem Bool} (c : Mt X.prog X.w X.K X.mg X.base j C m ps sp) (hr : Room k X.A) (ho : DE X W o wo) (hjk : j ≤ k := by first | decide | exact Nat.le_refl _ | omega)
    (ht : eval (.Call (.Attribute o m apos) [] [] pos) X.env = (do
      let ov ← eval o X.env
      standAt apos.atName
      let (f, first) ← holding [ov] (getMethod ov m pl)
      callWith pos f first (backTo pos (starEach [] X.env)) (backToKw pos (keywordEach [] X.env))) := by rfl) : DE X W (.Call (.Attribute o m apos) [] [] pos) (wMeth C m sp wo wNil) := by
  obtain ⟨f, fd, c, hb⟩ := c
  obtain ⟨_, po, ro⟩ := ho.ex
  exact ⟨_, pe_meth0 (pl := pl) (E := fun _ _ _ => False) po c.c c.m c.ok (hr.mono hjk) hb .nil pass0 ht, rd_meth ro ⟨fun M mu σ ρ S H P E Q ok en hw n x => n [] H [] S (.refl _ _) ok rfl hw⟩⟩
end
section
variable {P : Program} {w : World} {K : PySem.W.Frag} {mg : Str → Option Value} {base : Heap} {C : Addr} {m nm qual : Str} {st : Stmt} {dvs : List V} {kws : List (Str × V)}
/-- THE RULE for a method -/
theorem mtF_def {N ps : List Str} {k : Nat} {sp : DSp} {wb : DWS} (I : MIn K C m nm qual st dvs kws) (sc : FnScope N ps (defScope st)) (len : ∀ ds S P E, sp ds S P E → ds.length = ps.length)
    (hb : ∀ (f : Addr) (cdv : Value) (A : Around) (outer : List PySem.Env) (s : Shared) (H : Hp) (E : XK), Room k (A.deeper (envOfC qual (defScope st) s.heap.objs.size f cdv)) → DSs (cxOf CX0 P w K mg base N qual (defScope st) f cdv A outer s H E) (fun C d _ H' => E C d H') (defBody st) wb)
    (hw : ∀ ds S P E, S.all (lo S.length) = true → sp ds S P E → wb (endsOf S.length P E) (startD N.length ds) S) : ∃ f fd, MtF P w K mg base (k + 1) C m ps sp f fd ∧ FunD K nm qual (defArgs st) (defBody st) (defScope st) dvs kws f fd := by
  obtain ⟨f, fd, F, c, hm⟩ := I
  exact ⟨f, fd, ⟨ok_def F sc len (fun cdv A outer s H E hr => hb f cdv A outer s H E hr) hw, c, hm, let ⟨oc, od, _, _, _, _, _, _, _, osl, _, lk, _⟩ := F.ex; ⟨oc, od, osl, lk⟩⟩, F⟩
theorem mt_of {ps : List Str} {k : Nat} {sp : DSp} (h : ∃ f fd, MtF P w K mg base k C m ps sp f fd ∧ FunD K nm qual (defArgs st) (defBody st) (defScope st) [] [] f fd)
    (hbd : ∀ (kV doc pm : Value) (an : Option Addr) (cdv ct : Value) (us : List Value), us.length = ps.length → bindArgs (PySem.W.fnOf nm qual (defArgs st) (defBody st) (defScope st) .none kV doc pm an cdv ct) ⟨us, []⟩ = pure (ps.zip us)) : Mt P w K mg base k C m ps sp := by
  obtain ⟨f, fd, h, F⟩ := h
  exact ⟨f, fd, h, F.bindsN hbd⟩
end
end DL
set_option maxRecDepth 100000
namespace DL
open PySem PySem.Spec PyProof.Rows L2
/-! ### dict(list of pairs), the keys tuples -/
abbrev TP := List Key × Addr × V
abbrev TPU := List Key × Addr × Value
def putAll (ps : List TP) (acc : List (List Key × V)) : List (List Key × V) := ps.foldl (fun a p => putK a p.1 p.2.2) acc
theorem putAll_len : ∀ (ps : List TP) (acc : List (List Key × V)), (putAll ps acc).length ≤ acc.length + ps.length
  | [], acc => Nat.le_refl _
  | p :: ps, acc => by
    have h1 := putAll_len ps (putK acc p.1 p.2.2)
    have h2 := length_putK acc p.1 p.2.2
    show (putAll ps (putK acc p.1 p.2.2)).length ≤ _
    rw [List.length_cons]
    omega
def Tri (p : TP) (q : TPU) : Prop := p.1 = q.1 ∧ p.2.1 = q.2.1 ∧ RelV p.2.2 q.2.2
theorem kt_all {H : Hp} : ∀ {ps : List TP} {us : List TPU} {acc : List (List Key × V)} {xs : List TPU}, Paired Tri ps us → (∀ p ∈ ps, H p.2.1 = some (.tup (p.1.map kV))) → KT H acc xs → KT H (putAll ps acc) (storedAllH xs us)
  | [], _, acc, xs, .nil, _, k => k
  | p :: ps, q :: us, acc, xs, .cons h t, hk, k => by
    obtain ⟨h1, h2, h3⟩ := h
    have k2 := k.put p.1 (hk p (List.mem_cons_self ..)) h3
    have r := kt_all t (fun p hp => hk p (List.mem_cons_of_mem _ hp)) k2
    have e : storedH xs p.1 p.2.1 q.2.2 = storedH xs q.1 q.2.1 q.2.2 := by rw [h1, h2]
    rw [e] at r
    exact r
def rDictPT (K : PySem.W.Frag) : List V → Hp → VK → Prop := fun xs H Q => ∃ (a : Addr) (Ts : List Addr) (ps : List TP), xs = [.ref a] ∧ SqL K H a (Ts.map V.ref) ∧ Paired (fun T (p : TP) => SqT K H T [.ref p.2.1, p.2.2] ∧ H p.2.1 = some (.tup (p.1.map kV))) Ts ps ∧
  ∀ l, H l = none → Q (.ref l) (upd H l (.dT (putAll ps [])))
section
variable {X : Cx}
theorem vals_pairs {pins : List (Addr × Obj)} {σ : L2.St} {H : Hp} {s : Shared} (I : Inv X pins σ H s) : ∀ {Ts : List Addr} {ps : List TP}, Paired (fun T (p : TP) => SqT X.K H T [.ref p.2.1, p.2.2] ∧ H p.2.1 = some (.tup (p.1.map kV))) Ts ps →
    ∃ us : List TPU, Paired Tri ps us ∧ us.length = Ts.length ∧ (∀ (j : Nat) (q : TPU), us[j]? = some q → ∃ T, Ts[j]? = some T ∧ s.heap.IsTuple T #[.ref q.2.1, q.2.2]) ∧ (∀ q ∈ us, H q.2.1 = some (.tup (q.1.map kV))) ∧ ∀ p ∈ ps, H p.2.1 = some (.tup (p.1.map kV))
  | [], _, .nil => ⟨[], .nil, rfl, fun _ _ h => by simp at h, fun _ h => (nomatch h), fun _ h => (nomatch h)⟩
  | T :: Ts, p :: ps, .cons ⟨h, hk⟩ t => by
    obtain ⟨us, r1, r2, r3, r4, r5⟩ := vals_pairs I t
    obtain ⟨its, rv, pt, _⟩ := I.tuple h
    cases rv with
    | cons ra rb =>
      cases ra
      cases rb with
      | cons rc rd =>
        rename_i u _
        cases rd
        refine ⟨(p.1, p.2.1, u) :: us, .cons ⟨rfl, rfl, rc⟩ r1, by rw [List.length_cons, List.length_cons, r2], fun j q hj => ?_, fun q hq => ?_, fun q hq => ?_⟩
        · cases j with
          | zero =>
            obtain rfl : (p.1, p.2.1, u) = q := by simpa using hj
            exact ⟨T, rfl, pt⟩
          | succ j => exact r3 j q (by simpa using hj)
        · rcases List.mem_cons.mp hq with e | e
          · rw [e]; exact hk
          · exact r4 q e
        · rcases List.mem_cons.mp hq with e | e
          · rw [e]; exact hk
          · exact r5 q e
theorem call_dictPT (hu : X.A.units + 64 < cLine) (hcalm : X.calm = true) : CallR X (.type "dict") (rDictPT X.K) := by
  intro pins s σ H xs us Q I r q
  obtain ⟨a, Ts, ps, rfl, hq, hp, q⟩ := q
  obtain ⟨u, rfl, rx⟩ := r.one
  cases rx
  obtain ⟨its, rv, pl, hz⟩ := I.list hq
  obtain rfl := refs_at rv
  rw [List.length_map] at hz
  obtain ⟨prs, rel, hl, hpr, hku, hkp⟩ := vals_pairs I hp
  obtain ⟨o, n, ho, hc, hd, hdat⟩ := pl
  have hm : (s.heap.objs.size == sysModules) = false := beq_eq_false_iff_ne.mpr (Nat.ne_of_gt I.big)
  have at_ : ∀ (j : Nat) (k v : Value), (prs.map fun (x : TPU) => (Value.ref x.2.1, x.2.2))[j]? = some (k, v) → ∃ y : TPU, prs[j]? = some y ∧ k = .ref y.2.1 ∧ v = y.2.2 := fun j k v hj => by
    rw [List.getElem?_map] at hj
    obtain ⟨y, e1, e2⟩ := Option.map_eq_some_iff.mp hj
    injection e2 with e3 e4
    exact ⟨y, e1, e3.symm, e4.symm⟩
  refine call_dict_pairsH (knd := tupleKind (mixKind X.prog X.w)) (ps := prs) (PairArg.list a (Ts.map Value.ref).toArray (fun j => Ts.getD j 0) (prs.map fun (x : TPU) => (Value.ref x.2.1, x.2.2))) (I.ok.hd hcalm) (show X.A.units + 1 + 1 < cLine by omega)
    ⟨⟨o, n, ho, hc, hd, hdat⟩, by simp [hl], fun j k v hj => ?_⟩ ⟨by simp, fun i k v hi => ?_⟩ (fun h' keep y hy => ?_) (by simp [hl]; omega) fun h' tk hd' k => ?_
  · obtain ⟨y, e1, rfl, rfl⟩ := at_ j k v hj
    obtain ⟨T, hT, ht⟩ := hpr j y e1
    have eT : Ts.getD j 0 = T := by rw [List.getD_eq_getElem?_getD, hT]; rfl
    refine ⟨?_, ?_⟩
    · show (List.map Value.ref Ts).toArray[j]? = some (Value.ref (Ts.getD j 0))
      rw [eT]
      simp [hT]
    · show PairAt s.heap (Ts.getD j 0) _ _
      rw [eT]
      exact .inl ht
  · obtain ⟨y, e1, rfl, rfl⟩ := at_ i k v hi
    exact ⟨y.1, y.2.1, e1, rfl⟩
  · obtain ⟨ob, its', n', h1, h2⟩ := key_of I.hok (hku y hy)
    exact ⟨ob, its', n', keep _ _ (Nat.ne_of_lt (Heap.lt_size h1)) (by simp) h1, h2⟩
  · have hfresh : H s.heap.objs.size = none := I.hok.fresh (Nat.le_refl _)
    have hplen : ps.length = Ts.length := by rw [← hl]; exact Paired.length rel
    have hlen : (putAll ps []).length ≤ sizeLine := by
      have := putAll_len ps []
      rw [List.length_nil] at this
      omega
    obtain ⟨ob, es, ep, hob, c1, c2, c3, _, c4⟩ := hd'
    have kt := (kt_all (acc := []) (xs := []) rel hkp .nil).keeps (H' := upd H s.heap.objs.size (.dT (putAll ps []))) fun c ys ec => by
      rw [upd_ne (ne_of_none ec hfresh)]
      exact ec
    exact ⟨.ref s.heap.objs.size, upd H s.heap.objs.size (.dT (putAll ps [])), I.laid (t' := tk) (fun b o e => k b o (by simp) e) (Nat.le_refl _) (show ObjOk X.prog X.w _ _ _ (.dT (putAll ps [])) from ⟨hlen, hm, _, kt, ob, es, ep, hob, c1, c2, c3, c4⟩), rfl, q _ hfresh⟩
end
/-! told of trees -/
def pairsT : List D → Option TD
  | [] => some []
  | .tup [k, d] :: l => match tkOf k, pairsT l with
    | some q, some r => some ((q, d) :: r)
    | _, _ => none
  | _ :: _ => none
def putAllT (ps : TD) (acc : TD) : TD := ps.foldl (fun a p => putT a p.1 p.2) acc
section
variable {K : PySem.W.Frag} {M : Addr → Prop} {mu : List Addr} {H : Hp} {S : Sto}
theorem pairs_ok : ∀ {l : List D} {vs : List V} {ps : TD}, Rs K M mu H l vs → pairsT l = some ps → ∃ (Ts : List Addr) (qs : List TP), vs = Ts.map V.ref ∧ Paired (fun T (p : TP) => SqT K H T [.ref p.2.1, p.2.2] ∧ H p.2.1 = some (.tup (p.1.map kV))) Ts qs ∧
    Paired (fun (p : List Key × D) (q : TP) => p.1 = q.1 ∧ R K M mu H p.2 q.2.2) ps qs
  | [], vs, ps, r, e => by
    obtain rfl : vs = [] := r
    obtain rfl : ([] : TD) = ps := Option.some.inj e
    exact ⟨[], [], rfl, .nil, .nil⟩
  | x :: l, vs, ps, r, e => by
    unfold pairsT at e
    split at e
    · rename_i e0
      cases e0
    · rename_i k d l' e0
      injection e0 with e1 e2
      subst e1 e2
      split at e
      · rename_i q rr e3 e4
        obtain rfl := Option.some.inj e
        obtain ⟨v, us, rfl, ⟨T, ws, rfl, hT, hw⟩, ht⟩ := r
        obtain ⟨v1, v2, rfl, r1, r2⟩ := hw.two
        obtain ⟨b, rfl, hb⟩ := tk_ok r1 e3
        obtain ⟨Ts, qs, rfl, h1, h2⟩ := pairs_ok ht e4
        exact ⟨T :: Ts, (q, b, v2) :: qs, rfl, .cons ⟨SqT.of hT, hb⟩ h1, .cons ⟨rfl, r2⟩ h2⟩
      · cases e
    · cases e
theorem rt_putAll : ∀ {ps : TD} {qs : List TP} {acc : TD} {es : List (List Key × V)}, Paired (fun (p : List Key × D) (q : TP) => p.1 = q.1 ∧ R K M mu H p.2 q.2.2) ps qs → es.map (·.1) = acc.map (·.1) → Rt K M mu H acc (es.map (·.2)) →
    (putAll qs es).map (·.1) = (putAllT ps acc).map (·.1) ∧ Rt K M mu H (putAllT ps acc) ((putAll qs es).map (·.2))
  | [], _, _, _, .nil, h, r => ⟨h, r⟩
  | p :: ps, q :: qs, acc, es, .cons ⟨e, rq⟩ t, h, r => by
    obtain ⟨h1, h2⟩ := rt_put rq p.1 h r
    rw [e] at h1 h2
    have := rt_putAll (acc := putT acc q.1 p.2) (es := putK es q.1 q.2.2) t h1 h2
    rw [← e] at this
    rw [show putAll (q :: qs) es = putAll qs (putK es p.1 q.2.2) from by rw [e]; rfl]
    exact this
end
def wDictPT (w : DWA) : DW := fun ρ S P E => w ρ S (fun xs S1 => match xs with
  | [x] => (match val S1 x with
    | .lst l => (match pairsT l with
      | some ps => P (.dt (putAllT ps [])) S1
      | none => False)
    | _ => False)
  | _ => False) E
theorem de_dictPT {X : Cx} {W : WX} {e : Expr} {es : List Expr} {w : DWA} {p pos : Pos} (hu : X.A.units + 64 < cLine) (hc : X.calm = true) (hm : X.mg "dict" = none) (ha : DA X W (e :: es) w) (hg : Gl X "dict" := by rfl)
    (he : starEach (e :: es) X.env = (false, eval e X.env) :: starEach es X.env := by rfl) (hpl : (backTo pos (starEach es X.env)).any (·.1) = false := by rfl) : DE X W (.Call (.Name "dict" p) (e :: es) [] pos) (wDictPT w) := by
  obtain ⟨_, pa, ra⟩ := ha.ex
  refine ⟨_, pe_frz (pe_callTy (call_dictPT hu hc) hg hm bt_dict pa (by decide) (by decide) he hpl), ⟨fun M mu σ ρ S H P E Q ok en hw n x => ?_⟩⟩
  refine ra.run M mu σ ρ S H _ E _ ok en hw (fun vs H1 ds S1 k1 ok1 r1 h1 => ?_) x
  match ds, r1, h1 with
  | [d], r1, h1 =>
    obtain ⟨v, rfl, rv⟩ := r1.one
    cases e1 : val S1 d with
    | lst l =>
      simp only [e1] at h1
      cases e2 : pairsT l with
      | none => simp only [e2] at h1
      | some ps =>
        simp only [e2] at h1
        obtain ⟨a, ys, rfl, hq, rq⟩ := seq_lst ok1 rv e1
        obtain ⟨Ts, qs, rfl, g1, g2⟩ := pairs_ok rq e2
        refine ⟨a, Ts, qs, rfl, SqL.of hq, g1, fun q hp => ⟨q, _, rfl, upd_same, True.intro, fun od => ?_⟩⟩
        obtain ⟨ok2, k2, _⟩ := ok1.alloc hp (.frz od (.dT (putAll qs [])))
        have eu : upd (upd H1 q (.dT (putAll qs []))) q (.frz od (.dT (putAll qs []))) = upd H1 q (.frz od (.dT (putAll qs []))) := by
          funext b
          by_cases e : b = q
          · rw [e, upd_same, upd_same]
          · rw [upd_ne e, upd_ne e, upd_ne e]
        rw [eu]
        have e0 := (ok1.ext k2).toExt0
        obtain ⟨h3, h4⟩ := rt_putAll (acc := []) (es := []) g2 rfl rfl
        exact n _ _ (.dt (putAllT ps [])) S1 (k1.trans k2) ok2 ⟨q, od, _, rfl, upd_same, h3, Rt.mono e0 _ _ h4⟩ h1
    | _ => simp only [e1] at h1
end DL
set_option maxRecDepth 100000
namespace DL
open PySem PySem.Spec PyProof.Rows L2
/-! ### own special methods: ==, in, len, truth, repr -/
section
variable {X : Cx} {k : Nat} {C : Addr} {m : Str} {ps : List Str} {sp : DSp} {f : Addr} {fd : FuncData}
/-- the method's code called from the frame A -/
theorem run_fnA {A : Around} {pins : List (Addr × Obj)} {σ : L2.St} {H : Hp} {s : Shared} {Q : VK} {E : XK} {us : List Value} {vs : List V} {sp : Sp} (F : FnOk X.prog X.w X.K X.mg X.base CX0 k f fd ps sp) (hr : Room k A) (e0 : Env0 X.prog X.w X.K X.mg X.base A X.stack s H) (hb : Binds X.K fd ps [])
    (I : Inv X pins σ H s) (r : Vals vs us) (h : sp vs H Q E) {Ef : Value → Shared → Prop} : wpAny (model X.prog X.w) A (call (.ref f) us) (EP X pins σ Q) Ef s := by
  have hl : us.length = ps.length := by rw [← r.length]; exact F.len _ _ _ _ h
  refine wpAny_call (codeAny_mono (F.run A X.stack s H ⟨us, []⟩ (us ++ []) vs Q E hr e0 (hb s us I.kIn (by rw [List.append_nil]; exact hl)) (by rw [List.append_nil]; exact r) h) fun r s' hq => ?_)
  cases r with
  | error e => exact hq.elim
  | ok fl =>
    cases fl with
    | ret u => exact I.after hq
    | next => exact False.elim hq
    | brk => exact False.elim hq
    | cont => exact False.elim hq
/-- the promise, put before a heap -/
abbrev spE (K : PySem.W.Frag) (sp : DSp) : List V → Hp → VK → Prop := fun vs H Q => toSp K sp vs H Q fun _ _ _ => False
theorem insAt {pins : List (Addr × Obj)} {σ : L2.St} {H : Hp} {s : Shared} {a dx : Addr} {fs : List (Str × V)} (I : Inv X pins σ H s) (ha : H a = some (.ins C dx fs)) : ∃ od, PySem.W.InstAt s.heap a (PySem.W.instObj C dx) C (some od) := by
  obtain ⟨mA, O, _⟩ := ins_get I.hok ha
  obtain ⟨od, J, _⟩ := O.look
  exact ⟨od, J⟩
/-- the right operand of an own ==: an instance of C, or a dict -/
inductive EqR (K : PySem.W.Frag) (C : Addr) (H : Hp) : V → Prop where
  | same {b dx : Addr} {fs : List (Str × V)} (e : H b = some (.ins C dx fs)) : EqR K C H (.ref b)
  | dict {b : Addr} {es : List (List Key × V)} (e : L2.Rd H b (.dT es)) (n : PySem.W.notFirst K C (.type "dict") = true) : EqR K C H (.ref b)
def rEqOwn (K : PySem.W.Frag) (C : Addr) (sp : DSp) : R2 := fun x y H Q => ∃ a dx fs, x = .ref a ∧ H a = some (.ins C dx fs) ∧ EqR K C H y ∧ spE K sp [x, y] H Q
theorem op_eqOwn (hr : Room k X.A) (F : FnOk X.prog X.w X.K X.mg X.base CX0 k f fd ps (toSp X.K sp)) (hb : Binds X.K fd ps []) (hm : Meth X.K C "__eq__" f) : OpR X (compareOp .Eq) (rEqOwn X.K C sp) := by
  intro pins s σ H x y v u Q I rx ry h
  obtain ⟨a, dx, fs, rfl, ha, hy, q⟩ := h
  cases (show v = Value.ref a from rx)
  obtain ⟨od, J⟩ := insAt I ha
  obtain ⟨mm, hF⟩ := I.fr
  have back : ∀ {b : Addr}, RelV (.ref b) u → spE X.K sp [.ref a, .ref b] H Q → wpAny (model X.prog X.w) X.A (call (.ref f) [.ref a, u]) (PySem.W.CmpBack (EP X pins σ Q)) X.xe s := fun {b} rb q => by
    refine wpAny_mono (run_fnA (us := [.ref a, u]) (vs := [.ref a, .ref b]) F hr I.env0 hb I (.cons rfl (.cons rb .nil)) q) (fun w s' z => ?_) fun _ _ x => x
    obtain ⟨z', H', I', rz, qz⟩ := z
    exact SlX.cmpback rz ⟨z', H', I', rz, qz⟩
  cases hy with
  | same e =>
    rename_i b dy gs
    obtain ⟨od', J'⟩ := insAt I e
    cases (show u = Value.ref b from ry)
    exact PySem.W.cmp_K (op := .Eq) (tb := .ref C) hr.units0 hF I.ok.mod.kin J J'.type (by unfold PySem.W.notFirst; rw [show (Value.ref C == Value.ref C) = true from beq_self_eq_true _]; rfl) hm.at_ hm.fn (back rfl q)
  | dict e hn =>
    rename_i b es
    cases (show u = Value.ref b from ry)
    obtain ⟨_, _, ys, _, ob, es', ep, hob, hx, _⟩ := dt_rd I.hok e
    have lk : PySem.W.Looks (model X.prog X.w) s.heap (typeOf (.ref b)) (.type "dict") := fun A Q E s' kk q => wpAny_typeOf (show s'.TypeIs (.ref b) "dict" from ⟨ob, kk _ _ hob, hx.1⟩) q
    exact PySem.W.cmp_K (op := .Eq) (tb := .type "dict") hr.units0 hF I.ok.mod.kin J lk hn hm.at_ hm.fn (back rfl q)
/-- y in x -/
def rInOwn (K : PySem.W.Frag) (C : Addr) (sp : DSp) : R2 := fun y x H Q => ∃ a dx fs, x = .ref a ∧ H a = some (.ins C dx fs) ∧ spE K sp [x, y] H fun z H' => ∃ b, z = .bl b ∧ Q (.bl b) H'
theorem op_inOwn (hr : Room k X.A) (F : FnOk X.prog X.w X.K X.mg X.base CX0 k f fd ps (toSp X.K sp)) (hb : Binds X.K fd ps []) (hm : Meth X.K C "__contains__" f) : OpR X (compareOp .In) (rInOwn X.K C sp) := by
  intro pins s σ H y x v u Q I ry rx h
  obtain ⟨a, dx, fs, rfl, ha, q⟩ := h
  cases (show u = Value.ref a from rx)
  obtain ⟨od, J⟩ := insAt I ha
  obtain ⟨mm, hF⟩ := I.fr
  refine PySem.W.in_K hF I.ok.mod.kin J hm.at_ hm.fn (wpAny_mono (run_fnA (us := [.ref a, v]) (vs := [.ref a, y]) F hr I.env0 hb I (.cons rfl (.cons ry .nil)) q) (fun w s' z => ?_) fun _ _ x => x)
  obtain ⟨z', H', I', rz, b, rfl, qz⟩ := z
  cases rz
  exact wpAny_truthy_bool ⟨.bl b, H', I', rfl, qz⟩
/-- len(x) -/
def rLenOwn (K : PySem.W.Frag) (C : Addr) (sp : DSp) : List V → Hp → VK → Prop := fun xs H Q => ∃ a dx fs, xs = [.ref a] ∧ H a = some (.ins C dx fs) ∧ spE K sp xs H fun z H' => ∃ n : Int, z = .int n ∧ (0 ≤ n ∧ n < 2 ^ 63) ∧ Q (.int n) H'
theorem call_lenOwn (hr : Room (k + 1) X.A) (F : FnOk X.prog X.w X.K X.mg X.base CX0 k f fd ps (toSp X.K sp)) (hb : Binds X.K fd ps []) (hm : Meth X.K C "__len__" f) : CallR X (.builtin "len") (rLenOwn X.K C sp) := by
  intro pins s σ H xs us Q I r h
  obtain ⟨a, dx, fs, rfl, ha, q⟩ := h
  obtain ⟨u, rfl, ru⟩ := r.one
  cases (show u = Value.ref a from ru)
  obtain ⟨od, J⟩ := insAt I ha
  obtain ⟨mm, hF⟩ := I.fr
  refine PySem.W.len_K hF I.ok.mod.kin J hm.at_ hm.fn (wpAny_mono (run_fnA (us := [.ref a]) (vs := [.ref a]) F hr.in1 I.env0.in1 hb I (.cons rfl .nil) q) (fun w s' z => ?_) fun _ _ x => x)
  obtain ⟨z', H', I', rz, n, rfl, hn, qz⟩ := z
  obtain ⟨t, rfl⟩ := (show ∃ t, w = Value.int n t from rz)
  exact ⟨hn, .int n, H', I'.tok _, ⟨_, rfl⟩, qz⟩
/-- repr(x) -/
def rReprOwn (K : PySem.W.Frag) (C : Addr) (sp : DSp) : List V → Hp → VK → Prop := fun xs H Q => ∃ a dx fs, xs = [.ref a] ∧ H a = some (.ins C dx fs) ∧ spE K sp xs H fun z H' => ∃ n : Str, z = .str n ∧ Q (.str n) H'
theorem call_reprOwn (hr : Room (k + 1) X.A) (F : FnOk X.prog X.w X.K X.mg X.base CX0 k f fd ps (toSp X.K sp)) (hb : Binds X.K fd ps []) (hm : Meth X.K C "__repr__" f) : CallR X (.builtin "repr") (rReprOwn X.K C sp) := by
  intro pins s σ H xs us Q I r h
  obtain ⟨a, dx, fs, rfl, ha, q⟩ := h
  obtain ⟨u, rfl, ru⟩ := r.one
  cases (show u = Value.ref a from ru)
  obtain ⟨od, J⟩ := insAt I ha
  obtain ⟨mm, hF⟩ := I.fr
  refine PySem.W.repr_K hr.in1.units0 hF I.ok.mod.kin J hm.at_ hm.fn (wpAny_mono (run_fnA (us := [.ref a]) (vs := [.ref a]) F hr.in1 I.env0.in1 hb I (.cons rfl .nil) q) (fun w s' z => ?_) fun _ _ x => x)
  obtain ⟨z', H', I', rz, n, rfl, qz⟩ := z
  obtain ⟨t, rfl⟩ := (show ∃ t, w = Value.str n t from rz)
  exact ⟨.str n, H', I', ⟨_, rfl⟩, qz⟩
end
end DL
set_option maxRecDepth 100000
namespace DL
open PySem PySem.Spec PyProof.Rows L2
/-! ### own special methods, told of trees -/
def isObjD (C : Addr) (S : Sto) (x : D) : Prop := match val S x with
  | .obj C' _ => C' = C
  | _ => False
def isEqR (C : Addr) (S : Sto) (x : D) : Prop := match val S x with
  | .obj C' _ => C' = C
  | .dt _ => True
  | _ => False
section
variable {K : PySem.W.Frag} {M : Addr → Prop} {mu : List Addr} {H : Hp} {S : Sto} {C : Addr} {sp : DSp}
theorem isObj_ok (ok : Wok K M mu H S) {x : D} {v : V} (r : R K M mu H x v) (h : isObjD C S x) : ∃ a dx fs, v = .ref a ∧ H a = some (.ins C dx fs) := by
  unfold isObjD at h
  cases e : val S x with
  | obj C' fs =>
    rw [e] at h
    obtain rfl : C' = C := h
    obtain ⟨a, dx, gs, rfl, ha, _⟩ := obj_at ok r e
    exact ⟨a, dx, gs, rfl, ha⟩
  | _ => rw [e] at h; exact h.elim
theorem isEqR_ok (hn : PySem.W.notFirst K C (.type "dict") = true) (ok : Wok K M mu H S) {x : D} {v : V} (r : R K M mu H x v) (h : isEqR C S x) : EqR K C H v := by
  unfold isEqR at h
  cases e : val S x with
  | obj C' fs =>
    rw [e] at h
    obtain rfl : C' = C := h
    obtain ⟨a, dx, gs, rfl, ha, _⟩ := obj_at ok r e
    exact .same ha
  | dt es =>
    obtain ⟨a, es', rfl, hd, _⟩ := dt_at ok r e
    exact .dict hd hn
  | _ => rw [e] at h; exact h.elim
theorem rs_1 {d : D} {v : V} (r : R K M mu H d v) : Rs K M mu H [d] [v] := ⟨v, [], rfl, r, rfl⟩
theorem rs_2 {d e : D} {v u : V} (r : R K M mu H d v) (q : R K M mu H e u) : Rs K M mu H [d, e] [v, u] := ⟨v, [u], rfl, r, u, [], rfl, q, rfl⟩
theorem spE_of (ok : Wok K M mu H S) {ds : List D} {vs : List V} (r : Rs K M mu H ds vs) {P : DK} {Q : VK} (h : sp ds S P EF) (n : Nrm K M mu H P Q) : spE K sp vs H Q := ⟨M, mu, S, ds, P, EF, ok, r, h, n, fun _ _ _ _ _ _ _ _ _ h => h.elim⟩
def eqOwnD (C : Addr) (sp : DSp) : DF2 := fun x y S P => isObjD C S x ∧ isEqR C S y ∧ sp [x, y] S P EF
theorem opd_eqOwn (hn : PySem.W.notFirst K C (.type "dict") = true) : OpD K (rEqOwn K C sp) (eqOwnD C sp) := by
  intro M mu H S x y v u P Q ok rx ry h n
  obtain ⟨a, dx, fs, rfl, ha⟩ := isObj_ok ok rx h.1
  exact ⟨a, dx, fs, rfl, ha, isEqR_ok hn ok ry h.2.1, spE_of ok (rs_2 rx ry) h.2.2 n⟩
def blP (P : DK) : DK := fun z S => match z with
  | .bl b => P (.bl b) S
  | _ => False
def inOwnD (C : Addr) (sp : DSp) : DF2 := fun y x S P => isObjD C S x ∧ sp [x, y] S (blP P) EF
theorem opd_inOwn : OpD K (rInOwn K C sp) (inOwnD C sp) := by
  intro M mu H S y x u v P Q ok ry rx h n
  obtain ⟨a, dx, fs, rfl, ha⟩ := isObj_ok ok rx h.1
  refine ⟨a, dx, fs, rfl, ha, spE_of ok (rs_2 rx ry) h.2 fun z H' d S' k ok' r' h' => ?_⟩
  cases d with
  | bl b =>
    obtain rfl : z = .bl b := r'
    exact ⟨b, rfl, n _ H' (.bl b) S' k ok' rfl h'⟩
  | _ => exact h'.elim
def lenP (P : DK) : DK := fun z S => match z with
  | .int i => (0 ≤ i ∧ i < 1000000000) ∧ P (.int i) S
  | _ => False
def lenOwnD (C : Addr) (sp : DSp) : DFn := fun xs S P => match xs with
  | [x] => isObjD C S x ∧ sp [x] S (lenP P) EF
  | _ => False
theorem calld_lenOwn : CallD K (rLenOwn K C sp) (lenOwnD C sp) := by
  intro M mu H S xs vs P Q ok r h n
  unfold lenOwnD at h
  split at h
  · rename_i x
    obtain ⟨v, rfl, rv⟩ := r.one
    obtain ⟨a, dx, fs, rfl, ha⟩ := isObj_ok ok rv h.1
    refine ⟨a, dx, fs, rfl, ha, spE_of ok (rs_1 rv) h.2 fun z H' d S' k ok' r' h' => ?_⟩
    cases d with
    | int b =>
      obtain rfl : z = .int b := r'
      have e63 : (2 : Int) ^ 63 = 9223372036854775808 := by decide
      have h1 : (0 ≤ b ∧ b < 1000000000) ∧ P (.int b) S' := h'
      exact ⟨b, rfl, ⟨h1.1.1, by rw [e63]; have := h1.1.2; omega⟩, n _ H' (.int b) S' k ok' rfl h1.2⟩
    | _ => exact h'.elim
  · exact h.elim
def strP (P : DK) : DK := fun z S => match z with
  | .str i => P (.str i) S
  | _ => False
def reprOwnD (C : Addr) (sp : DSp) : DFn := fun xs S P => match xs with
  | [x] => isObjD C S x ∧ sp [x] S (strP P) EF
  | _ => False
theorem calld_reprOwn : CallD K (rReprOwn K C sp) (reprOwnD C sp) := by
  intro M mu H S xs vs P Q ok r h n
  unfold reprOwnD at h
  split at h
  · rename_i x
    obtain ⟨v, rfl, rv⟩ := r.one
    obtain ⟨a, dx, fs, rfl, ha⟩ := isObj_ok ok rv h.1
    refine ⟨a, dx, fs, rfl, ha, spE_of ok (rs_1 rv) h.2 fun z H' d S' k ok' r' h' => ?_⟩
    cases d with
    | str b =>
      obtain rfl : z = .str b := r'
      exact ⟨b, rfl, n _ H' (.str b) S' k ok' rfl h'⟩
    | _ => exact h'.elim
  · exact h.elim
end
/-! the truth of an instance -/
section
variable {X : Cx} {W : WX} {C : Addr} {k : Nat} {ps : List Str} {sp : DSp} {f : Addr} {fd : FuncData} {e : Expr} {we : DW}
def truP (P : Bool → Sto → Prop) : DK := fun z S => match z with
  | .bl b => P b S
  | _ => False
def wTruOwn (C : Addr) (sp : DSp) (we : DW) : DWT := fun ρ S P E => we ρ S (fun x S1 => isObjD C S1 x ∧ sp [x] S1 (truP P) EF) E
theorem dt_truOwn (hr : Room k X.A) (F : FnOk X.prog X.w X.K X.mg X.base CX0 k f fd ps (toSp X.K sp)) (hb : Binds X.K fd ps []) (hm : Meth X.K C "__bool__" f) (he : DE X W e we)
    (ht : ∀ whole, isTrue e X.env whole = (do let v ← whole; standAt e.pos; holding [v] (truthy v)) := by intro _; rfl) : DT X W e (wTruOwn C sp we) := by
  obtain ⟨t, p, r⟩ := he.ex
  refine ⟨fun σ H Q => t σ H fun v H1 => ∃ a dx fs, v = .ref a ∧ H1 a = some (.ins C dx fs) ∧ spE X.K sp [.ref a] H1 fun z H2 => ∃ b, z = .bl b ∧ Q b H2, ⟨fun pins s σ H Q I h => ?_⟩, ⟨fun M mu σ ρ S H P E Q ok en hw n x => ?_⟩⟩
  · refine isTrue_plain (thn (p.run pins s σ H _ I h) fun u s1 ⟨x, H1, I1, rx, a, dx, fs, ex, ha, q⟩ => ?_) (ht _)
    subst ex
    cases (show u = Value.ref a from rx)
    obtain ⟨od, J⟩ := insAt I1 ha
    obtain ⟨mm, hF⟩ := I1.fr
    refine PySem.W.truthy_K hF I1.ok.mod.kin J hm.at_ hm.fn (wpAny_mono (run_fnA (us := [.ref a]) (vs := [.ref a]) F hr I1.env0 hb I1 (.cons rfl .nil) q) (fun w s' z => ?_) fun _ _ x => x)
    obtain ⟨z', H', I', rz, b, rfl, qz⟩ := z
    cases rz
    exact ⟨H', I', qz⟩
  · refine r.run M mu σ ρ S H _ E _ ok en hw (fun v H1 d S1 k1 ok1 r1 h1 => ?_) x
    obtain ⟨a, dx, fs, rfl, ha⟩ := isObj_ok ok1 r1 h1.1
    refine ⟨a, dx, fs, rfl, ha, spE_of ok1 (rs_1 r1) h1.2 fun z H' d' S' k' ok' r' h' => ?_⟩
    cases d' with
    | bl b =>
      obtain rfl : z = .bl b := r'
      exact ⟨b, rfl, n b H' S' (k1.trans k') ok' h'⟩
    | _ => exact h'.elim
end
end DL
set_option maxRecDepth 100000
namespace DL
open PySem PySem.Spec PySem.W PyProof.Rows PyProof.V
/-! ### == of two dicts whose keys are objects (the road of KE.KEqDict, the keys found by their objects) -/
section
variable {prog : Program} {w : World} {K : Type} [DecidableEq K] {knd : HeapKind prog w K} {A : Around} {E : Value → Shared → Prop} {s : Shared}
/-- what the second dict says at the first one's keys -/
inductive HitsH (A : Around) (s : Shared) (xb : List (K × Addr × Value)) : List (K × Addr × Value) → Bool → Prop
  | nil : HitsH A s xb [] true
  | miss {k : K} {a : Addr} {v : Value} {r : List (K × Addr × Value)} : atKey xb k = none → HitsH A s xb ((k, a, v) :: r) false
  | hit {k : K} {a : Addr} {v : Value} {p : Addr × Value} {r : List (K × Addr × Value)} {e b : Bool} : atKey xb k = some p → SeqAt.EqAt A s v p.2 e → HitsH A s xb r b → HitsH A s xb ((k, a, v) :: r) (e && b)
theorem samePairs_H {nm : String} {a b : Addr} {xa xb : List (K × Addr × Value)} {r : Bool} {Q : Bool → Shared → Prop} (hu : knd.room A) (ha : (a == sysModules) = false) (hb : (b == sysModules) = false)
    (da : s.heap.DictOfH knd a xa) (db : s.heap.DictOfH knd b xb) (hits : xa.length = xb.length → HitsH A s xb xa r) (h : Q (xa.length == xb.length && r) s) : wpAny (model prog w) A (Builtin.Dict.samePairs nm a b) Q E s := by
  obtain ⟨oa, es, ep, hoa, _, hda, hea, hia, hna⟩ := da
  obtain ⟨ob, es', ep', hob, _, hdb, heb, hib, hnb⟩ := db
  have hla : xa.length = es.size := (size_of_entries hea).symm
  have hlb : xb.length = es'.size := (size_of_entries heb).symm
  rw [hla, hlb] at h
  unfold Builtin.Dict.samePairs Builtin.Dict.showsAll
  rw [if_neg (by rw [ha]; exact Bool.false_ne_true), if_neg (by rw [hb]; exact Bool.false_ne_true)]
  refine wpAny_bind (wpAny_pure (wpAny_bind (wpAny_pure (wpAny_bind (wpAny_dictEntries hoa hda ?_)))))
  dsimp only
  refine wpAny_bind (wpAny_dictEntries hob hdb ?_)
  by_cases hsz : es.size = es'.size
  case neg =>
    rw [if_pos (by simpa using hsz)]
    rw [show (es.size == es'.size) = false by simpa using hsz, Bool.false_and] at h
    exact wpAny_bind (wpAny_rule (wpAny_pure h))
  case pos =>
    have h' : Q r s := by simpa [hsz] using h
    rw [if_neg (by rw [hsz]; simp)]
    refine wpAny_bind (wpAny_dictEpoch hoa hda (wpAny_bind ?_))
    rw [Std.Legacy.Range.forIn_eq_forIn_range']
    simp only [Std.Legacy.Range.size, Nat.sub_zero, Nat.add_sub_cancel, Nat.div_one]
    refine wpAny_forIn_list _ (fun rest q s' => s' = s ∧ q = (none, ()) ∧ ∃ i, rest = List.range' i (es.size - i) ∧ i ≤ es.size ∧ HitsH A s xb (xa.drop i) r) _ ?_ ?_ _ _ ⟨rfl, rfl, 0, by simp, Nat.zero_le _, hits (by rw [hla, hlb]; exact hsz)⟩
    · rintro x rest q s' ⟨rfl, rfl, i, hr, hi, hpre⟩
      have hlt : i < es.size := by
        refine Nat.lt_of_not_le fun z => ?_
        rw [Nat.sub_eq_zero_of_le z] at hr
        simp at hr
      obtain ⟨rfl, hrest⟩ : x = i ∧ rest = List.range' (i + 1) (es.size - (i + 1)) := by
        rw [show es.size - i = (es.size - (i + 1)) + 1 by omega, List.range'_succ] at hr
        injection hr with h1 h2
        exact ⟨h1, h2⟩
      have hlt' : x < xa.length := by rw [hla]; exact hlt
      obtain ⟨k, c, v, hkv⟩ : ∃ k c v, xa[x] = (k, c, v) := ⟨_, _, _, rfl⟩
      have hmem : (k, c, v) ∈ xa := by rw [← hkv]; exact List.getElem_mem hlt'
      rw [List.drop_eq_getElem_cons hlt', hkv] at hpre
      refine wpAny_bind (wpAny_dictEntries hoa hda ?_)
      rw [entry_at hea x, List.getElem?_eq_getElem hlt', hkv]
      show wpAny _ _ (holding [Value.ref c, v] _ >>= _) _ _ _
      refine wpAny_bind (wpAny_holding (wpAny_bind (wpAny_dictFind_heap hu (hia _ hmem) hob hdb heb hib hnb (fun hno => ?_) fun j p hj => ?_)))
      · have hn := atKey_none_of_get hno
        cases hpre with
        | miss _ =>
          refine wpAny_pure ?_
          show wpAny _ _ (if (!false) = true then _ else _) _ _ _
          rw [if_pos (by decide)]
          exact wpAny_pure (wpAny_pure h')
        | hit hy _ _ => rw [hn] at hy; cases hy
      · have hat := atKey_of_get hnb hj
        refine wpAny_bind (wpAny_dictEntries hob hdb ?_)
        rw [entry_at heb j, hj]
        cases hpre with
        | miss hn => rw [hat] at hn; cases hn
        | @hit _ _ _ p' _ e b' hy he hrr =>
          obtain rfl : p = p' := Option.some.inj (hat.symm.trans hy)
          refine wpAny_holding (he prog w _ _ ?_)
          cases e with
          | false =>
            show wpAny _ _ (if (!false) = true then _ else _) _ _ _
            rw [if_pos (by decide)]
            exact wpAny_pure (wpAny_pure h')
          | true =>
            show wpAny _ _ (if (!true) = true then _ else _) _ _ _
            rw [if_neg (by decide)]
            refine wpAny_bind (wpAny_dictEpoch hoa hda ?_)
            rw [if_neg (by simp)]
            exact wpAny_pure ⟨rfl, rfl, x + 1, hrest, hlt, by simpa using hrr⟩
    · rintro q s' ⟨rfl, rfl, i, hr, hi, hpre⟩
      have hin : i = es.size := by
        refine Nat.le_antisymm hi (Nat.le_of_not_lt fun z => ?_)
        rw [show es.size - i = (es.size - (i + 1)) + 1 by omega, List.range'_succ] at hr
        cases hr
      refine wpAny_pure ?_
      rw [hin, ← hla, List.drop_length] at hpre
      cases hpre
      exact h'
theorem eq_dictsH {a b : Addr} {xa xb : List (K × Addr × Value)} {r : Bool} {Q : Value → Shared → Prop} (ha : (a == sysModules) = false) (hb : (b == sysModules) = false)
    (da : s.heap.DictOfH knd a xa) (db : s.heap.DictOfH knd b xb) (hu : A.units < cLine) (hr : knd.room A.in1) (hits : xa.length = xb.length → HitsH A.in1 s xb xa r) (h : Q (.bool (xa.length == xb.length && r)) s) : wpAny (model prog w) A (compareOp .Eq (.ref a) (.ref b)) Q E s := by
  refine wpAny_richCompare_same_room (op := .Eq) da.typeIs db.typeIs PySem.F.slot_dict_eq (wpAny_call_entry PySem.F.slot_dict_eq da.typeIs PySem.F.entry_dict_eq ?_ (PySem.F.args_dict_eq_2 _ _)) hu
  show wpAny _ _ (Builtin.Dict.dictSlotArgs "__eq__" ⟨[.ref a, .ref b], []⟩ >>= _) _ _ s
  unfold Builtin.Dict.dictSlotArgs
  refine wpAny_bind (wpAny_bind (wpAny_notOrdered_dict da.typeIs (wpAny_pure ?_)))
  refine wpAny_bind (wpAny_isInstance (T := "dict") db.typeIs PySem.F.sub_dict_dict ?_)
  simp only [Bool.not_true, Bool.false_eq_true, if_false]
  refine wpAny_bind (wpAny_pure (wpAny_bind (wpAny_pure (wpAny_bind (samePairs_H hr ha hb da db hits (wpAny_pure ⟨_, rfl, (fun x => nomatch x), by simpa using h⟩))))))
end
end DL
set_option maxRecDepth 100000
namespace DL
open PySem PySem.Spec PyProof.Rows L2
/-! ### dict == dict, tuple keys, values of plain data -/
abbrev TPy := List (List Key × PyData)
def lookP (ps : TPy) (k : List Key) : Option PyData := (ps.find? fun e => decide (e.1 = k)).map (·.2)
def eqTab (pa pb : TPy) : Bool := pa.length == pb.length && pa.all fun p => match lookP pb p.1 with
  | some q => PyData.eqv p.2 q
  | none => false
abbrev PT2 (K : PySem.W.Frag) (H : Hp) (es : List (List Key × V)) (ps : TPy) : Prop := Paired (fun (e : List Key × V) (p : List Key × PyData) => e.1 = p.1 ∧ Dp K H e.2 p.2) es ps
theorem look_pt {K : PySem.W.Frag} {H : Hp} (k : List Key) : ∀ {es : List (List Key × V)} {ps : TPy}, PT2 K H es ps → (valV es k = none ∧ lookP ps k = none) ∨ ∃ v p, valV es k = some v ∧ lookP ps k = some p ∧ Dp K H v p
  | [], [], .nil => .inl ⟨rfl, rfl⟩
  | e :: es, p :: ps, .cons ⟨h1, h2⟩ t => by
    by_cases hk : e.1 = k
    · exact .inr ⟨e.2, p.2, valV_pos hk, by simp [lookP, List.find?_cons, ← h1, hk], h2⟩
    · rw [valV_neg hk, show lookP (p :: ps) k = lookP ps k by simp [lookP, List.find?_cons, ← h1, hk]]
      exact look_pt k t
def rEqDt (K : PySem.W.Frag) : R2 := fun x y H Q => ∃ a b ea eb pa pb, x = .ref a ∧ y = .ref b ∧ L2.Rd H a (.dT ea) ∧ L2.Rd H b (.dT eb) ∧ PT2 K H ea pa ∧ PT2 K H eb pb ∧ (pa.all fun p => SeqAt.shaped p.2) = true ∧ (pb.all fun p => SeqAt.shaped p.2) = true ∧ Q (.bl (eqTab pa pb)) H
theorem lookP_shaped : ∀ {ps : TPy} {k : List Key} {q : PyData}, (ps.all fun p => SeqAt.shaped p.2) = true → lookP ps k = some q → SeqAt.shaped q = true := fun {ps k q} h e => by
  unfold lookP at e
  obtain ⟨p, h1, rfl⟩ := Option.map_eq_some_iff.mp e
  exact List.all_eq_true.mp h p (List.mem_of_find?_eq_some h1)
theorem hits_dt {X : Cx} {pins : List (Addr × Obj)} {σ : L2.St} {H : Hp} {s : Shared} (hu : X.A.units + 66 < cLine) (I : Inv X pins σ H s) {eb : List (List Key × V)} {xb : List (List Key × Addr × Value)} {pb : TPy} (kb : KT H eb xb) (hb : PT2 X.K H eb pb) (sb : (pb.all fun p => SeqAt.shaped p.2) = true) :
    ∀ {ea : List (List Key × V)} {xa : List (List Key × Addr × Value)} {pa : TPy}, KT H ea xa → PT2 X.K H ea pa → (pa.all fun p => SeqAt.shaped p.2) = true → HitsH X.A.in1 s xb xa (pa.all fun p => match lookP pb p.1 with
      | some q => PyData.eqv p.2 q
      | none => false)
  | [], [], [], .nil, .nil, _ => .nil
  | e :: ea, ⟨k, c, v⟩ :: xa, p :: pa, .cons ⟨h1, h2, h3⟩ t, .cons ⟨g1, g2⟩ t', sa => by
    rw [List.all_cons] at sa
    obtain ⟨sa1, sa2⟩ := and_tt sa
    have ih := hits_dt hu I kb hb sb t t' sa2
    rw [List.all_cons]
    have ek : p.1 = k := g1.symm.trans h1
    have rel := kb.val k
    rcases look_pt k hb with ⟨q1, q2⟩ | ⟨u, q, q1, q2, q3⟩
    · rw [ek, q2]
      refine .miss ?_
      rw [q1] at rel
      have z := RelO.none_of rel
      cases z2 : atKey xb k with
      | none => rfl
      | some y => rw [z2] at z; cases z
    · rw [ek, q2]
      rw [q1] at rel
      obtain ⟨w, hw, rw_⟩ := RelO.some_of rel
      obtain ⟨y, hy, rfl⟩ := Option.map_eq_some_iff.mp hw
      obtain ⟨as, r1⟩ := Dp.reads I p.2 e.2 v g2 h3
      obtain ⟨bs, r2⟩ := Dp.reads I q u y.2 q3 rw_
      exact .hit hy (PySem.W.keq_at r1 r2 sa1 (lookP_shaped sb q2) (by show X.A.units + 1 + 64 < cLine; omega)) ih
theorem op_eqDt {X : Cx} (hu : X.A.units + 66 < cLine) : OpR X (compareOp .Eq) (rEqDt X.K) := by
  intro pins s σ H x y v u Q I rx ry h
  obtain ⟨a, b, ea, eb, pa, pb, rfl, rfl, ha, hb, ga, gb, sa, sb, q⟩ := h
  cases (show v = Value.ref a from rx)
  cases (show u = Value.ref b from ry)
  obtain ⟨_, a0, xa, ka, da⟩ := dt_rd I.hok ha
  obtain ⟨_, b0, xb, kb, db⟩ := dt_rd I.hok hb
  have la : xa.length = pa.length := (Paired.length ka).symm.trans (Paired.length ga)
  have lb : xb.length = pb.length := (Paired.length kb).symm.trans (Paired.length gb)
  refine eq_dictsH a0 b0 da db (by omega) (show X.A.units + 1 < cLine by omega) (fun _ => hits_dt hu I kb gb sb ka ga sa) ?_
  rw [la, lb]
  exact ⟨.bl (eqTab pa pb), H, I, rfl, q⟩
/-! told of trees -/
def toPyT : TD → Option TPy
  | [] => some []
  | (k, d) :: es => match toPy d, toPyT es with
    | some p, some ps => some ((k, p) :: ps)
    | _, _ => none
theorem pt_of {K : PySem.W.Frag} {M : Addr → Prop} {mu : List Addr} {H : Hp} : ∀ {kvs : TD} {es : List (List Key × V)} {ps : TPy}, es.map (·.1) = kvs.map (·.1) → Rt K M mu H kvs (es.map (·.2)) → toPyT kvs = some ps → PT2 K H es ps
  | [], [], ps, _, _, e => by
    obtain rfl : ([] : TPy) = ps := Option.some.inj e
    exact .nil
  | [], _ :: _, _, h, _, _ => by cases h
  | _ :: _, [], _, h, _, _ => by cases h
  | (k1, d1) :: kvs, (k2, v2) :: es, ps, h, r, e => by
    obtain ⟨v, rr, e0, h1, h2⟩ := r
    injection e0 with e1 e2
    injection h with e3 e4
    obtain rfl : v2 = v := e1
    obtain rfl : k2 = k1 := e3
    unfold toPyT at e
    cases q1 : toPy d1 with
    | none => rw [q1] at e; cases e
    | some p =>
      cases q2 : toPyT kvs with
      | none => rw [q1, q2] at e; cases e
      | some qs =>
        rw [q1, q2] at e
        obtain rfl := Option.some.inj e
        exact .cons ⟨rfl, R.dp _ _ _ h1 q1⟩ (pt_of e4 (by rw [e2]; exact h2) q2)
def eqDt : DF2 := fun x y S P => match val S x, val S y with
  | .dt ea, .dt eb => (match toPyT ea, toPyT eb with
    | some pa, some pb => (pa.all fun p => SeqAt.shaped p.2) = true ∧ (pb.all fun p => SeqAt.shaped p.2) = true ∧ P (.bl (eqTab pa pb)) S
    | _, _ => False)
  | _, _ => False
theorem opd_eqDt {K : PySem.W.Frag} : OpD K (rEqDt K) eqDt := by
  intro M mu H S x y v u P Q ok rx ry h n
  unfold eqDt at h
  cases e1 : val S x with
  | dt ea =>
    cases e2 : val S y with
    | dt eb =>
      simp only [e1, e2] at h
      cases e3 : toPyT ea with
      | none => simp only [e3] at h
      | some pa =>
        cases e4 : toPyT eb with
        | none => simp only [e3, e4] at h
        | some pb =>
          simp only [e3, e4] at h
          obtain ⟨a, es, rfl, hd, hk, rv⟩ := dt_at ok rx e1
          obtain ⟨b, es', rfl, hd', hk', rv'⟩ := dt_at ok ry e2
          exact ⟨a, b, es, es', pa, pb, rfl, rfl, hd, hd', pt_of hk rv e3, pt_of hk' rv' e4, h.1, h.2.1, n _ H (.bl _) S (.refl _ _) ok rfl h.2.2⟩
    | _ => simp only [e1, e2] at h
  | _ => simp only [e1] at h
end DL
set_option maxRecDepth 100000
namespace DL
open PySem PySem.Spec PyProof.Rows
/-! ### sorted(list of tuples of ints of any sign): the rank is the kit's code of the ints moved up -/
def up (B : Int) (ns : List Int) : List Int := ns.map (· + B)
def rkS (B : Int) (ns : List Int) : Int := TS.code (2 * B) (up B ns)
def SBd (B : Int) (ns : List Int) : Prop := ∀ m, m ∈ ns → -B ≤ m ∧ m < B
theorem SBd.up {B : Int} {ns : List Int} (h : SBd B ns) : TS.Bd (2 * B) (up B ns) := fun m hm => by
  obtain ⟨z, hz, rfl⟩ := List.mem_map.mp hm
  have := h z hz
  omega
theorem SBd.tl {B d : Int} {r : List Int} (h : SBd B (d :: r)) : SBd B r := fun m hm => h m (List.mem_cons_of_mem _ hm)
theorem rk_lt {B d e : Int} {r q : List Int} (hl : r.length = q.length) (hr : SBd B r) (hq : SBd B q) (h : d < e) : rkS B (d :: r) < rkS B (e :: q) :=
  TS.code_lt (d := d + B) (e := e + B) (by simp [up, hl]) hr.up hq.up (by omega)
theorem rk_same {B d : Int} {r q : List Int} (hl : r.length = q.length) : rkS B (d :: r) < rkS B (d :: q) ↔ rkS B r < rkS B q :=
  TS.code_same (d := d + B) (by simp [up, hl])
def TupsS (h : Heap) (d : Nat) (B : Int) (vs : List Value) : Prop := ∀ v, v ∈ vs → ∃ ns, TS.TupInts h v ns ∧ ns.length = d ∧ SBd B ns
theorem TupsS.keeps {h h' : Heap} {d : Nat} {B : Int} {vs : List Value} (x : TupsS h d B vs) (k : ∀ b o, h.get? b = some o → o.cls = .type "tuple" → h'.get? b = some o) : TupsS h' d B vs := fun v hv =>
  have ⟨ns, t, r⟩ := x v hv
  ⟨ns, t.keeps k, r⟩
section
variable {prog : Program} {w : World} {A : Around} {E : Value → Shared → Prop} {s : Shared}
theorem lexS {B : Int} {b : Bool} {Q : Bool → Shared → Prop} : ∀ {xs ys : List Value} {ns ms : List Int} (i : Nat), IntsAre xs ns → IntsAre ys ms → ns.length = ms.length → SBd B ns → SBd B ms → Q (decide (rkS B ns < rkS B ms)) s → PySem.W.KatLex prog w A b false Q (xs.zip ys) i s
  | _, _, _, _, i, .nil, .nil, _, _, _, h => PySem.W.kat_nil (by
      have e : decide (rkS B [] < rkS B []) = false := decide_eq_false (Int.lt_irrefl _)
      rw [← e]
      exact h)
  | _, _, _, _, i, .nil, .cons .., hl, _, _, _ => by simp at hl
  | _, _, _, _, i, .cons .., .nil, hl, _, _, _ => by simp at hl
  | _, _, _, _, i, .cons p t (ns := ns) hx, .cons q u (ns := ms) hy, hl, h1, h2, h => by
    have hl' : ns.length = ms.length := by simpa using hl
    refine PySem.W.kat_cons (wpAny_eqBool_int ?_)
    by_cases e : p = q
    · subst e
      rw [beq_self_eq_true]
      refine PySem.W.kat_yes (lexS (i + 1) hx hy hl' h1.tl h2.tl ?_)
      rw [← decide_eq_decide.mpr (rk_same (d := p) hl')]
      exact h
    · rw [show (p == q) = false from beq_eq_false_iff_ne.mpr e]
      refine PySem.W.kat_no (TS.oneLt_ints _ ?_)
      have d : decide (rkS B (p :: ns) < rkS B (q :: ms)) = decide (p < q) := decide_eq_decide.mpr ⟨fun x => (by
        rcases Int.lt_trichotomy p q with y | y | y
        · exact y
        · exact absurd y e
        · have := rk_lt hl'.symm h2.tl h1.tl y
          omega), fun x => rk_lt hl' h1.tl h2.tl x⟩
      rw [← d]
      exact h
theorem firstsS {h : Heap} {d : Nat} {B : Int} (hd : 1 ≤ d) : ∀ vs : List Value, TupsS h d B vs → ∃ fs, PySem.W.KatTups h vs fs ∧ fs.length = vs.length ∧ ∀ f, f ∈ fs → ∃ n t, f = Value.int n t
  | [], _ => ⟨[], .nil, rfl, fun f hf => by simp at hf⟩
  | v :: vs, x => by
    obtain ⟨fs, k, hl, hi⟩ := firstsS hd vs fun u hu => x u (List.mem_cons_of_mem _ hu)
    obtain ⟨ns, ⟨a, xs, rfl, ⟨o, ho, hc, n, hdt⟩, i⟩, hn, _⟩ := x v (List.mem_cons_self ..)
    cases q : xs.toList with
    | nil =>
      have l := i.length
      rw [q, List.length_nil, hn] at l
      omega
    | cons y ys =>
      obtain ⟨m, t, hy⟩ := i.all y (by rw [q]; exact List.mem_cons_self ..)
      have hz : xs[0]? = some y := by
        have z := congrArg (fun l : List Value => l[0]?) q
        simpa using z
      exact ⟨y :: fs, .cons ho hc hdt hz k, by simp [hl], fun f hf => (List.mem_cons.mp hf).elim (fun e => ⟨m, t, e.trans hy⟩) (hi f)⟩
theorem kindS {d : Nat} {B : Int} {vs : List Value} (hd : 1 ≤ d) (h2 : 2 ≤ vs.length) (x : TupsS s.heap d B vs) (r : Value → Int) (hr : ∀ v, v ∈ vs → ∀ ns, TS.TupInts s.heap v ns → r v = rkS B ns) (Q : SortKind → Shared → Prop)
    (h : ∀ κ, TS.Cmp prog w A s κ (pairsOf vs) r → Q κ s) : wpAny (model prog w) A (keyKind' vs.toArray) Q E s := by
  obtain ⟨fs, k, hl, hi⟩ := firstsS hd vs x
  refine PySem.W.kat_kind (T := Value.type "int") k (by omega) (fun f hf => ?_) rfl (h _ fun p q hp hq Q' E' hQ => ?_)
  · obtain ⟨n, t, rfl⟩ := hi f hf
    exact PySem.W.Looks.of_pure rfl
  · rw [pairsOf_toList] at hp hq
    obtain ⟨ns, tp, lp, bp⟩ := x _ (mem_zip_self hp).2
    obtain ⟨ms, tq, lq, bq⟩ := x _ (mem_zip_self hq).2
    have hQ' : Q' (decide (rkS B ns < rkS B ms)) s := by
      rw [← hr _ (mem_zip_self hp).2 _ tp, ← hr _ (mem_zip_self hq).2 _ tq]
      exact hQ
    obtain ⟨a, xs, e1, ⟨o, ho, hc, n, hdt⟩, i⟩ := tp
    obtain ⟨a', ys, e2, ⟨o', ho', hc', n', hdt'⟩, i'⟩ := tq
    rw [e1, e2]
    refine PySem.W.kat_lt ho hdt ho' hdt' ?_
    have l1 := i.length
    have l2 := i'.length
    rw [Array.length_toList] at l1 l2
    rw [show decide (xs.size < ys.size) = false from decide_eq_false (by omega)]
    exact lexS 0 i i' (by omega) bp bq hQ'
theorem sortS {a : Addr} {vs : List Value} {n d : Nat} {B : Int} {P : PySem.Fin → Shared → Prop} (ho : s.heap.get? a = some (seqObj "list" vs.toArray n)) (h64 : vs.length < 64) (hd : 1 ≤ d) (x : TupsS s.heap d B vs)
    (r : Value → Int) (hr : ∀ v, v ∈ vs → ∀ ns, TS.TupInts s.heap v ns → r v = rkS B ns) (h : ∀ out : Array Value, out.toList.Perm vs → out.toList.Pairwise (fun u v => r u ≤ r v) → P (.done (.ret .none)) { s with heap := sortedHeap s.heap a vs out }) :
    wpAny (model prog w) A (Builtin.«list.sort» ⟨[.ref a], []⟩) P E s := by
  have keep : ∀ b o, s.heap.get? b = some o → o.cls = .type "tuple" → (TS.midHeap s.heap a vs).get? b = some o := fun b o e hc => by
    refine TS.midHeap_old (fun z => ?_) e
    subst z
    rw [ho] at e
    cases e
    injection hc with c
    exact absurd c (by decide)
  refine SK.plain_sort (r := r) ho h64 (fun h2 Q hQ => kindS (s := { s with heap := TS.midHeap s.heap a vs }) hd h2 (x.keeps keep) r (fun v hv ns t => ?_) Q hQ) fun ps out h1 h2 h3 => ?_
  · obtain ⟨ns0, t0, _⟩ := x v hv
    rw [t.ints.symm.trans (t0.keeps keep).ints]
    exact hr v hv ns0 t0
  · obtain ⟨p, o⟩ := TS.out_rank h1 h2 h3
    exact h out p o
end
end DL
set_option maxRecDepth 100000
namespace DL
open PySem PySem.Spec PyProof.Rows
section
variable {prog : Program} {w : World} {A : Around} {E : Value → Shared → Prop} {s : Shared}
/-- sorted(xs) -/
theorem sortedS {l : Addr} {vs : List Value} {d : Nat} {B : Int} {Q : Value → Shared → Prop} (hl : s.heap.IsList l vs.toArray) (h64 : vs.length < 64) (hd : 1 ≤ d) (x : TupsS s.heap d B vs)
    (h : ∀ out : Array Value, out.toList.Perm vs → out.toList.Pairwise (fun u v => rkS B (TS.intsOf s.heap u) ≤ rkS B (TS.intsOf s.heap v)) → Q (.ref (s.heap.objs.size + 1)) { s with heap := sortedAll s.heap vs out }) : wpAny (model prog w) A (call (.builtin "sorted") [.ref l]) Q E s := by
  refine Calls.call_function_entry kind_sorted plain_sorted entry_sorted (args_sorted1 _) ?_
  unfold Builtin.«sorted»
  refine wpAny_bind (m := checkCount "sorted" 1 1 _) (wpAny_pure (wpAny_bind (collect_list hl (wpAny_bind (wpAny_newList ?_ (by rw [sizeLine_eq]; omega))) (by rw [sizeLine_eq]; omega))))
  have hsz : ((s.heap.push (seqObj "list" #[] 0)).update s.heap.objs.size (Obj.mapSeq (· ++ vs.toArray))).objs.size = s.heap.objs.size + 1 := by rw [Heap.size_update, size_push']
  generalize hg : (s.heap.push (seqObj "list" #[] 0)).update s.heap.objs.size (Obj.mapSeq (· ++ vs.toArray)) = g at hsz
  have hoL : (g.push (seqObj "list" vs.toArray 0)).get? (s.heap.objs.size + 1) = some (seqObj "list" vs.toArray 0) := by
    rw [← hsz]
    exact Heap.get?_push_size _ rfl
  have keep : ∀ b o, s.heap.get? b = some o → o.cls = .type "tuple" → (g.push (seqObj "list" vs.toArray 0)).get? b = some o := fun b o q _ => by
    have hlt := Heap.lt_size q
    rw [Heap.get?_push_ne _ _ _ (by rw [hsz]; exact Nat.ne_of_lt (Nat.lt_succ_of_lt hlt)), ← hg, Heap.get?_update_ne _ _ _ _ (Nat.ne_of_lt hlt), Heap.get?_push_ne _ _ _ (Nat.ne_of_lt hlt)]
    exact q
  show wpAny _ _ _ _ _ { s with heap := g.push (seqObj "list" vs.toArray 0) }
  dsimp only
  rw [hsz]
  refine wpAny_bind (wpAny_holding (wpAny_call_entry slot_list_sort ⟨_, hoL, rfl⟩ entry_list_sort (sortS hoL h64 hd (x.keeps keep) (fun v => rkS B (TS.intsOf s.heap v)) (fun v hv ns t => ?_) fun out a1 a2 => ⟨_, rfl, wpAny_pure ⟨_, rfl, ?_⟩⟩) (args_list_sort _)))
  · obtain ⟨ns0, t0, _⟩ := x v hv
    show rkS B (TS.intsOf s.heap v) = rkS B ns
    rw [t.ints.symm.trans (t0.keeps keep).ints, t0.ints]
  · have z := h out a1 a2
    unfold sortedAll at z
    rw [hg] at z
    exact z
end
open L2
/-- the ints of a tuple -/
def intT : D → Option (List Int)
  | .tup ds => intsD ds
  | _ => none
def rSortS (K : PySem.W.Frag) (d : Nat) : List V → Hp → VK → Prop := fun vs H Q => ∃ (B : Int) (a : Addr) (xs : List V), vs = [V.ref a] ∧ SqL K H a xs ∧ xs.length < 64 ∧ (∀ x ∈ xs, ∃ ns, TupI K H x ns ∧ ns.length = d ∧ SBd B ns) ∧
  ∀ (ys : List V) (p : Addr), ys.Perm xs → ys.Pairwise (fun x y => ∀ n m, TupI K H x n → TupI K H y m → rkS B n ≤ rkS B m) → H p = none → Q (.ref p) (upd H p (.lst ys))
theorem cr_sortS {X : Cx} {d : Nat} (hd : 1 ≤ d) : CallR X (.builtin "sorted") (rSortS X.K d) := by
  intro pins s σ H vs us Q I r h
  obtain ⟨B, a, xs, rfl, hs, h64, hx, q⟩ := h
  obtain ⟨its, rv, hl, hz⟩ := I.list hs
  rw [Vals.ref1 r]
  obtain ⟨e1, e2⟩ := bkV_refs rv fun x m => by
    obtain ⟨ns, ⟨t, e, _⟩, _⟩ := hx x m
    exact ⟨t, e⟩
  refine sortedS (d := d) (B := B) hl.isList (by rw [← rv.length]; exact h64) hd (fun v hv => ?_) fun out h1 h2 => ?_
  · obtain ⟨t, rfl⟩ := e2 v hv
    obtain ⟨ns, ⟨t', e, ht⟩, hn, hb⟩ := hx (V.ref t) (by rw [e1]; exact List.mem_map.mpr ⟨_, hv, rfl⟩)
    cases e
    exact ⟨ns, tupI_raw I ht, hn, hb⟩
  · obtain ⟨ep, he'⟩ := PyProof.Rows.sortedAll_at s.heap its out
    have hp : (out.toList.map bkV).Perm xs := by
      rw [e1]
      exact h1.map bkV
    have hlen : (out.toList.map bkV).length ≤ sizeLine := by
      rw [hp.length_eq]
      exact hz
    refine ⟨.ref _, upd H (s.heap.objs.size + 1) (.lst (out.toList.map bkV)), I.laid (t' := s.toks) (fun _ _ => PyProof.Rows.sortedAll_old) (Nat.le_succ _) ⟨hlen, out.toList, ep, bkV_vals (fun u hu => e2 u (h1.mem_iff.mp hu)), he'⟩, rfl, q _ _ hp ?_ (I.hok.fresh (Nat.le_succ _))⟩
    rw [List.pairwise_map]
    refine List.Pairwise.imp (fun {u v} huv n m hn hm => ?_) h2
    obtain ⟨t, et, ht⟩ := hn
    obtain ⟨t', et', ht'⟩ := hm
    have i1 : TS.intsOf s.heap u = n := by
      rw [bkV_ref et]
      exact (tupI_raw I ht).ints
    have i2 : TS.intsOf s.heap v = m := by
      rw [bkV_ref et']
      exact (tupI_raw I ht').ints
    rw [← i1, ← i2]
    exact huv
/-! told of trees: a permutation, ascending by the order of tuples -/
theorem rs_perm {K : PySem.W.Frag} {M : Addr → Prop} {mu : List Addr} {H : Hp} {xs ys : List V} (p : xs.Perm ys) : ∀ {l : List D}, Rs K M mu H l xs → ∃ l', l.Perm l' ∧ Rs K M mu H l' ys := by
  induction p with
  | nil => exact fun {l} r => ⟨l, .refl _, r⟩
  | cons x _ ih =>
    intro l r
    cases l with
    | nil => cases (show _ = [] from r)
    | cons d l =>
      obtain ⟨v, rr, e, h1, h2⟩ := r
      injection e with e1 e2
      subst e1 e2
      obtain ⟨l', q1, q2⟩ := ih h2
      exact ⟨d :: l', q1.cons d, x, _, rfl, h1, q2⟩
  | swap x y z =>
    intro l r
    cases l with
    | nil => cases (show _ = [] from r)
    | cons d l =>
      obtain ⟨v, rr, e, h1, h2⟩ := r
      injection e with e1 e2
      subst e1 e2
      cases l with
      | nil => cases (show _ = [] from h2)
      | cons d2 l =>
        obtain ⟨v2, rr2, e, h3, h4⟩ := h2
        injection e with e1 e2
        subst e1 e2
        exact ⟨d2 :: d :: l, .swap _ _ _, _, _, rfl, h3, _, _, rfl, h1, h4⟩
  | trans _ _ ih1 ih2 =>
    intro l r
    obtain ⟨l1, q1, r1⟩ := ih1 r
    obtain ⟨l2, q2, r2⟩ := ih2 r1
    exact ⟨l2, q1.trans q2, r2⟩
/-- x is not behind y -/
def leT (x y : D) : Prop := ∀ n m, intT x = some n → intT y = some m → n = m ∨ lexI (fun i j => decide (i < j)) (fun a b => decide (a < b)) n m = true
theorem rk_lex {B : Int} : ∀ {n m : List Int}, n.length = m.length → SBd B n → SBd B m → rkS B n ≤ rkS B m → n = m ∨ lexI (fun i j => decide (i < j)) (fun a b => decide (a < b)) n m = true
  | [], [], _, _, _, _ => .inl rfl
  | [], _ :: _, hl, _, _, _ => by simp at hl
  | _ :: _, [], hl, _, _, _ => by simp at hl
  | p :: n, q :: m, hl, h1, h2, h => by
    have hl' : n.length = m.length := by simpa using hl
    by_cases e : p = q
    · subst e
      have h' : rkS B n ≤ rkS B m := by
        refine Int.not_lt.mp fun z => ?_
        have := (rk_same (d := p) hl'.symm).mpr z
        omega
      rcases rk_lex hl' h1.tl h2.tl h' with r | r
      · exact .inl (by rw [r])
      · refine .inr ?_
        unfold lexI
        rw [if_pos rfl]
        exact r
    · refine .inr ?_
      unfold lexI
      rw [if_neg e]
      refine decide_eq_true (Int.not_le.mp fun z => ?_)
      have z2 : q < p := by omega
      have := rk_lt hl'.symm h2.tl h1.tl z2
      omega
def sortedT (d : Nat) : DFn := fun xs S P => match xs with
  | [x] => (match val S x with
    | .lst l => (l.length < 64 ∧ ∀ y ∈ l, ∃ ns, intT y = some ns ∧ ns.length = d) ∧ ∀ l' : List D, l'.Perm l → l'.Pairwise leT → P (.lst l') S
    | _ => False)
  | _ => False
theorem bound_of : ∀ l : List (List Int), ∃ B : Int, ∀ ns ∈ l, SBd B ns
  | [] => ⟨0, fun _ h => nomatch h⟩
  | ns :: l => by
    obtain ⟨B, hB⟩ := bound_of l
    have one : ∀ ms : List Int, ∃ C : Int, SBd C ms := fun ms => by
      induction ms with
      | nil => exact ⟨0, fun _ h => nomatch h⟩
      | cons m ms ih =>
        obtain ⟨C, hC⟩ := ih
        refine ⟨(C.natAbs : Int) + m.natAbs + 1, fun z hz => ?_⟩
        rcases List.mem_cons.mp hz with e | e
        · subst e; omega
        · have := hC z e
          omega
    obtain ⟨C, hC⟩ := one ns
    refine ⟨(B.natAbs : Int) + C.natAbs, fun ms hm z hz => ?_⟩
    rcases List.mem_cons.mp hm with e | e
    · subst e
      have := hC z hz
      omega
    · have := hB ms e z hz
      omega
theorem tupI_of {K : PySem.W.Frag} {M : Addr → Prop} {mu : List Addr} {H : Hp} {d : D} {v : V} {ns : List Int} (r : R K M mu H d v) (e : intT d = some ns) : TupI K H v ns := by
  cases d with
  | tup ds =>
    obtain ⟨a, vs, rfl, ha, rv⟩ := r
    rw [ints_ok rv e] at ha
    exact ⟨a, rfl, SqT.of ha⟩
  | _ => cases e
theorem calld_sorted {K : PySem.W.Frag} {d : Nat} : CallD K (rSortS K d) (sortedT d) := by
  intro M mu H S xs vs P Q ok r h n
  unfold sortedT at h
  split at h
  · rename_i x
    obtain ⟨v, rfl, rv⟩ := r.one
    cases e : val S x with
    | lst l =>
      simp only [e] at h
      obtain ⟨⟨h64, hall⟩, h⟩ := h
      obtain ⟨a, ys, rfl, ha, ry⟩ := seq_lst ok rv e
      obtain ⟨B, hB⟩ := bound_of (l.filterMap intT)
      refine ⟨B, a, ys, rfl, SqL.of ha, by rw [← ry.len]; exact h64, fun y hy => ?_, fun zs p hp hs hn => ?_⟩
      · obtain ⟨i, hi⟩ := List.getElem?_of_mem hy
        obtain ⟨d', hd', rd⟩ := ry.getV hi
        obtain ⟨ns, q1, q2⟩ := hall d' (List.mem_of_getElem? hd')
        exact ⟨ns, tupI_of rd q1, q2, hB ns (List.mem_filterMap.mpr ⟨d', List.mem_of_getElem? hd', q1⟩)⟩
      · obtain ⟨l', p1, rl⟩ := rs_perm hp.symm ry
        obtain ⟨ok2, k2, _⟩ := ok.alloc hn (.lst zs)
        refine n _ _ (.lst l') S k2 ok2 (newL ok hn rl) (h l' p1.symm ?_)
        rw [List.pairwise_iff_getElem] at hs ⊢
        intro i j hi hj hij n' m' en em
        have e1 : l'[i]? = some l'[i] := List.getElem?_eq_getElem hi
        have e2 : l'[j]? = some l'[j] := List.getElem?_eq_getElem hj
        obtain ⟨u, hu, ru⟩ := rl.get e1
        obtain ⟨w, hw, rw_⟩ := rl.get e2
        obtain ⟨hi', hu'⟩ := List.getElem?_eq_some_iff.mp hu
        obtain ⟨hj', hw'⟩ := List.getElem?_eq_some_iff.mp hw
        have z := hs i j hi' hj' hij n' m' (by rw [hu']; exact tupI_of ru en) (by rw [hw']; exact tupI_of rw_ em)
        have mi : l'[i] ∈ l := p1.symm.mem_iff.mp (List.getElem_mem hi)
        have mj : l'[j] ∈ l := p1.symm.mem_iff.mp (List.getElem_mem hj)
        obtain ⟨n1, a1, a2⟩ := hall _ mi
        obtain ⟨m1, b1, b2⟩ := hall _ mj
        obtain rfl := Option.some.inj (a1.symm.trans en)
        obtain rfl := Option.some.inj (b1.symm.trans em)
        exact rk_lex (a2.trans b2.symm) (hB _ (List.mem_filterMap.mpr ⟨_, mi, a1⟩)) (hB _ (List.mem_filterMap.mpr ⟨_, mj, b1⟩)) z
    | _ => simp only [e] at h
  · exact h.elim
end DL
set_option maxRecDepth 100000
namespace DL
open PySem PySem.Spec PyProof.Rows L2
/-! ### str(int), f'..' , tuple(..), enumerate(list) -/
def Sm (i : Int) : Prop := i.natAbs.log2 < 1920
def strOf : DFn := fun xs S P => match xs with
  | [.int i] => Sm i ∧ P (.str (toString i)) S
  | _ => False
theorem calld_str {K : PySem.W.Frag} : CallD K (fun xs H Q => ∃ i, xs = [V.int i] ∧ i.natAbs.log2 < 1920 ∧ Q (.str (toString i)) H) strOf := by
  intro M mu H S xs vs P Q ok r h n
  unfold strOf at h
  split at h
  · rename_i i
    obtain ⟨v, rfl, rv⟩ := r.one
    obtain rfl : v = .int i := rv
    exact ⟨i, rfl, h.1, n _ H (.str _) S (.refl _ _) ok rfl h.2⟩
  · exact h.elim
/-- tuple(list), tuple(tuple) -/
def tupOf : DFn := fun xs S P => match xs with
  | [x] => (match val S x with
    | .lst l => P (.tup l) S
    | .tup l => isK x = false ∧ P (.tup l) S
    | _ => False)
  | _ => False
theorem calld_tuple {K : PySem.W.Frag} : CallD K (fun xs H Q => ∃ p ys, xs = [.ref p] ∧ ((SqL K H p ys ∧ ∀ l, H l = none → Q (.ref l) (upd H l (.tup ys))) ∨ (SqT K H p ys ∧ Q (.ref p) H))) tupOf := by
  intro M mu H S xs vs P Q ok r h n
  unfold tupOf at h
  split at h
  · rename_i x
    obtain ⟨v, rfl, rv⟩ := r.one
    cases e : val S x with
    | lst l =>
      simp only [e] at h
      obtain ⟨a, ys, rfl, ha, ry⟩ := seq_lst ok rv e
      refine ⟨a, ys, rfl, .inl ⟨SqL.of ha, fun p hp => ?_⟩⟩
      obtain ⟨ok2, k2, _⟩ := ok.alloc hp (.tup ys)
      exact n _ _ _ S k2 ok2 (newT ok hp ry) h
    | tup l =>
      simp only [e] at h
      cases x with
      | tup l' =>
        obtain rfl : l' = l := by simpa [val] using e
        obtain ⟨a, ys, rfl, ha, ry⟩ := rv
        exact ⟨a, ys, rfl, .inr ⟨SqT.of ha, n _ H (.tup l') S (.refl _ _) ok ⟨a, ys, rfl, ha, ry⟩ h.2⟩⟩
      | ktp _ => cases h.1
      | loc j =>
        obtain ⟨a, h1, h2⟩ := rv
        exact (show False from ok.at_ j a _ h2 (val_loc e (by simp))).elim
      | _ => simp [val] at e
    | _ => simp only [e] at h
  · exact h.elim
/-! f-strings -/
def fmtD (x : D) (S : Sto) (P : Str → Sto → Prop) : Prop := match x with
  | .str y => y.length ≤ 1000000 ∧ P y S
  | .int i => Sm i ∧ P (toString i) S
  | _ => False
def wFmt (we : DW) : DW := fun ρ S P E => we ρ S (fun x S1 => fmtD x S1 fun y S2 => P (.str y) S2) E
theorem de_fmt {X : Cx} {W : WX} {e : Expr} {we : DW} {pos : Pos} (he : DE X W e we) : DE X W (.FormattedValue e (-1) none pos) (wFmt we) := by
  obtain ⟨_, p, r⟩ := he.ex
  refine ⟨_, pe_fmt p, ⟨fun M mu σ ρ S H P E Q ok en hw n x => ?_⟩⟩
  refine r.run M mu σ ρ S H _ E _ ok en hw (fun v H1 d S1 k1 ok1 r1 h1 => ?_) x
  cases d with
  | str y =>
    obtain rfl : v = .str y := r1
    exact .inl ⟨y, rfl, line_of h1.1, n _ H1 (.str y) S1 k1 ok1 rfl h1.2⟩
  | int i =>
    obtain rfl : v = .int i := r1
    exact .inr ⟨i, rfl, h1.1, n _ H1 (.str _) S1 k1 ok1 rfl h1.2⟩
  | _ => exact h1.elim
/-! enumerate -/
def enumD (ds : List D) : List D := (List.range ds.length).map fun i => .tup [.int (i : Nat), ds.getD i .non]
def wiEnum (w : DWA) : DWI := fun ρ S P E => w ρ S (fun xs S1 => match xs with
  | [.lst ds] => P (enumD ds) none S1
  | [.loc i] => (match val S1 (.loc i) with
    | .lst ds => P (enumD ds) (some (i, ds)) S1
    | _ => False)
  | _ => False) E
theorem itOk_enumL {K : PySem.W.Frag} {M : Addr → Prop} {mu : List Addr} {H : Hp} {a : Addr} {j : Nat} {ds : List D} (h : mu[j]? = some a) : ItOk K (Ite K a) M mu H (enumD ds) (some (j, ds)) := fun M' mu' H' S' ex ok hs i => by
  obtain ⟨vs, h', r'⟩ : Cl K M' mu' H' (.lst ds) a := ok.at_ j a _ (ex.toExt0.at_ h) hs
  have hl : (enumD ds).length = ds.length := by simp [enumD]
  refine ⟨fun d hd => ?_, fun hi => ⟨vs, SqL.of h', by rw [← r'.len, ← hl]; exact hi⟩⟩
  have hi : i < ds.length := by rw [← hl]; exact (List.getElem?_eq_some_iff.mp hd).1
  have e1 : ds[i]? = some (ds.getD i .non) := by rw [List.getD_eq_getElem?_getD, List.getElem?_eq_getElem hi]; rfl
  have e2 : d = .tup [.int (i : Nat), ds.getD i .non] := by
    unfold enumD at hd
    rw [List.getElem?_map, List.getElem?_range hi] at hd
    exact (Option.some.inj hd).symm
  obtain ⟨v, hv, rv⟩ := r'.get e1
  refine ⟨⟨vs, v, SqL.of h', hv⟩, fun x H2 y => ?_⟩
  obtain ⟨T, z, rfl, nT, rfl, hz⟩ := y
  obtain rfl : v = z := Option.some.inj (hv.symm.trans (hz vs (SqL.of h')))
  rw [e2]
  exact new2 ok nT rfl rv
theorem itOk_enum {K : PySem.W.Frag} {M : Addr → Prop} {mu : List Addr} {H : Hp} {a : Addr} {vs : List V} {ds : List D} (hm : ¬ M a) (ha : H a = some (.lst vs)) (r : Rs K M mu H ds vs) : ItOk K (Ite K a) M mu H (enumD ds) none := fun M' mu' H' S' ex ok _ i => by
  have h' := (ex.toExt0.okM hm ha).2
  have r' := Rs.mono ex.toExt0 _ _ r
  have hl : (enumD ds).length = ds.length := by simp [enumD]
  refine ⟨fun d hd => ?_, fun hi => ⟨vs, SqL.of h', by rw [← r.len, ← hl]; exact hi⟩⟩
  have hi : i < ds.length := by rw [← hl]; exact (List.getElem?_eq_some_iff.mp hd).1
  have e1 : ds[i]? = some (ds.getD i .non) := by rw [List.getD_eq_getElem?_getD, List.getElem?_eq_getElem hi]; rfl
  have e2 : d = .tup [.int (i : Nat), ds.getD i .non] := by
    unfold enumD at hd
    rw [List.getElem?_map, List.getElem?_range hi] at hd
    exact (Option.some.inj hd).symm
  obtain ⟨v, hv, rv⟩ := r'.get e1
  refine ⟨⟨vs, v, SqL.of h', hv⟩, fun x H2 y => ?_⟩
  obtain ⟨T, z, rfl, nT, rfl, hz⟩ := y
  obtain rfl : v = z := Option.some.inj (hv.symm.trans (hz vs (SqL.of h')))
  rw [e2]
  exact new2 ok nT rfl rv
theorem di_enum {X : Cx} {W : WX} {e : Expr} {w : DWA} {p pos tpos : Pos} {elts : List Expr} {kk : Nat} (hg : Gl X "enumerate") (hm : X.mg "enumerate" = none) (ha : DA X W [e] w) (hs : starEach [e] X.env = [(false, eval e X.env)] := by rfl) :
    DI X W (.Tuple elts kk tpos) (.Call (.Name "enumerate" p) [e] [] pos) (wiEnum w) := by
  obtain ⟨_, pa, ra⟩ := ha.ex
  refine ⟨_, pi_enum hg hm pa hs, ⟨fun M mu σ ρ S H P E Q ok en hw n x => ?_⟩⟩
  refine ra.run M mu σ ρ S H _ E _ ok en hw (fun vs H1 ds S1 k1 ok1 r1 h1 => ?_) x
  split at h1
  · rename_i l
    obtain ⟨v, rfl, a, ys, rfl, hm1, ha1, rr⟩ := r1.one
    exact ⟨a, ys, rfl, SqL.of ha1, n _ H1 _ none S1 k1 ok1 (itOk_enum hm1 ha1 rr) True.intro h1⟩
  · rename_i i
    obtain ⟨v, rfl, rv⟩ := r1.one
    cases q : val S1 (.loc i) with
    | lst ds =>
      simp only [q] at h1
      obtain ⟨a, rfl, ha⟩ := rv
      obtain ⟨vs, h3, h4⟩ : Cl X.K M mu H1 (.lst ds) a := ok1.at_ i a _ ha (val_loc q (by simp))
      exact ⟨a, vs, rfl, SqL.of h3, n _ H1 _ (some (i, ds)) S1 k1 ok1 (itOk_enumL ha) (val_loc q (by simp)) h1⟩
    | _ => simp only [q] at h1
  · exact h1.elim
end DL
namespace DL
open PySem PySem.Spec PyProof.Rows L2
/-! f'..{}..' of two parts or more -/
def wJs : List DW → Str → Loc → Sto → (Str → Sto → Prop) → Ex → Prop
  | [], acc, _, S, P, _ => P acc S
  | w :: ws, acc, ρ, S, P, E => w ρ S (fun x S1 => match x with
    | .str y => (acc ++ y).length ≤ 1000000 ∧ wJs ws (acc ++ y) ρ S1 P E
    | _ => False) E
inductive DJ (X : Cx) (W : WX) : List Expr → List DW → Prop where
  | nil : DJ X W [] []
  | cons {e : Expr} {w : DW} {es : List Expr} {ws : List DW} (h : DE X W e w) (r : DJ X W es ws) : DJ X W (e :: es) (w :: ws)
theorem dj_ex {X : Cx} {W : WX} {es : List Expr} {ws : List DW} (h : DJ X W es ws) : ∃ ts, PJ X es ts ∧ ∀ (M : Addr → Prop) (mu : List Addr) (σ : L2.St) (ρ : Loc) (S : Sto) (H : Hp) (acc : Str) (P : Str → Sto → Prop) (E : Ex) (Q : Str → Hp → Prop), Wok X.K M mu H S → Env X.K M mu H ρ σ → wJs ws acc ρ S P E →
    (∀ y H' S', Keep mu H H' → Wok X.K M mu H' S' → P y S' → Q y H') → Exc X.K M mu H E (fun C d H' => W C d σ H') → tJs ts acc σ H Q := by
  induction h with
  | nil => exact ⟨[], .nil, fun M mu σ ρ S H acc P E Q ok en hw n x => n acc H S (.refl _ _) ok hw⟩
  | @cons e w es ws he r ih =>
    obtain ⟨t, pt, rt⟩ := he.ex
    obtain ⟨ts, ps, rs⟩ := ih
    refine ⟨t :: ts, .cons pt ps, fun M mu σ ρ S H acc P E Q ok en hw n x => ?_⟩
    refine rt.run M mu σ ρ S H _ E _ ok en hw (fun v H1 d S1 k1 ok1 r1 h1 => ?_) x
    cases d with
    | str y =>
      obtain rfl : v = .str y := r1
      exact ⟨y, rfl, line_of h1.1, rs M mu σ ρ S1 H1 (acc ++ y) P E Q ok1 (en.keep ok k1) h1.2 (fun z H2 S2 k2 => n z H2 S2 (k1.trans k2)) (x.mono k1)⟩
    | _ => exact h1.elim
def wFs (ws : List DW) : DW := fun ρ S P E => wJs ws Str.empty ρ S (fun y S1 => P (.str y) S1) E
theorem de_fs {X : Cx} {W : WX} {v1 v2 : Expr} {rest : List Expr} {ws : List DW} {pos : Pos} (h : DJ X W (v1 :: v2 :: rest) ws) : DE X W (.JoinedStr (v1 :: v2 :: rest) pos) (wFs ws) := by
  obtain ⟨ts, ps, rs⟩ := dj_ex h
  exact ⟨_, pe_joined ps, ⟨fun M mu σ ρ S H P E Q ok en hw n x => rs M mu σ ρ S H _ _ E _ ok en hw (fun y H' S' k ok' h' => n _ H' (.str y) S' k ok' rfl h') x⟩⟩
end DL
set_option maxRecDepth 100000
namespace DL
open PySem PySem.Spec PyProof.Rows L2
/-! the combinators of DL14..DL27 applied -/
theorem wsNever_ap  {z0} {z1} {z2} : wsNever  z0 z1 z2 = (False) := rfl
theorem wNever_ap  {z0} {z1} {z2} {z3} : wNever  z0 z1 z2 z3 = (False) := rfl
theorem wFr_ap  {w : DWA} {ρ} {S} {P} {E} : wFr w ρ S P E = (w ρ S (fun ds S1 => P (.loc S1.length) (S1 ++ [.lst ds])) E) := rfl
theorem wFLst_ap  {w : DWA} {ρ} {S} {P} {E} : wFLst w ρ S P E = (w ρ S (fun ds S1 => ds.length ≤ 1000000 ∧ P ds S1) E) := rfl
theorem wFList_ap  {w : DWA} {ρ} {S} {P} {E} : wFList w ρ S P E = (w ρ S (fun xs S1 => match xs with
  | [x] => (match val S1 x with
    | .lst ds => P ds S1
    | .tup ds => P ds S1
    | _ => False)
  | _ => False) E) := rfl
theorem wFAdd_ap  {wa wb : DW} {ρ} {S} {P} {E} : wFAdd wa wb ρ S P E = (wa ρ S (fun x S1 => wb ρ S1 (fun y S2 => match val S2 x, val S2 y with
  | .lst a, .lst b => a.length + b.length ≤ 1000000 ∧ P (a ++ b) S2
  | _, _ => False) E) E) := rfl
theorem wBM_ap  {T : String} {f : DFm} {wo : DW} {w : DWA} {ρ} {S} {P} {E} : wBM T f wo w ρ S P E = (wo ρ S (fun x S1 => rcv T S1 x ∧ w ρ S1 (fun xs S2 => f x xs S2 P) E) E) := rfl
theorem wBM0_ap  {T : String} {f : DFm} {wo : DW} {ρ} {S} {P} {E} : wBM0 T f wo ρ S P E = (wo ρ S (fun x S1 => rcv T S1 x ∧ f x [] S1 P) E) := rfl
theorem wDGet_ap  {wo wk : DW} {ρ} {S} {P} {E} : wDGet wo wk ρ S P E = (wo ρ S (fun x S1 => wk ρ S1 (fun y S2 => entT x y S2 P) E) E) := rfl
theorem wDGet2_ap  {wo wk wd : DW} {ρ} {S} {P} {E} : wDGet2 wo wk wd ρ S P E = (wo ρ S (fun x S1 => isDt S1 x ∧ wk ρ S1 (fun y S2 => wd ρ S2 (fun z S3 => dflT x y z S3 P) E) E) E) := rfl
theorem wsDPut_ap  {we wo wk : DW} {Y} {ρ} {S} : wsDPut we wo wk Y ρ S = (we ρ S (fun d S1 => wo ρ S1 (fun x S2 => wk ρ S2 (fun y S3 => match x, tkOf y with
  | .loc i, some k => (match val S3 (.loc i) with
    | .dt es => es.length < 1000000 ∧ Y.nx ρ (S3.set i (.dt (putT es k d)))
    | _ => False)
  | _, _ => False) Y.ex) Y.ex) Y.ex) := rfl
theorem wNewT_ap  {z0} {S} {P} {z3} : wNewT  z0 S P z3 = (P (.loc S.length) (S ++ [.dt []])) := rfl
theorem wsRetire_ap  {v : Nat} {w : DWS} {Y} {ρ} {S} : wsRetire v w Y ρ S = (match ρ[v]? with
  | some (some (.loc i)) => (match S[i]? with
    | some (.dt es) => w Y (ρ.set v (some (.dt es))) (S.set i .non)
    | _ => False)
  | _ => False) := rfl
theorem wiKeysT_ap  {w : DW} {ρ} {S} {P} {E} : wiKeysT w ρ S P E = (w ρ S (fun d S1 => match d with
  | .dt es => P (keysT es) none S1
  | _ => False) E) := rfl
theorem wDcT_ap  {wi : DWI} {g : DWG} {tt : DWT} {tk tv : DW} {vs : List Nat} {ρ} {S} {P} {E} : wDcT wi g tt tk tv vs ρ S P E = (wi ρ S (fun items src S1 => (match src with
  | none => True
  | some _ => False) ∧ dcW g tt tk tv (wD ρ vs) (fun es S2 => P (.dt es) S2) items [] S1) E) := rfl
theorem wFld_ap  {C : Addr} {f : Str} {wo : DW} {ρ} {S} {P} {E} : wFld C f wo ρ S P E = (wo ρ S (fun x S1 => fldD C f x S1 P) E) := rfl
theorem wsFld_ap  {C : Addr} {f : Str} {wo we : DW} {Y} {ρ} {S} : wsFld C f wo we Y ρ S = (we ρ S (fun d S1 => wo ρ S1 (fun x S2 => match x with
  | .loc i => (match val S2 (.loc i) with
    | .obj C' fs => C' = C ∧ fs.length < 900 ∧ Y.nx ρ (S2.set i (.obj C (putFD f d fs)))
    | _ => False)
  | _ => False) Y.ex) Y.ex) := rfl
theorem wMake_ap  {C : Addr} {sp : DSp} {n m : Nat} {g : List D → List D → List D → List D} {w wk : DWA} {ρ} {S} {P} {E} : wMake C sp n m g w wk ρ S P E = (w ρ S (fun ds S1 => wk ρ S1 (fun es S2 => ds.length = n ∧ es.length = m ∧ makeD C sp (fun self => g self ds es) S2 P) E) E) := rfl
theorem wMeth_ap  {C : Addr} {m : Str} {sp : DSp} {wo : DW} {w : DWA} {ρ} {S} {P} {E} : wMeth C m sp wo w ρ S P E = (wo ρ S (fun x S1 => recvD C m x S1 ∧ w ρ S1 (fun ds S2 => sp (x :: ds) S2 P EF) E) E) := rfl
theorem wDictPT_ap  {w : DWA} {ρ} {S} {P} {E} : wDictPT w ρ S P E = (w ρ S (fun xs S1 => match xs with
  | [x] => (match val S1 x with
    | .lst l => (match pairsT l with
      | some ps => P (.dt (putAllT ps [])) S1
      | none => False)
    | _ => False)
  | _ => False) E) := rfl
theorem wTruOwn_ap  {C : Addr} {sp : DSp} {we : DW} {ρ} {S} {P} {E} : wTruOwn C sp we ρ S P E = (we ρ S (fun x S1 => isObjD C S1 x ∧ sp [x] S1 (truP P) EF) E) := rfl
theorem wFmt_ap  {we : DW} {ρ} {S} {P} {E} : wFmt we ρ S P E = (we ρ S (fun x S1 => fmtD x S1 fun y S2 => P (.str y) S2) E) := rfl
theorem wFs_ap  {ws : List DW} {ρ} {S} {P} {E} : wFs ws ρ S P E = (wJs ws Str.empty ρ S (fun y S1 => P (.str y) S1) E) := rfl
theorem wiEnum_ap  {w : DWA} {ρ} {S} {P} {E} : wiEnum w ρ S P E = (w ρ S (fun xs S1 => match xs with
  | [.lst ds] => P (enumD ds) none S1
  | [.loc i] => (match val S1 (.loc i) with
    | .lst ds => P (enumD ds) (some (i, ds)) S1
    | _ => False)
  | _ => False) E) := rfl
theorem wJs_nil {acc : Str} {ρ : Loc} {S : Sto} {P : Str → Sto → Prop} {E : Ex} : wJs [] acc ρ S P E = P acc S := rfl
theorem wJs_cons {w : DW} {ws : List DW} {acc : Str} {ρ : Loc} {S : Sto} {P : Str → Sto → Prop} {E : Ex} : wJs (w :: ws) acc ρ S P E = (w ρ S (fun x S1 => match x with
    | .str y => (acc ++ y).length ≤ 1000000 ∧ wJs ws (acc ++ y) ρ S1 P E
    | _ => False) E) := rfl
theorem dcW_nil {g : DWG} {tt : DWT} {tk tv : DW} {ρ : Loc} {P : TD → Sto → Prop} {acc : TD} {S : Sto} : dcW g tt tk tv ρ P [] acc S = P acc S := rfl
theorem units2 {k : Nat} {A : Around} (r : Room k A) : A.units + 66 < cLine := by have := r.un; omega
end DL
set_option maxRecDepth 100000
namespace DL
open PySem PySem.Spec PyProof.Rows L2
/-! ### tables of places, in plain Lean -/
abbrev Pl := Int × Int
abbrev Tab := List (Pl × Int)
def kP (p : Pl) : List Key := [.inl p.1, .inl p.2]
def encT (t : Tab) : TD := t.map fun e => (kP e.1, D.int e.2)
def tget (t : Tab) (p : Pl) : Option Int := (t.find? fun e => decide (e.1 = p)).map (·.2)
def tput (t : Tab) (p : Pl) (c : Int) : Tab := if (t.any fun e => decide (e.1 = p)) = true then t.map (fun e => if e.1 = p then (e.1, c) else e) else t ++ [(p, c)]
theorem kP_inj {p q : Pl} : kP p = kP q ↔ p = q := by
  obtain ⟨a, b⟩ := p
  obtain ⟨c, d⟩ := q
  simp [kP]
theorem look_enc (p : Pl) : ∀ t : Tab, lookT (encT t) (kP p) = (tget t p).map D.int
  | [] => rfl
  | e :: t => by
    have ih := look_enc p t
    unfold lookT tget at ih ⊢
    unfold encT at ih ⊢
    rw [List.map_cons, List.find?_cons, List.find?_cons]
    by_cases h : e.1 = p
    · simp [h]
    · have h' : ¬ kP e.1 = kP p := fun z => h (kP_inj.mp z)
      simp only [h, h', decide_false]
      exact ih
theorem put_enc (t : Tab) (p : Pl) (c : Int) : putT (encT t) (kP p) (.int c) = encT (tput t p c) := by
  have ha : ((encT t).any fun e => decide (e.1 = kP p)) = (t.any fun e => decide (e.1 = p)) := by
    unfold encT
    rw [List.any_map]
    congr 1
    funext e
    show decide (kP e.1 = kP p) = decide (e.1 = p)
    exact decide_eq_decide.mpr kP_inj
  unfold putT tput
  rw [ha]
  by_cases q : (t.any fun e => decide (e.1 = p)) = true
  · rw [if_pos q, if_pos q]
    unfold encT
    rw [List.map_map, List.map_map]
    refine List.map_congr_left fun e _ => ?_
    show (if kP e.1 = kP p then _ else _) = _
    by_cases h : e.1 = p
    · rw [if_pos (kP_inj.mpr h)]
      show _ = (fun e : Pl × Int => (kP e.1, D.int e.2)) (if e.1 = p then (e.1, c) else e)
      rw [if_pos h]
    · rw [if_neg (fun z => h (kP_inj.mp z))]
      show _ = (fun e : Pl × Int => (kP e.1, D.int e.2)) (if e.1 = p then (e.1, c) else e)
      rw [if_neg h]
  · rw [if_neg q, if_neg q]
    unfold encT
    rw [List.map_append]
    rfl
theorem len_enc (t : Tab) : (encT t).length = t.length := by simp [encT]
theorem keys_enc (t : Tab) : keysT (encT t) = t.map fun e => .tup [.int e.1.1, .int e.1.2] := by
  unfold keysT encT
  rw [List.map_map]
  rfl
def TOk (t : Tab) : Prop := (t.map (·.1)).Nodup
theorem tget_none {t : Tab} {p : Pl} (h : (t.any fun e => decide (e.1 = p)) = false) : tget t p = none := by
  unfold tget
  rw [List.find?_eq_none.mpr fun e he => ?_]
  · rfl
  · have := List.any_eq_false.mp h e he
    simpa using this
theorem any_iff {t : Tab} {p : Pl} : (t.any fun e => decide (e.1 = p)) = true ↔ p ∈ t.map (·.1) := by
  rw [List.any_eq_true, List.mem_map]
  constructor
  · rintro ⟨e, h1, h2⟩
    exact ⟨e, h1, of_decide_eq_true h2⟩
  · rintro ⟨e, h1, h2⟩
    exact ⟨e, h1, decide_eq_true h2⟩
theorem tok_put {t : Tab} (h : TOk t) (p : Pl) (c : Int) : TOk (tput t p c) := by
  unfold TOk tput at *
  by_cases q : (t.any fun e => decide (e.1 = p)) = true
  · rw [if_pos q, List.map_map]
    have e : ((fun e : Pl × Int => e.1) ∘ fun e => if e.1 = p then (e.1, c) else e) = fun e => e.1 := by
      funext e
      show (if e.1 = p then (e.1, c) else e).1 = e.1
      split <;> rfl
    rw [e]
    exact h
  · rw [if_neg q, List.map_append, List.nodup_append]
    refine ⟨h, by simp, fun a ha b hb e => q (any_iff.mpr ?_)⟩
    have : b = p := by simpa using hb
    rw [← this, ← e]
    exact ha
theorem tget_put (t : Tab) (p q : Pl) (c : Int) : tget (tput t p c) q = if q = p then some c else tget t q := by
  unfold tput
  by_cases a : (t.any fun e => decide (e.1 = p)) = true
  · rw [if_pos a]
    induction t with
    | nil => simp at a
    | cons e t ih =>
      unfold tget at ih ⊢
      rw [List.map_cons, List.find?_cons, List.find?_cons]
      by_cases h : e.1 = p
      · rw [if_pos h]
        by_cases hq : q = p
        · subst hq; simp [h]
        · have h1 : ¬ e.1 = q := fun z => hq (z.symm.trans h)
          simp only [h1, decide_false, if_neg hq]
          by_cases a' : (t.any fun e => decide (e.1 = p)) = true
          · have := ih a'
            rw [if_neg hq] at this
            exact this
          · have e2 : (t.map fun e => if e.1 = p then (e.1, c) else e) = t := by
              refine (List.map_congr_left fun x hx => ?_).trans (List.map_id t)
              rw [if_neg fun z => a' (any_iff.mpr (List.mem_map.mpr ⟨x, hx, z⟩))]
              rfl
            rw [e2]
      · rw [if_neg h]
        by_cases hq : e.1 = q
        · have hqp : ¬ q = p := fun z => h (hq.trans z)
          simp [hq, hqp]
        · simp only [hq, decide_false]
          rw [List.any_cons, decide_eq_false h, Bool.false_or] at a
          exact ih a
  · rw [if_neg a]
    have hn := tget_none (Bool.eq_false_iff.mpr a)
    unfold tget at hn ⊢
    rw [List.find?_append]
    by_cases hq : q = p
    · subst hq
      rw [if_pos rfl]
      have : t.find? (fun e => decide (e.1 = q)) = none := by simpa using hn
      rw [this]
      simp
    · rw [if_neg hq]
      cases t.find? (fun e => decide (e.1 = q)) with
      | some y => rfl
      | none =>
        have hz : ¬ p = q := fun z => hq z.symm
        simp [hz]
theorem tget_mem {t : Tab} (h : TOk t) {e : Pl × Int} (he : e ∈ t) : tget t e.1 = some e.2 := by
  unfold TOk at h
  induction t with
  | nil => cases he
  | cons x t ih =>
    rw [List.map_cons, List.nodup_cons] at h
    unfold tget at ih ⊢
    rw [List.find?_cons]
    rcases List.mem_cons.mp he with z | z
    · subst z; simp
    · have hx : ¬ x.1 = e.1 := fun q => h.1 (by rw [q]; exact List.mem_map_of_mem z)
      simp only [hx, decide_false]
      exact ih h.2 z
/-- a colour as the ink leaves it -/
def tally (rows : List (Pl × Int)) (t : Tab) : Tab := rows.foldl (fun t r => tput t r.1 ((tget t r.1).getD 0 + r.2)) t
/-- what is left of a table -/
def leaves (f : Int → Int) (t : Tab) : Tab := t.filterMap fun e => if f e.2 = 0 then none else some (e.1, f e.2)
theorem tok_tally : ∀ (rows : List (Pl × Int)) {t : Tab}, TOk t → TOk (tally rows t)
  | [], _, h => h
  | r :: rows, t, h => tok_tally rows (tok_put h _ _)
theorem tok_leaves {f : Int → Int} : ∀ {t : Tab}, TOk t → TOk (leaves f t)
  | [], _ => List.nodup_nil
  | e :: t, h => by
    unfold TOk at h
    rw [List.map_cons, List.nodup_cons] at h
    have ih : TOk (leaves f t) := tok_leaves h.2
    unfold leaves at ih ⊢
    rw [List.filterMap_cons]
    by_cases q : f e.2 = 0
    · rw [if_pos q]
      exact ih
    · rw [if_neg q]
      show ((_ :: _ : Tab).map (·.1)).Nodup
      rw [List.map_cons, List.nodup_cons]
      refine ⟨fun z => h.1 ?_, ih⟩
      obtain ⟨y, hy, e1⟩ := List.mem_map.mp z
      obtain ⟨x, hx, e2⟩ := List.mem_filterMap.mp hy
      by_cases q2 : f x.2 = 0
      · rw [if_pos q2] at e2; cases e2
      · rw [if_neg q2] at e2
        obtain rfl := Option.some.inj e2
        exact List.mem_map.mpr ⟨x, hx, e1⟩
end DL
set_option maxRecDepth 100000
namespace DL
open PySem PySem.Spec PyProof.Rows L2
/-- the cell that a loop walks over is there -/
def srcOk (src : Src) (all : List D) (S : Sto) : Prop := match src with
  | none => True
  | some (j, l) => S[j]? = some (.lst l)
theorem for_inv2 {g : DWG} {tb : DWS} {Y : DEnds} {all : List D} {src : Src} (J : List D → Loc → Sto → Prop) (hk : ∀ xs ρ S, J xs ρ S → srcOk src all S)
    (hs : ∀ x xs ρ S, J (x :: xs) ρ S → ∀ nx : Loc → Sto → Prop, (∀ ρ' S', J xs ρ' S' → nx ρ' S') → g x S ρ fun ρ' => tb { Y with nx := nx, ct := nx, bk := Y.nx } ρ' S)
    (he : ∀ ρ S, J [] ρ S → Y.nx ρ S) : ∀ xs ρ S, J xs ρ S → forW g tb Y all src xs ρ S
  | [], ρ, S, h => ⟨hk _ _ _ h, he ρ S h⟩
  | x :: xs, ρ, S, h => ⟨hk _ _ _ h, hs x xs ρ S h _ fun ρ' S' h' => for_inv2 J hk hs he xs ρ' S' h'⟩
/-- what gives the items l, one after the other -/
def SeqD (x : D) (S : Sto) (l : List D) : Prop := x = .lst l ∨ x = .tup l ∨ x = .ktp l ∨ ∃ i, x = .loc i ∧ S[i]? = some (.lst l)
theorem wiSeq_of {w : DW} {ρ : Loc} {S : Sto} {x : D} {l : List D} {P : List D → Src → Sto → Prop} {E : Ex} (hw : ∀ Q : DK, Q x S → w ρ S Q E) (h : SeqD x S l) (hp : ∀ src, srcOk src l S → P l src S) : wiSeq w ρ S P E := by
  refine hw _ ?_
  rcases h with rfl | rfl | rfl | ⟨i, rfl, e⟩
  · exact hp none True.intro
  · exact hp none True.intro
  · exact hp none True.intro
  · show (match val S (.loc i) with
      | .lst ds => P ds (some (i, ds)) S
      | _ => False)
    rw [val_at e]
    exact hp (some (i, l)) e
/-- handed back behind own cells -/
theorem rt_new {S T : Sto} {P : DK} {E : Ex} {d : D} (hS : S.all (lo S.length) = true) (hd : thw S.length (S ++ T) d = some d) (h : P d S) : (endsOf S.length P E).rt d (S ++ T) := by
  have e : (S ++ T).take S.length = S := List.take_left
  exact .inr ⟨d, hd, by rw [e]; exact hS, by rw [e]; exact h⟩
theorem set_last {S : Sto} {c d : D} : (S ++ [c]).set S.length d = S ++ [d] := by
  rw [List.set_append_right _ _ (Nat.le_refl _), Nat.sub_self]
  rfl
theorem get_last {S : Sto} {c : D} : (S ++ [c])[S.length]? = some c := by simp
theorem val_lastT {S : Sto} {es : TD} : val (S ++ [.dt es]) (.loc S.length) = .dt es := by
  show cont ((S ++ [D.dt es]).getD S.length .non) (.loc S.length) = _
  rw [List.getD_eq_getElem?_getD, get_last]
  rfl
theorem lot_enc (n : Nat) : ∀ t : Tab, lot n (encT t) = true
  | [] => rfl
  | e :: t => by
    show (true && lot n (encT t)) = true
    rw [lot_enc n t]
    rfl
def rowD (r : Pl × Int) : D := .tup [.int r.1.1, .int r.1.2, .int r.2]
theorem tk_pl (a b : Int) : tkOf (.tup [.int a, .int b]) = some (kP (a, b)) := rfl
end DL
namespace DL
open PySem PySem.Spec PyProof.Rows L2
theorem getD_int (o : Option Int) : (o.map D.int).getD (.int 0) = .int (o.getD 0) := by cases o <;> rfl
theorem tput_len (t : Tab) (p : Pl) (c : Int) : (tput t p c).length ≤ t.length + 1 := by
  unfold tput
  split
  · rw [List.length_map]; omega
  · rw [List.length_append]; simp
theorem tput_new {t : Tab} {p : Pl} (c : Int) (h : p ∉ t.map (·.1)) : tput t p c = t ++ [(p, c)] := by
  unfold tput
  rw [if_neg fun z => h (any_iff.mp z)]
theorem src_last {S : Sto} {j : Nat} {all : List D} {es fs : TD} (e : (S ++ [D.dt es])[j]? = some (.lst all)) : (S ++ [D.dt fs])[j]? = some (.lst all) := by
  by_cases h : j < S.length
  · rw [List.getElem?_append_left h] at e ⊢
    exact e
  · rw [List.getElem?_append_right (by omega)] at e
    cases q : j - S.length with
    | zero => rw [q] at e; cases e
    | succ k => rw [q] at e; cases e
def plD (p : Pl) : D := .tup [.int p.1, .int p.2]
theorem tk_plD (p : Pl) : tkOf (plD p) = some (kP p) := rfl
theorem keys_encP (t : Tab) : keysT (encT t) = t.map fun e => plD e.1 := keys_enc t
end DL
namespace DL
open PySem PySem.Spec PyProof.Rows L2
theorem retire_of {v i : Nat} {w : DWS} {Y : DEnds} {ρ : Loc} {S : Sto} {es : TD} (h1 : ρ[v]? = some (some (.loc i))) (h2 : S[i]? = some (.dt es)) : wsRetire v w Y ρ S = w Y (ρ.set v (some (.dt es))) (S.set i .non) := by
  unfold wsRetire
  rw [h1]
  show (match S[i]? with
    | some (.dt es) => w Y (ρ.set v (some (.dt es))) (S.set i .non)
    | _ => False) = _
  rw [h2]
theorem dcW_leaves {i : Nat} {tt : DWT} {tk tv : DW} {ρ : Loc} {P : TD → Sto → Prop} {S : Sto} (f : Int → Int) (T : Tab) (htt : ∀ e ∈ T, ∀ Q : Bool → Sto → Prop, Q (!decide (f e.2 = 0)) S → tt (ρ.set i (some (plD e.1))) S Q EF)
    (htk : ∀ e ∈ T, ∀ Q : DK, Q (plD e.1) S → tk (ρ.set i (some (plD e.1))) S Q EF) (htv : ∀ e ∈ T, ∀ Q : DK, Q (.int (f e.2)) S → tv (ρ.set i (some (plD e.1))) S Q EF) :
    ∀ (R acc : Tab), (∀ e ∈ R, e ∈ T) → (R.map (·.1)).Nodup → (∀ e ∈ R, e.1 ∉ acc.map (·.1)) → acc.length + R.length < 1000000 → P (encT (acc ++ leaves f R)) S → dcW (wgName i) tt tk tv ρ P (R.map fun e => plD e.1) (encT acc) S
  | [], acc, _, _, _, _, h => by
    have e : acc ++ leaves f [] = acc := by simp [leaves]
    rw [e] at h
    exact h
  | e :: R, acc, hm, hn, hd, hl, h => by
    rw [List.map_cons, List.nodup_cons] at hn
    rw [List.length_cons] at hl
    have he := hm e (List.mem_cons_self ..)
    refine htt e he _ ?_
    by_cases q : f e.2 = 0
    · rw [decide_eq_true q]
      refine dcW_leaves f T htt htk htv R acc (fun x hx => hm x (List.mem_cons_of_mem _ hx)) hn.2 (fun x hx => hd x (List.mem_cons_of_mem _ hx)) (by omega) ?_
      have e1 : leaves f (e :: R) = leaves f R := by
        unfold leaves
        rw [List.filterMap_cons, if_pos q]
      rw [e1] at h
      exact h
    · rw [decide_eq_false q]
      refine htk e he _ (htv e he _ ⟨by rw [len_enc]; omega, ?_⟩)
      have e1 : leaves f (e :: R) = (e.1, f e.2) :: leaves f R := by
        unfold leaves
        rw [List.filterMap_cons, if_neg q]
      have e2 : putT (encT acc) (kP e.1) (.int (f e.2)) = encT (acc ++ [(e.1, f e.2)]) := by
        rw [put_enc, tput_new _ (hd e (List.mem_cons_self ..))]
      show dcW (wgName i) tt tk tv ρ P (R.map fun e => plD e.1) (putT (encT acc) (kP e.1) (.int (f e.2))) S
      rw [e2]
      refine dcW_leaves f T htt htk htv R _ (fun x hx => hm x (List.mem_cons_of_mem _ hx)) hn.2 (fun x hx z => ?_) (by rw [List.length_append, List.length_singleton]; omega) ?_
      · rw [List.map_append, List.mem_append] at z
        rcases z with z | z
        · exact hd x (List.mem_cons_of_mem _ hx) z
        · have e3 : x.1 = e.1 := by simpa using z
          exact hn.1 (by rw [← e3]; exact List.mem_map_of_mem hx)
      · rw [e1] at h
        rw [List.append_assoc]
        exact h
end DL
namespace DL
open PySem PySem.Spec PyProof.Rows L2
theorem lcW_filt {α : Type} {i : Nat} {tt : DWT} {te : DW} {ρ : Loc} {P : List D → Sto → Prop} {S : Sto} (g v : α → D) (b : α → Bool) (T : List α) (htt : ∀ e ∈ T, ∀ Q : Bool → Sto → Prop, Q (b e) S → tt (ρ.set i (some (g e))) S Q EF)
    (hte : ∀ e ∈ T, ∀ Q : DK, Q (v e) S → te (ρ.set i (some (g e))) S Q EF) : ∀ (R : List α) (acc : List D), (∀ e ∈ R, e ∈ T) → acc.length + R.length ≤ 1000000 → P (acc ++ (R.filter b).map v) S → lcW (wgName i) tt te ρ P (R.map g) acc S
  | [], acc, _, hl, h => ⟨by simpa using hl, by simpa using h⟩
  | e :: R, acc, hm, hl, h => by
    rw [List.length_cons] at hl
    refine ⟨by omega, ?_⟩
    refine htt e (hm e (List.mem_cons_self ..)) _ ?_
    cases q : b e with
    | false =>
      rw [List.filter_cons, q] at h
      exact lcW_filt g v b T htt hte R acc (fun x hx => hm x (List.mem_cons_of_mem _ hx)) (by omega) h
    | true =>
      rw [List.filter_cons, q] at h
      refine hte e (hm e (List.mem_cons_self ..)) _ ?_
      refine lcW_filt g v b T htt hte R (acc ++ [v e]) (fun x hx => hm x (List.mem_cons_of_mem _ hx)) (by rw [List.length_append, List.length_singleton]; omega) ?_
      rw [List.append_assoc]
      exact h
theorem pairs_leaves (f : Int → Int) : ∀ T : Tab, pairsT ((T.filter fun e => !decide (f e.2 = 0)).map fun e => .tup [plD e.1, .int (f e.2)]) = some (encT (leaves f T))
  | [] => rfl
  | e :: T => by
    have ih := pairs_leaves f T
    unfold leaves at ih ⊢
    rw [List.filter_cons, List.filterMap_cons]
    by_cases q : f e.2 = 0
    · rw [if_pos q, decide_eq_true q]
      exact ih
    · rw [if_neg q, decide_eq_false q]
      show (match tkOf (plD e.1), pairsT _ with
        | some q, some r => some ((q, D.int (f e.2)) :: r)
        | _, _ => none) = _
      rw [tk_plD, ih]
      rfl
theorem putAll_enc : ∀ (R acc : Tab), (R.map (·.1)).Nodup → (∀ e ∈ R, e.1 ∉ acc.map (·.1)) → putAllT (encT R) (encT acc) = encT (acc ++ R)
  | [], acc, _, _ => by rw [List.append_nil]; rfl
  | e :: R, acc, hn, hd => by
    rw [List.map_cons, List.nodup_cons] at hn
    show putAllT (encT R) (putT (encT acc) (kP e.1) (.int e.2)) = _
    rw [put_enc, tput_new _ (hd e (List.mem_cons_self ..)), putAll_enc R _ hn.2 (fun x hx z => ?_), List.append_assoc]
    · rfl
    · rw [List.map_append, List.mem_append] at z
      rcases z with z | z
      · exact hd x (List.mem_cons_of_mem _ hx) z
      · have e3 : x.1 = e.1 := by simpa using z
        exact hn.1 (by rw [← e3]; exact List.mem_map_of_mem hx)
theorem tally_len : ∀ (rs : List (Pl × Int)) (t : Tab), (tally rs t).length ≤ t.length + rs.length
  | [], t => Nat.le_refl _
  | r :: rs, t => by
    have h1 := tally_len rs (tput t r.1 ((tget t r.1).getD 0 + r.2))
    have h2 := tput_len t r.1 ((tget t r.1).getD 0 + r.2)
    rw [List.length_cons]
    exact Nat.le_trans h1 (by omega)
end DL
set_option maxRecDepth 100000
namespace DL
open PySem PySem.Spec PyProof.Rows L2
/-! ### a list == [] , told by the lengths alone -/
def rEmp (K : PySem.W.Frag) (neg : Bool) : R2 := fun x y H Q => ∃ a b xs ys, x = .ref a ∧ y = .ref b ∧ SqL K H a xs ∧ SqL K H b ys ∧ (xs.length = 0 ∨ ys.length = 0) ∧ Q (.bl (if neg then !decide (xs.length = ys.length) else decide (xs.length = ys.length))) H
theorem op_eqE {X : Cx} (hu : X.A.units + 64 < cLine) : OpR X (compareOp .Eq) (rEmp X.K false) := by
  intro pins s σ H x y v u Q I rx ry h
  obtain ⟨a, b, xs, ys, rfl, rfl, ha, hb, hz, q⟩ := h
  cases (show v = Value.ref a from rx)
  cases (show u = Value.ref b from ry)
  by_cases e : xs.length = ys.length
  · have e1 : xs = [] := List.eq_nil_of_length_eq_zero (by omega)
    have e2 : ys = [] := List.eq_nil_of_length_eq_zero (by omega)
    subst e1 e2
    exact op_eqD hu _ _ _ _ (.ref a) (.ref b) _ _ _ I rfl rfl ⟨.list [], .list [], .lst ha .nil, .lst hb .nil, rfl, rfl, q⟩
  · obtain ⟨us, r1, p1, _⟩ := I.list ha
    obtain ⟨ws, r2, p2, _⟩ := I.list hb
    refine SeqAt.RcAt.lists_lengths p1.isList p2.isList (by rw [List.size_toArray, List.size_toArray, ← r1.length, ← r2.length]; simpa using e) (by omega) X.prog X.w _ _ ?_
    rw [if_neg (by decide), decide_eq_false e] at q
    exact ⟨.bl false, H, I, rfl, q⟩
theorem op_neE {X : Cx} (hu : X.A.units + 64 < cLine) : OpR X (compareOp .NotEq) (rEmp X.K true) := by
  intro pins s σ H x y v u Q I rx ry h
  obtain ⟨a, b, xs, ys, rfl, rfl, ha, hb, hz, q⟩ := h
  cases (show v = Value.ref a from rx)
  cases (show u = Value.ref b from ry)
  by_cases e : xs.length = ys.length
  · have e1 : xs = [] := List.eq_nil_of_length_eq_zero (by omega)
    have e2 : ys = [] := List.eq_nil_of_length_eq_zero (by omega)
    subst e1 e2
    exact op_neD hu _ _ _ _ (.ref a) (.ref b) _ _ _ I rfl rfl ⟨.list [], .list [], .lst ha .nil, .lst hb .nil, rfl, rfl, q⟩
  · obtain ⟨us, r1, p1, _⟩ := I.list ha
    obtain ⟨ws, r2, p2, _⟩ := I.list hb
    refine SeqAt.RcNeAt.lists_lengths p1.isList p2.isList (by rw [List.size_toArray, List.size_toArray, ← r1.length, ← r2.length]; simpa using e) (by omega) X.prog X.w _ _ ?_
    rw [if_pos rfl, decide_eq_false e] at q
    exact ⟨.bl true, H, I, rfl, q⟩
def empD (neg : Bool) : DF2 := fun x y S P => match val S x, val S y with
  | .lst xs, .lst ys => (xs = [] ∨ ys = []) ∧ P (.bl (if neg then !decide (xs.length = ys.length) else decide (xs.length = ys.length))) S
  | _, _ => False
theorem opd_emp {K : PySem.W.Frag} {neg : Bool} : OpD K (rEmp K neg) (empD neg) := by
  intro M mu H S x y v u P Q ok rx ry h n
  unfold empD at h
  cases e1 : val S x with
  | lst xs =>
    cases e2 : val S y with
    | lst ys =>
      simp only [e1, e2] at h
      obtain ⟨a, vs, rfl, ha, ra⟩ := seq_lst ok rx e1
      obtain ⟨b, us, rfl, hb, rb⟩ := seq_lst ok ry e2
      have l1 := ra.len
      have l2 := rb.len
      refine ⟨a, b, vs, us, rfl, rfl, SqL.of ha, SqL.of hb, ?_, ?_⟩
      · rcases h.1 with e | e
        · subst e; exact .inl l1.symm
        · subst e; exact .inr l2.symm
      · rw [← l1, ← l2]
        exact n _ H (.bl _) S (.refl _ _) ok rfl h.2
    | _ => simp only [e1, e2] at h
  | _ => simp only [e1] at h
end DL
set_option maxRecDepth 100000
namespace DL
open PySem PySem.Spec PyProof.Rows L2
/-! ### enumerate(tuple) -/
set_option maxHeartbeats 1000000 in
theorem meets_enum1 {v : Value} {o : Obj} {HH : Heap → Prop} (B : Begins v o HH) :
    Meets (Builtin.«enumerate.__new__» ⟨[.type "enumerate", v], []⟩) (fun _ R s => HH s.heap ∧
      R (.ok (.ret (.ref (s.heap.push o).objs.size))) { s with heap := (s.heap.push o).push { cls := .type "enumerate", data := .fields #[.none, .bool false, .ref s.heap.objs.size, rawInt 0, .none, .none] } }) :=
  .of_wp fun prog w A R s h => by
    obtain ⟨hp, g, d, tk, os⟩ := s; obtain ⟨h1, h⟩ := h
    have hsub := sub_enumerate
    have q1 : ∀ {A' : Around} {E : Value → Shared → Prop} {Q : Value → Shared → Prop}, Q (.ref hp.objs.size) ⟨hp.push o, g, d, tk, os⟩ → wpAny (model prog w) A' (pyIter v) Q E ⟨hp, g, d, tk, os⟩ :=
      fun q => B.iter prog w _ _ ⟨hp, g, d, tk, os⟩ _ h1 q
    wp_walk using q1
    refine wpAny_stack_any fun st => wpAny_pure ?_
    split
    · rename_i c _ _ _ _ _
      cases (c == Value.type "enumerate")
      · wp_walk using q1
        exact ⟨_, rfl, h⟩
      · wp_walk using q1
        exact ⟨_, rfl, h⟩
    · wp_walk using q1
      exact ⟨_, rfl, h⟩
theorem enum_begins1 {prog : Program} {w : World} {A : Around} {E : Value → Shared → Prop} {s : Shared} {v : Value} {o : Obj} {HH : Heap → Prop} {Q : Value → Shared → Prop} (B : Begins v o HH) (h1 : HH s.heap)
    (h : ∀ h', IsEnum h' (s.heap.objs.size + 1) s.heap.objs.size 0 .none → h'.get? s.heap.objs.size = some o → h'.objs.size = s.heap.objs.size + 2 →
      (∀ b o, s.heap.get? b = some o → h'.get? b = some o) → Q (.ref (s.heap.objs.size + 1)) { s with heap := h' }) :
    wpAny (model prog w) A (call (.type "enumerate") [v]) Q E s := by
  refine callType_new F.called_enumerate (by decide) (F.typeCall_enumerate_1 _) (F.newCall_enumerate_1 _) (fun obj => F.args_object_init_2 obj _) F.entry_enumerate_new
    (meets_enum1 B) ⟨h1, ?_⟩
  have hz : (s.heap.push o).objs.size = s.heap.objs.size + 1 := Heap.size_push ..
  show _ ∧ _
  rw [hz]
  have he : IsEnum ((s.heap.push o).push { cls := .type "enumerate", data := .fields #[.none, .bool false, .ref s.heap.objs.size, rawInt 0, .none, .none] }) (s.heap.objs.size + 1) s.heap.objs.size 0 .none := by
    have := Heap.get?_push_size (s.heap.push o) (o := { cls := .type "enumerate", data := .fields #[.none, .bool false, .ref s.heap.objs.size, rawInt 0, .none, .none] }) rfl
    rw [hz] at this; exact this
  refine ⟨⟨_, he, rfl⟩, h _ he (Heap.get?_push_of_some _ (Heap.get?_push_size _ B.free)) (by rw [Heap.size_push, hz]) fun b o x => Heap.get?_push_of_some _ (Heap.get?_push_of_some _ x)⟩
theorem next_enumT_end {prog : Program} {w : World} {A : Around} {E : Value → Shared → Prop} {s : Shared} {e it t : Addr} {items : Array Value} {k : Nat} {i : Int} {old : Value} {Q : Option Value → Shared → Prop}
    (hh : A.in1.handled = none) (he : IsEnum s.heap e it i old) (h1 : s.heap.IsTupleIter it t k) (h2 : s.heap.IsTuple t items) (hk : items.size ≤ k)
    (hQ : ∀ h', Heap.ExtBut it s.heap h' → Q none { s with heap := h' }) : wpAny (model prog w) A (pyNext (.ref e)) Q E s := by
  have hT : s.TypeIs (.ref e) "enumerate" := ⟨_, he, rfl⟩
  unfold pyNext
  refine wpAny_bind (wpAny_attempt (wpAny_callSpecial?_slot (name := Str.ofString "__next__") hT F.slot_enumerate_next
    (wpAny_call_entry F.slot_enumerate_next hT F.entry_enumerate_next ?_ (F.args_enumerate_next_1 _))))
  show wpAny _ _ (field (.ref e) 2 >>= _) _ _ _
  refine wpAny_bind (wpAny_field he rfl (x := .ref it) rfl ?_)
  refine wpAny_bind (wpAny_nextOf_tuple_end hh h1 h2 (Array.getElem?_eq_none hk) fun h' x he' hx' => ?_)
  obtain ⟨o, ho, hc⟩ := hx'
  refine wpAny_bind (wpAny_isInstance (T := "StopIteration") (b := true) ⟨o, ho, hc⟩ isSubtype_stop ?_)
  exact wpAny_pure (hQ _ he')
/-- the tuple at a, each item in a new pair -/
def IteT (K : PySem.W.Frag) (a : Addr) : It :=
  ⟨fun i H => ∃ (xs : List V) (x : V), SqT K H a xs ∧ xs[i]? = some x, fun i H v H' => ∃ T x, v = .ref T ∧ H T = none ∧ H' = upd H T (.tup [.int (i : Nat), x]) ∧ ∀ xs, SqT K H a xs → xs[i]? = some x, fun i H => ∃ xs : List V, SqT K H a xs ∧ xs.length ≤ i⟩
theorem turn_enumT {P : Program} {w : World} {K : PySem.W.Frag} {elts : List Expr} {kk : Nat} {tpos : Pos} (a e it : Addr) (hai : a ≠ it) :
    Turn P w K (.Tuple elts kk tpos) (IteT K a) [e, it] e (fun i h => (∃ old, IsEnum h e it ((i : Nat) : Int) old) ∧ h.IsTupleIter it a i ∧ e ≠ it ∧ e ≠ a) where
  mem := by simp
  obj := fun i h st b hb => by
    obtain ⟨⟨old, he⟩, ⟨o, ho, hc, hd⟩, _⟩ := st
    have e' : b = e ∨ b = it := by simpa using hb
    rcases e' with z | z
    · rw [z]; exact ⟨_, he, fun v q => nomatch q⟩
    · rw [z]; exact ⟨o, ho, fun v q => by rw [hd] at q; cases q⟩
  keep := fun i h h' st k => let ⟨⟨old, he⟩, hi, hne⟩ := st; ⟨⟨old, k e (by simp) _ he⟩, hi.at fun o q => k it (by simp) o q, hne⟩
  item := by
    intro X hP hw hK hc i pins s σ H E I hf st hg
    subst hP hw hK
    obtain ⟨⟨old, he⟩, hit, hne, hea⟩ := st
    obtain ⟨xs, x, hq, hx⟩ := hg
    obtain ⟨its, rv, p, hz⟩ := I.tuple hq
    obtain ⟨u, hu, ru⟩ := rv.get hx
    have hel : e < s.heap.objs.size := Heap.lt_size he
    have hil : it < s.heap.objs.size := by obtain ⟨_, q, _⟩ := hit; exact Heap.lt_size q
    have hul : i < its.toArray.size := by simpa using (List.getElem?_eq_some_iff.mp hu).1
    refine wpAny_pyNext_enum_itemD (Draws.tuple (prog := X.prog) (w := X.w) (A := X.A.in1) (I.ok.hd hc) it a hai its.toArray) he ⟨hit, p⟩ hul hne (by simp [hne, hea]) fun x' h' tk hP ho hst hT hsz hk => ?_
    obtain ⟨hit', _⟩ := hst
    obtain rfl : u = x' := by
      have hP' : its.toArray[i]? = some x' := hP
      rw [List.getElem?_toArray, hu] at hP'
      exact Option.some.inj hP'
    refine ⟨_, rfl, wpAny_letOwnedTupleGo_enum (s := { s with heap := h', toks := tk + 1 }) ho fun h'' he' sb => ?_⟩
    have hT2 : h''.get? s.heap.objs.size = some { cls := .type "tuple", data := .seq #[.int i tk, u] } := (sb.2 _ (Nat.ne_of_gt hel)).trans hT
    have new : ObjOk X.prog X.w (upd H s.heap.objs.size (.tup [.int (i : Nat), x])) h'' s.heap.objs.size (.tup [.int (i : Nat), x]) :=
      ⟨by show 2 ≤ sizeLine; decide, [.int i tk, u], .cons ⟨_, rfl⟩ (.cons ru .nil), ⟨_, hT2, rfl, _, rfl⟩⟩
    have I1 : Inv X pins σ (upd H s.heap.objs.size (.tup [.int (i : Nat), x])) { s with heap := h'', toks := tk + 1 } :=
      I.turnedNew (ch := [e, it]) (fun b ob hb q => (sb.2 b (fun z => hb (by simp [z]))).trans (hk b ob (fun z => hb (by simp [z])) (fun z => hb (by simp [z])) q)) hf (Nat.le_refl _) new
    refine ⟨.ref s.heap.objs.size, _, I1, rfl, ⟨_, x, rfl, I.hok.fresh (Nat.le_refl _), rfl, fun ys hy => by rw [I.tuple_inj hy hq]; exact hx⟩, ⟨⟨u, ?_⟩, hit'.at fun o q => (sb.2 it (Ne.symm hne)).trans q, hne, hea⟩, fun b hb => ?_⟩
    · have e1 : ((i + 1 : Nat) : Int) = (i : Int) + 1 := by omega
      rw [e1]; exact he'
    · have hb' : b < s.heap.objs.size := by
        have e' : b = e ∨ b = it := by simpa using hb
        rcases e' with z | z
        · rw [z]; exact hel
        · rw [z]; exact hil
      rw [upd_ne (Nat.ne_of_lt hb')]
      exact (hf b hb).1
  done := by
    intro X hP hw hK hc i pins s σ H E I hf st hg
    subst hP hw hK
    obtain ⟨⟨old, he⟩, hit, hne, hea⟩ := st
    obtain ⟨xs, hq, hx⟩ := hg
    obtain ⟨its, rv, p, hz⟩ := I.tuple hq
    obtain ⟨f0, f1, f2, f3, f4, f5⟩ := hf it (by simp)
    have hl := rv.length
    exact next_enumT_end (I.ok.hd hc) he hit p (by simp; omega) fun h' eb => ⟨rfl, I.turned (t' := s.toks) (fun b o hb q => eb b o hb q) f0 f1 f3 f4 f5⟩
  self := fun A i s Q E st h => let ⟨⟨_, he⟩, _⟩ := st; wpAny_pyIter_enum he h
def iEnumT (K : PySem.W.Frag) (ta : TA) : TI := fun σ H R => ta σ H fun vs H1 => ∃ a xs, vs = [.ref a] ∧ ((SqL K H1 a xs ∧ R (Ite K a) H1) ∨ (SqT K H1 a xs ∧ R (IteT K a) H1))
theorem pi_enumT {X : Cx} {e : Expr} {ta : TA} {p pos tpos : Pos} {elts : List Expr} {kk : Nat} (hg : Gl X "enumerate") (hm : X.mg "enumerate" = none) (ha : PA X [e] ta) (hs : starEach [e] X.env = [(false, eval e X.env)] := by rfl) :
    PI X (.Tuple elts kk tpos) (.Call (.Name "enumerate" p) [e] [] pos) (iEnumT X.K ta) := by
  refine ⟨fun pins s σ H R I h => ?_⟩
  refine Call_ (ld_blt I hg hm boot_enumerate (PyProof.Rows.callWith_type1 (thn (ha.run pos pins s σ H _ I h) fun us s1 ⟨vs, H1, I1, r1, q1⟩ => ?_) hs rfl))
  obtain ⟨a, xs, ex, q1⟩ := q1
  subst ex
  cases r1 with
  | cons r rr =>
    cases rr
    cases r
    have fp : ∀ b ∈ [s1.heap.objs.size + 1, s1.heap.objs.size], _ := fun b hb => (show s1.heap.objs.size ≤ b by
      have e' : b = s1.heap.objs.size + 1 ∨ b = s1.heap.objs.size := by simpa using hb
      rcases e' with z | z
      · rw [z]; exact Nat.le_add_right _ _
      · rw [z]; exact Nat.le_refl _)
    rcases q1 with ⟨hq, q⟩ | ⟨hq, q⟩
    · obtain ⟨its, rv, p', hz⟩ := I1.list hq
      refine call_enumerate_list p'.isList fun h' he hit hsz hk => wpAny_pyIter_enum he ?_
      have I2 : Inv X pins σ H1 { s1 with heap := h' } := I1.kept (t' := s1.toks) hk
      exact ⟨s1.heap.objs.size + 1, [s1.heap.objs.size + 1, s1.heap.objs.size], _, _, H1, rfl, I2, turn_enum a (s1.heap.objs.size + 1) s1.heap.objs.size, ⟨⟨.none, he⟩, hit, Nat.succ_ne_self _⟩, fun b hb => I1.fpOk (fp b hb) (I1.hok.fresh (fp b hb)), q⟩
    · obtain ⟨its, rv, p', hz⟩ := I1.tuple hq
      have al : a < s1.heap.objs.size := by obtain ⟨o, ho, _⟩ := p'; exact Heap.lt_size ho
      refine enum_begins1 (begins_tuple a its.toArray) p' fun h' he hit hsz hk => wpAny_pyIter_enum he ?_
      have I2 : Inv X pins σ H1 { s1 with heap := h' } := I1.kept (t' := s1.toks) hk
      exact ⟨s1.heap.objs.size + 1, [s1.heap.objs.size + 1, s1.heap.objs.size], _, _, H1, rfl, I2, turn_enumT a (s1.heap.objs.size + 1) s1.heap.objs.size (Nat.ne_of_lt al), ⟨⟨.none, he⟩, ⟨_, hit, rfl, rfl⟩, Nat.succ_ne_self _, Nat.ne_of_gt (Nat.lt_succ_of_lt al)⟩, fun b hb => I1.fpOk (fp b hb) (I1.hok.fresh (fp b hb)), q⟩
/-! told of trees -/
def wiEnumA (w : DWA) : DWI := fun ρ S P E => w ρ S (fun xs S1 => match xs with
  | [.lst ds] => P (enumD ds) none S1
  | [.tup ds] => P (enumD ds) none S1
  | [.ktp ds] => P (enumD ds) none S1
  | [.loc i] => (match val S1 (.loc i) with
    | .lst ds => P (enumD ds) (some (i, ds)) S1
    | _ => False)
  | _ => False) E
theorem itOk_enumT {K : PySem.W.Frag} {M : Addr → Prop} {mu : List Addr} {H : Hp} {a : Addr} {vs : List V} {ds : List D} (ha : H a = some (.tup vs) ∨ SqTK K a vs) (r : Rs K M mu H ds vs) : ItOk K (IteT K a) M mu H (enumD ds) none := fun M' mu' H' S' ex ok _ i => by
  have h' : SqT K H' a vs := ha.elim (fun q => SqT.of (ex.toExt0.keepM a _ q (.inr isF_tup))) fun q => q.to
  have r' := Rs.mono ex.toExt0 _ _ r
  have hl : (enumD ds).length = ds.length := by simp [enumD]
  refine ⟨fun d hd => ?_, fun hi => ⟨vs, h', by rw [← r.len, ← hl]; exact hi⟩⟩
  have hi : i < ds.length := by rw [← hl]; exact (List.getElem?_eq_some_iff.mp hd).1
  have e1 : ds[i]? = some (ds.getD i .non) := by rw [List.getD_eq_getElem?_getD, List.getElem?_eq_getElem hi]; rfl
  have e2 : d = .tup [.int (i : Nat), ds.getD i .non] := by
    unfold enumD at hd
    rw [List.getElem?_map, List.getElem?_range hi] at hd
    exact (Option.some.inj hd).symm
  obtain ⟨v, hv, rv⟩ := r'.get e1
  refine ⟨⟨vs, v, h', hv⟩, fun x H2 y => ?_⟩
  obtain ⟨T, z, rfl, nT, rfl, hz⟩ := y
  obtain rfl : v = z := Option.some.inj (hv.symm.trans (hz vs (h')))
  rw [e2]
  exact new2 ok nT rfl rv
theorem di_enumA {X : Cx} {W : WX} {e : Expr} {w : DWA} {p pos tpos : Pos} {elts : List Expr} {kk : Nat} (hg : Gl X "enumerate") (hm : X.mg "enumerate" = none) (ha : DA X W [e] w) (hs : starEach [e] X.env = [(false, eval e X.env)] := by rfl) :
    DI X W (.Tuple elts kk tpos) (.Call (.Name "enumerate" p) [e] [] pos) (wiEnumA w) := by
  obtain ⟨_, pa, ra⟩ := ha.ex
  refine ⟨_, pi_enumT hg hm pa hs, ⟨fun M mu σ ρ S H P E Q ok en hw n x => ?_⟩⟩
  refine ra.run M mu σ ρ S H _ E _ ok en hw (fun vs H1 ds S1 k1 ok1 r1 h1 => ?_) x
  split at h1
  · rename_i l
    obtain ⟨v, rfl, a, ys, rfl, hm1, ha1, rr⟩ := r1.one
    exact ⟨a, ys, rfl, .inl ⟨SqL.of ha1, n _ H1 _ none S1 k1 ok1 (itOk_enum hm1 ha1 rr) True.intro h1⟩⟩
  · rename_i l
    obtain ⟨v, rfl, a, ys, rfl, ha1, rr⟩ := r1.one
    exact ⟨a, ys, rfl, .inr ⟨SqT.of ha1, n _ H1 _ none S1 k1 ok1 (itOk_enumT (.inl ha1) rr) True.intro h1⟩⟩
  · rename_i l
    obtain ⟨v, rfl, a, ys, rfl, ha1, rr⟩ := r1.one
    exact ⟨a, ys, rfl, .inr ⟨ha1.to, n _ H1 _ none S1 k1 ok1 (itOk_enumT (.inr ha1) rr) True.intro h1⟩⟩
  · rename_i i
    obtain ⟨v, rfl, rv⟩ := r1.one
    cases q : val S1 (.loc i) with
    | lst ds =>
      simp only [q] at h1
      obtain ⟨a, rfl, ha⟩ := rv
      obtain ⟨vs, h3, h4⟩ : Cl X.K M mu H1 (.lst ds) a := ok1.at_ i a _ ha (val_loc q (by simp))
      exact ⟨a, vs, rfl, .inl ⟨SqL.of h3, n _ H1 _ (some (i, ds)) S1 k1 ok1 (itOk_enumL ha) (val_loc q (by simp)) h1⟩⟩
    | _ => simp only [q] at h1
  · exact h1.elim
theorem wiEnumA_ap {w : DWA} {ρ : Loc} {S : Sto} {P : List D → Src → Sto → Prop} {E : Ex} : wiEnumA w ρ S P E = (w ρ S (fun xs S1 => match xs with
  | [.lst ds] => P (enumD ds) none S1
  | [.tup ds] => P (enumD ds) none S1
  | [.ktp ds] => P (enumD ds) none S1
  | [.loc i] => (match val S1 (.loc i) with
    | .lst ds => P (enumD ds) (some (i, ds)) S1
    | _ => False)
  | _ => False) E) := rfl
end DL
set_option maxRecDepth 100000
namespace PySem
/-! bool(x), x an own instance -/
theorem bool_new_own {prog : Program} {w : World} {a : Addr} : MeetsIn prog w (Builtin.«bool.__new__» ⟨[.type "bool", .ref a], []⟩) (fun A R s => wpAny (model prog w) A.in1 (truthy (.ref a)) (fun b s' => R (.ok (.ret (.bool b))) s') (fun _ _ => False) s) :=
  .of_wp fun A R s h => by
    obtain ⟨hp, g, d, tk, os⟩ := s
    have f1 := F.conv_sub_bool
    repeat (any_goals (first | assumption | (with_reducible refine wpAny_mono h (fun b s' q => ?_) (fun _ _ x => x.elim)) | wp_step))
    exact ⟨_, rfl, q⟩
theorem call_bool_own {prog : Program} {w : World} {A : Around} {E : Value → Shared → Prop} {s : Shared} {a : Addr} {Q : Value → Shared → Prop} (h : wpAny (model prog w) A.in1.in1 (truthy (.ref a)) (fun b s' => Q (.bool b) s') (fun _ _ => False) s) : wpAny (model prog w) A (call (.type "bool") [.ref a]) Q E s :=
  callType_newIn F.called_bool F.newNe_bool (F.typeCall_bool_1 _) (F.newCall_bool_1 _) (fun obj => F.args_object_init_2 obj _) F.entry_bool_new bool_new_own (wpAny_mono h (fun b s' q => ⟨rfl, q⟩) fun _ _ x => x)
end PySem
namespace DL
open PySem PySem.Spec PyProof.Rows L2
section
variable {X : Cx} {C : Addr} {k : Nat} {ps : List Str} {sp : DSp} {f : Addr} {fd : FuncData}
def rBoolOwn (K : PySem.W.Frag) (C : Addr) (sp : DSp) : List V → Hp → VK → Prop := fun xs H Q => ∃ a dx fs, xs = [.ref a] ∧ H a = some (.ins C dx fs) ∧ spE K sp xs H fun z H' => ∃ b, z = .bl b ∧ Q (.bl b) H'
theorem call_boolOwn (hr : Room (k + 2) X.A) (F : FnOk X.prog X.w X.K X.mg X.base CX0 k f fd ps (toSp X.K sp)) (hb : Binds X.K fd ps []) (hm : Meth X.K C "__bool__" f) : CallR X (.type "bool") (rBoolOwn X.K C sp) := by
  intro pins s σ H xs us Q I r h
  obtain ⟨a, dx, fs, rfl, ha, q⟩ := h
  obtain ⟨u, rfl, ru⟩ := r.one
  cases (show u = Value.ref a from ru)
  obtain ⟨od, J⟩ := insAt I ha
  obtain ⟨mm, hF⟩ := I.fr
  refine call_bool_own (PySem.W.truthy_K hF I.ok.mod.kin J hm.at_ hm.fn (wpAny_mono (run_fnA (us := [.ref a]) (vs := [.ref a]) F hr.in1.in1 I.env0.in1.in1 hb I (.cons rfl .nil) q) (fun w s' z => ?_) fun _ _ x => x))
  obtain ⟨z', H', I', rz, b, rfl, qz⟩ := z
  cases rz
  exact ⟨.bl b, H', I', rfl, qz⟩
end
section
variable {K : PySem.W.Frag} {C : Addr} {sp : DSp}
def boolOwnD (C : Addr) (sp : DSp) : DFn := fun xs S P => match xs with
  | [x] => isObjD C S x ∧ sp [x] S (blP P) EF
  | _ => False
theorem calld_boolOwn : CallD K (rBoolOwn K C sp) (boolOwnD C sp) := by
  intro M mu H S xs vs P Q ok r h n
  unfold boolOwnD at h
  split at h
  · rename_i x
    obtain ⟨v, rfl, rv⟩ := r.one
    obtain ⟨a, dx, fs, rfl, ha⟩ := isObj_ok ok rv h.1
    refine ⟨a, dx, fs, rfl, ha, spE_of ok (rs_1 rv) h.2 fun z H' d' S' k' ok' r' h' => ?_⟩
    cases d' with
    | bl b =>
      obtain rfl : z = .bl b := r'
      exact ⟨b, rfl, n _ H' (.bl b) S' k' ok' rfl h'⟩
    | _ => exact h'.elim
  · exact h.elim
end
/-! not x, x an own instance -/
section
variable {X : Cx} {W : WX} {C : Addr} {k : Nat} {ps : List Str} {sp : DSp} {f : Addr} {fd : FuncData} {e : Expr} {we : DW} {pos : Pos}
def wNotOwn (C : Addr) (sp : DSp) (we : DW) : DW := fun ρ S P E => we ρ S (fun x S1 => isObjD C S1 x ∧ sp [x] S1 (truP fun b S2 => P (.bl (!b)) S2) EF) E
theorem de_notOwn (hr : Room k X.A) (F : FnOk X.prog X.w X.K X.mg X.base CX0 k f fd ps (toSp X.K sp)) (hb : Binds X.K fd ps []) (hm : Meth X.K C "__bool__" f) (he : DE X W e we) : DE X W (.UnaryOp .Not e pos) (wNotOwn C sp we) := by
  obtain ⟨t, p, r⟩ := he.ex
  refine ⟨fun σ H Q => t σ H fun v H1 => ∃ a dx fs, v = .ref a ∧ H1 a = some (.ins C dx fs) ∧ spE X.K sp [.ref a] H1 fun z H2 => ∃ b, z = .bl b ∧ Q (.bl (!b)) H2, ⟨fun pins s σ H Q I h => ?_⟩, ⟨fun M mu σ ρ S H P E Q ok en hw n x => ?_⟩⟩
  · refine UnaryOp_ (thn (p.run pins s σ H _ I h) fun u s1 ⟨x, H1, I1, rx, a, dx, fs, ex, ha, q⟩ => ?_)
    subst ex
    cases (show u = Value.ref a from rx)
    obtain ⟨od, J⟩ := insAt I1 ha
    obtain ⟨mm, hF⟩ := I1.fr
    refine not_of (PySem.W.truthy_K hF I1.ok.mod.kin J hm.at_ hm.fn (wpAny_mono (run_fnA (us := [.ref a]) (vs := [.ref a]) F hr I1.env0 hb I1 (.cons rfl .nil) q) (fun w s' z => ?_) fun _ _ x => x))
    obtain ⟨z', H', I', rz, b, rfl, qz⟩ := z
    cases rz
    exact ⟨.bl (!b), H', I', rfl, qz⟩
  · refine r.run M mu σ ρ S H _ E _ ok en hw (fun v H1 d S1 k1 ok1 r1 h1 => ?_) x
    obtain ⟨a, dx, fs, rfl, ha⟩ := isObj_ok ok1 r1 h1.1
    refine ⟨a, dx, fs, rfl, ha, spE_of ok1 (rs_1 r1) h1.2 fun z H' d' S' k' ok' r' h' => ?_⟩
    cases d' with
    | bl b =>
      obtain rfl : z = .bl b := r'
      exact ⟨b, rfl, n (.bl (!b)) H' (.bl (!b)) S' (k1.trans k') ok' rfl h'⟩
    | _ => exact h'.elim
end
/-! a class by its name; isinstance of it -/
section
variable {X : Cx} {W : WX} {C : Addr} {x : Str} {pos : Pos}
theorem de_gcls (hm : X.mg x = some (.ref C)) (hg : Gl X x := by rfl) (hd : (x == ("__debug__" : Str)) = false := by decide) : DE X W (.Name x pos) (wC (.cst C)) :=
  ⟨tC (.ref C), pe_glob hg hm rfl hd, ⟨fun M mu σ ρ S H P E Q ok en hw n x => n (.ref C) H (.cst C) S (.refl _ _) ok rfl hw⟩⟩
/-- what isinstance(x, C) asks: C, and that a dict is none -/
structure IsC (K : PySem.W.Frag) (C : Addr) : Prop where
  c : C8.InsC K C
  d : PySem.W.kitOne K (.type "dict") (.ref C) = some false
def rIsC (K : PySem.W.Frag) (C : Addr) : List V → Hp → VK → Prop := fun xs H Q => ∃ a, xs = [.ref a, .ref C] ∧ ((∃ dx fs, H a = some (.ins C dx fs) ∧ Q (.bl true) H) ∨ (∃ es, L2.Rd H a (.dT es) ∧ Q (.bl false) H))
theorem call_isCD (c : IsC X.K C) : CallR X (.builtin "isinstance") (rIsC X.K C) := by
  intro pins s σ H xs us Q I r h
  obtain ⟨a, rfl, h⟩ := h
  rcases h with ⟨dx, fs, ha, q⟩ | ⟨es, ha, q⟩
  · exact C8.call_isC c.c pins s σ H _ us Q I r ⟨a, dx, fs, rfl, ha, q⟩
  · obtain ⟨u, w', rfl, ru, rw'⟩ := vals2 r
    cases rw'
    cases (show u = Value.ref a from ru)
    obtain ⟨_, _, ys, _, ob, es', ep, hob, hx, _⟩ := dt_rd I.hok ha
    exact PySem.W.kia_one PySem.W.kitx_dict I.kIn ⟨ob, hob, hx.1⟩ c.d (fun z => nomatch z) fun tk => ⟨.bl false, H, I.tok _, rfl, q⟩
def isCD : DFn := fun xs S P => match xs with
  | [x, .cst C] => (match val S x with
    | .obj C' _ => C' = C ∧ P (.bl true) S
    | .dt _ => P (.bl false) S
    | _ => False)
  | _ => False
end
section
variable {K : PySem.W.Frag} {C : Addr}
def isCDof (C : Addr) : DFn := fun xs S P => match xs with
  | [x, .cst C'] => C' = C ∧ isCD [x, .cst C] S P
  | _ => False
theorem calld_isC : CallD K (rIsC K C) (isCDof C) := by
  intro M mu H S xs vs P Q ok r h n
  unfold isCDof at h
  split at h
  · rename_i x C'
    obtain ⟨rfl, h⟩ := h
    obtain ⟨v, u, rfl, rv, ru⟩ := r.two
    obtain rfl : u = .ref C' := ru
    unfold isCD at h
    cases e : val S x with
    | obj C2 fs =>
      simp only [e] at h
      obtain ⟨rfl, h⟩ := h
      obtain ⟨a, dx, gs, rfl, ha, _⟩ := obj_at ok rv e
      exact ⟨a, rfl, .inl ⟨dx, gs, ha, n _ H (.bl true) S (.refl _ _) ok rfl h⟩⟩
    | dt es =>
      simp only [e] at h
      obtain ⟨a, es', rfl, ha, _⟩ := dt_at ok rv e
      exact ⟨a, rfl, .inr ⟨es', ha, n _ H (.bl false) S (.refl _ _) ok rfl h⟩⟩
    | _ => simp only [e] at h
  · exact h.elim
end
/-! a new instance: what a caller knows -/
/-- C(..) with n values by position and the keywords ks: __init__'s parameters are gD [self] ds es -/
def NewC (P : Program) (w : World) (K : PySem.W.Frag) (mg : Str → Option Value) (base : Heap) (k : Nat) (x : Str) (C : Addr) (n : Nat) (ks : List Str) (sp : DSp) (gD : List D → List D → List D → List D) : Prop :=
  ∃ (f : Addr) (fd : FuncData) (ps : List Str) (g : List Value → List Value → List Value) (gV : List V → List V → List V), Mk K C f ∧ FnOk P w K mg base CX0 k f fd ps (toSp K sp) ∧ mg x = some (.ref C) ∧ KBn K fd ps (n + 1) ks g gV ∧ GRel K gD gV
theorem hideN {P : Program} {w : World} {K : PySem.W.Frag} {mg : Str → Option Value} {base : Heap} {k : Nat} {x : Str} {C : Addr} {n : Nat} {ks : List Str} {sp : DSp} {gD : List D → List D → List D → List D} (c : NewC P w K mg base k x C n ks sp gD) : ∃ sp' : DSp, NewC P w K mg base k x C n ks sp' gD ∧ ∀ ds S P E, sp ds S P E → sp' ds S P E := ⟨sp, c, fun _ _ _ _ h => h⟩
section
variable {X : Cx} {W : WX} {k j n : Nat} {C : Addr} {ks : List Str} {sp : DSp} {x : Str} {p pos : Pos} {e : Expr} {es : List Expr} {kws : List Keyword} {w wk : DWA} {gD : List D → List D → List D → List D}
theorem de_new (c : NewC X.prog X.w X.K X.mg X.base k x C n ks sp gD) (hr : Room j X.A) (ha : DA X W (e :: es) w) (hk : DKw X W kws wk) (hjk : k + 1 ≤ j := by first | decide | exact Nat.le_refl _ | omega) (hg : Gl X x := by rfl)
    (hall : (backToKw pos (keywordEach kws X.env)).all (·.1.isSome) = true := by rfl) (hks : (backToKw pos (keywordEach kws X.env)).filterMap (·.1) = ks := by rfl) (hdb : (x == ("__debug__" : Str)) = false := by decide)
    (he : starEach (e :: es) X.env = (false, eval e X.env) :: starEach es X.env := by rfl) (hpl : ((backTo pos (starEach (e :: es) X.env)).any (·.1) || (backToKw pos (keywordEach kws X.env)).any (·.1.isNone)) = false := by rfl) :
    DE X W (.Call (.Name x p) (e :: es) kws pos) (wMake C sp n ks.length gD w wk) :=
  let ⟨_, _, _, _, _, M, F, hm, hb, hgr⟩ := c; de_makeK M F (hr.mono hjk) hm hb hgr ha hk hg hall hks hdb he hpl
theorem de_new0 (c : NewC X.prog X.w X.K X.mg X.base k x C 0 ks sp gD) (hr : Room j X.A) (hk : DKw X W kws wk) (hjk : k + 1 ≤ j := by first | decide | exact Nat.le_refl _ | omega) (hg : Gl X x := by rfl)
    (hall : (backToKw pos (keywordEach kws X.env)).all (·.1.isSome) = true := by rfl) (hks : (backToKw pos (keywordEach kws X.env)).filterMap (·.1) = ks := by rfl) (hdb : (x == ("__debug__" : Str)) = false := by decide)
    (hpl : ((backTo pos (starEach [] X.env)).any (·.1) || (backToKw pos (keywordEach kws X.env)).any (·.1.isNone)) = false := by rfl) : DE X W (.Call (.Name x p) [] kws pos) (wMake C sp 0 ks.length gD wNil wk) :=
  let ⟨_, _, _, _, _, M, F, hm, hb, hgr⟩ := c; de_makeK0 M F (hr.mono hjk) hm hb hgr hk hg hall hks hdb hpl
end
/-! methods that hand back a fresh list -/
def MtFr (P : Program) (w : World) (K : PySem.W.Frag) (mg : Str → Option Value) (base : Heap) (k : Nat) (C : Addr) (m : Str) (ps : List Str) (sp : DSpF) : Prop := ∃ (f : Addr) (fd : FuncData), FnOk P w K mg base CX0 k f fd ps (toSpF K sp) ∧ Cls K C ∧ Meth K C m f ∧ Binds K fd ps []
theorem hideMF {P : Program} {w : World} {K : PySem.W.Frag} {mg : Str → Option Value} {base : Heap} {k : Nat} {C : Addr} {m : Str} {ps : List Str} {sp : DSpF} (c : MtFr P w K mg base k C m ps sp) : ∃ sp' : DSpF, MtFr P w K mg base k C m ps sp' ∧ ∀ ds S P E, sp ds S P E → sp' ds S P E := ⟨sp, c, fun _ _ _ _ h => h⟩
theorem frP {K : PySem.W.Frag} {M : Addr → Prop} {mu : List Addr} {H : Hp} {S : Sto} {P : DK} {Q : VK} (ok : Wok K M mu H S) (n : Nrm K M mu H P Q) : NrmF K M mu H (fun l S' => P (.lst l) S') Q := fun p vs H' ds S' hn k hp ok' rr h =>
  n (.ref p) H' (.lst ds) S' k (ok'.less (fun _ m => .inl m) ok.sub) ⟨p, vs, rfl, fun m => ok.tr p m hn, hp, Rs.mono (ext_less fun _ m => .inl m) _ _ rr⟩ h
def wMethX0 (C : Addr) (m : Str) (sp : DSpF) (wo : DW) : DWA := fun ρ S P E => wo ρ S (fun x S1 => recvD C m x S1 ∧ sp [x] S1 P EF) E
def wMethF0 (C : Addr) (m : Str) (sp : DSpF) (wo : DW) : DW := fun ρ S P E => wo ρ S (fun x S1 => recvD C m x S1 ∧ sp [x] S1 (fun l S2 => P (.lst l) S2) EF) E
section
variable {X : Cx} {W : WX} {C : Addr} {k j : Nat} {m : Str} {ps : List Str} {sp : DSpF} {o : Expr} {wo : DW} {apos pos : Pos}
theorem rd_methX {K : PySem.W.Frag} {to : TE} (ro : Rd K W to wo) : RdF K W (tMeth C m (toSpF K sp) [] (fun _ _ _ => False) to tNil) (wMethX0 C m sp wo) := by
  refine ⟨fun M mu σ ρ S H P E Q ok en hw n x => ?_⟩
  refine ro.run M mu σ ρ S H _ E _ ok en hw (fun v H1 d S1 k1 ok1 r1 h1 => ?_) x
  obtain ⟨hr, h1⟩ := h1
  unfold recvD at hr
  cases e1 : val S1 d with
  | obj C' fs =>
    simp only [e1] at hr
    obtain ⟨rfl, hn⟩ := hr
    obtain ⟨a, dx, gs, rfl, ha, hk, rv⟩ := obj_at ok1 r1 e1
    refine ⟨a, dx, gs, rfl, ha, rfs_no (K := K) (M := M) (mu := mu) (H := H1) m hk hn, ?_⟩
    exact ⟨M, mu, S1, [d], P, EF, ok1, ⟨.ref a, [], rfl, r1, rfl⟩, h1, fun p vs H' ds S' hp k hp' ok' rr h =>
      n p vs H' ds S' ((Ext.of ok.sub k1).back hp fun m => ok1.tr p (ok1.sub p m) hp) (k1.trans k) hp' ok' rr h, fun _ _ _ _ _ _ _ _ _ h => h.elim⟩
  | _ => simp only [e1] at hr
theorem df_meth0 {pl : Sem Bool} (c : MtFr X.prog X.w X.K X.mg X.base j C m ps sp) (hr : Room k X.A) (ho : DE X W o wo) (hjk : j ≤ k := by first | decide | exact Nat.le_refl _ | omega)
    (ht : eval (.Call (.Attribute o m apos) [] [] pos) X.env = (do
      let ov ← eval o X.env
      standAt apos.atName
      let (f, first) ← holding [ov] (getMethod ov m pl)
      callWith pos f first (backTo pos (starEach [] X.env)) (backToKw pos (keywordEach [] X.env))) := by rfl) : DF X W (.Call (.Attribute o m apos) [] [] pos) (wMethX0 C m sp wo) := by
  obtain ⟨f, fd, F, c1, c2, hb⟩ := c
  obtain ⟨_, po, ro⟩ := ho.ex
  exact ⟨_, pe_meth0 (pl := pl) (E := fun _ _ _ => False) po c1 c2 F (hr.mono hjk) hb .nil pass0 ht, rd_methX ro⟩
theorem de_methF0 {pl : Sem Bool} (c : MtFr X.prog X.w X.K X.mg X.base j C m ps sp) (hr : Room k X.A) (ho : DE X W o wo) (hjk : j ≤ k := by first | decide | exact Nat.le_refl _ | omega)
    (ht : eval (.Call (.Attribute o m apos) [] [] pos) X.env = (do
      let ov ← eval o X.env
      standAt apos.atName
      let (f, first) ← holding [ov] (getMethod ov m pl)
      callWith pos f first (backTo pos (starEach [] X.env)) (backToKw pos (keywordEach [] X.env))) := by rfl) : DE X W (.Call (.Attribute o m apos) [] [] pos) (wMethF0 C m sp wo) := by
  obtain ⟨t, pt, rt⟩ := (df_meth0 (pl := pl) c hr ho hjk ht).ex
  exact ⟨t, pt, ⟨fun M mu σ ρ S H P E Q ok en hw n x => rt.run M mu σ ρ S H (fun l S2 => P (.lst l) S2) E Q ok en hw (frP ok n) x⟩⟩
end
section
variable {P : Program} {w : World} {K : PySem.W.Frag} {mg : Str → Option Value} {base : Heap} {C : Addr} {m nm qual : Str} {st : Stmt}
/-- THE RULE for a method that hands back a fresh list -/
theorem mtFr_def {N ps : List Str} {k : Nat} {sp : DSpF} {wb : DWS} (I : MIn K C m nm qual st [] []) (sc : FnScope N ps (defScope st))
    (hbd : ∀ (kV doc pm : Value) (an : Option Addr) (cdv ct : Value) (us : List Value), us.length = ps.length → bindArgs (PySem.W.fnOf nm qual (defArgs st) (defBody st) (defScope st) .none kV doc pm an cdv ct) ⟨us, []⟩ = pure (ps.zip us))
    (len : ∀ ds S P E, sp ds S P E → ds.length = ps.length)
    (hb : ∀ (f : Addr) (cdv : Value) (A : Around) (outer : List PySem.Env) (s : Shared) (H : Hp) (E : XK), Room k (A.deeper (envOfC qual (defScope st) s.heap.objs.size f cdv)) → DSs (cxOf CX0 P w K mg base N qual (defScope st) f cdv A outer s H E) (fun C d _ H' => E C d H') (defBody st) wb)
    (hw : ∀ ds S P E, S.all (lo S.length) = true → sp ds S P E → wb (endsF S.length P E) (startD N.length ds) S) : MtFr P w K mg base (k + 1) C m ps sp := by
  obtain ⟨f, fd, F, c, hm⟩ := I
  refine ⟨f, fd, F.ok sc (fun vs H Q E h => ?_) (fun cdv A outer s H vs Q E hr h => ?_), c, hm, F.bindsN hbd⟩
  · obtain ⟨M, mu, S, ds, P, Ex, ok, r, q, _⟩ := h
    rw [← r.len]
    exact len _ _ _ _ q
  · obtain ⟨M, mu, S, ds, P, Ex, ok, r, q, n, xx⟩ := h
    obtain ⟨t, p, rb⟩ := (hb f cdv A outer s H E hr).ex
    exact ⟨t, p, rb.run M mu _ _ S H _ _ ok (env_start r) (hw ds S P Ex ok.scoped q) (eok_defF ok n xx)⟩
end
/-! a list comprehension, held -/
def wLcF (wi : DWI) (wg : DWG) (wt : DWT) (we : DW) (vs : List Nat) : DWA := fun ρ S P E => wi ρ S (fun items src S1 => (match src with
  | none => True
  | some _ => False) ∧ lcW wg wt we (wD ρ vs) P items [] S1) E
section
variable {K : PySem.W.Frag} {W : WX} {ti : TI} {g : TG} {tt : TT} {te : TE} {wi : DWI} {wg : DWG} {wt : DWT} {we : DW} {vs is : List Nat}
theorem rd_lcF (ri : RdI K W ti wi) (rg : RdG K g wg is) (hs : ∀ i ∈ is, i ∈ vs) (rt : RdT K W0 tt wt) (re : Rd K W0 te we) : RdF K W (tLc ti g tt te vs) (wLcF wi wg wt we vs) := by
  refine ⟨fun M mu σ ρ S H P E Q ok en hw n x => ?_⟩
  refine ri.run M mu σ ρ S H _ E _ ok en hw (fun J H1 items src S1 k1 ok1 it hsrc h1 => ?_) x
  obtain ⟨hnone, h1⟩ := h1
  have hsrc0 : src = none := by
    cases src with
    | none => rfl
    | some _ => exact hnone.elim
  subst hsrc0
  intro p hp
  have np : p ∉ mu := fun h => ok1.tr p (ok1.sub p h) hp
  obtain ⟨ex1, oka⟩ := ok1.aside hp (.lst [])
  have en1 := en.keep ok k1
  have good : ∀ H', Keep mu H1 H' → Ext M mu H1 (fun a => M a ∨ a = p) mu H' := fun H' k => ⟨⟨fun b q h nb => k b q h (nb.imp (fun nb z => nb (ok1.sub b z)) id), ⟨[], by simp⟩, fun a h => h.imp id fun e => by rw [e]; exact hp⟩, k, fun a h => .inl h, fun a h => .inl h, ok1.sub⟩
  have xf : ∀ (M : Addr → Prop) H' σ', Exc K M mu H' EF (fun C d H' => W0 C d σ' H') := fun _ _ _ _ _ _ _ _ _ _ _ _ h => h
  refine ⟨fun i m H' => m = items.length - i ∧ i ≤ items.length ∧ ∃ S' acc vacc, Keep mu H1 H' ∧ H' p = some (.lst vacc) ∧ Wok K (fun a => M a ∨ a = p) mu H' S' ∧ Rs K (fun a => M a ∨ a = p) mu H' acc vacc ∧ lcW wg wt we (wD ρ vs) P (items.drop i) acc S',
    ⟨items.length, by simp, Nat.zero_le _, S1, [], [], ex1.keep, upd_same, oka, rfl, by simpa using h1⟩, ?_⟩
  rintro i m H' ⟨rfl, hi, S', acc, vacc, kH, hpa, okp, racc, hl⟩
  have ex' := good H' kH
  by_cases hlt : i < items.length
  · refine .inr ?_
    rw [List.drop_eq_getElem_cons hlt] at hl
    have hl1 := (it _ _ _ S' ex' okp True.intro i).1 items[i] (List.getElem?_eq_getElem hlt)
    refine ⟨hl1.1, fun H2 => ∃ S2 acc2 vacc2, Keep mu H1 H2 ∧ H2 p = some (.lst vacc2) ∧ Wok K (fun a => M a ∨ a = p) mu H2 S2 ∧ Rs K (fun a => M a ∨ a = p) mu H2 acc2 vacc2 ∧ lcW wg wt we (wD ρ vs) P (items.drop (i + 1)) acc2 S2,
      fun H2 q => ⟨items.length - (i + 1), by omega, rfl, hlt, q⟩, fun y H2 hy => ?_⟩
    obtain ⟨k2, ok2, r2⟩ := hl1.2 y H2 hy
    have enb : Env K (fun a => M a ∨ a = p) mu H2 (wD ρ vs) (wipe σ vs) := (en1.wipe vs).mono (good H2 (kH.trans k2)).toExt0
    have racc2 := racc.keep okp k2
    refine rg.run _ mu _ _ S' H2 items[i] y _ _ ok2 enb r2 hl.2 fun σ3 ρ3 en3 w3 h3 => ?_
    refine ⟨(w3 vs hs).trans wipe_wipe, ?_⟩
    refine rt.run _ mu σ3 ρ3 S' H2 _ EF _ ok2 en3 h3 (fun b H4 S4 k4 ok4 h4 => ?_) (xf _ _ _)
    cases b with
    | false =>
      rw [if_neg Bool.false_ne_true] at h4 ⊢
      exact ⟨S4, acc, vacc, kH.trans (k2.trans k4), k4 _ _ (k2 _ _ hpa (.inl np)) (.inl np), ok4, racc2.keep ok2 k4, h4⟩
    | true =>
      rw [if_pos rfl] at h4 ⊢
      refine re.run _ mu σ3 ρ3 S4 H4 _ EF _ ok4 (en3.keep ok2 k4) h4 (fun v H5 d5 S5 k5 ok5 r5 h5 => ?_) (xf _ _ _)
      have hp5 : H5 p = some (.lst vacc) := k5 _ _ (k4 _ _ (k2 _ _ hpa (.inl np)) (.inl np)) (.inl np)
      have racc5 := (racc2.keep ok2 k4).keep ok4 k5
      have hlen := lcW_len h5
      obtain ⟨exw, okw⟩ := ok5.wrote np (notF_lst hp5) (.lst (vacc ++ [v]))
      refine ⟨vacc, hp5, ?_, S5, acc ++ [d5], vacc ++ [v], ?_, upd_same, okw, (Rs.mono exw _ _ racc5).app ⟨v, [], rfl, R.mono exw _ _ r5, rfl⟩, h5⟩
      · rw [← racc5.len]
        rw [List.length_append, List.length_singleton] at hlen
        rw [sizeLine_eq]
        omega
      · intro b q hb nb
        rw [upd_ne (ne_of_none hb hp)]
        exact k5 _ _ (k4 _ _ (k2 _ _ (kH b q hb nb) nb) nb) nb
  · refine .inl ?_
    have e : i = items.length := by omega
    subst e
    rw [List.drop_length] at hl
    refine ⟨(it _ _ _ S' ex' okp True.intro _).2 (Nat.le_refl _), ?_⟩
    exact n p vacc H' acc S' ((Ext.of ok.sub k1).back hp np) (k1.trans kH) hpa okp racc hl.2
end
section
variable {X : Cx} {W : WX} {elt tg iter : Expr} {ifs : List Expr} {scope : Scope} {own : List (Str × Nat)} {pos : Pos} {wi : DWI} {wg : DWG} {wt : DWT} {we : DW} {is : List Nat}
theorem df_lc (hc : X.calm = true) (hN : X.N.Nodup) (hi : DI X W tg iter wi) (ok : BlkOk X.N X.env.scope scope own)
    (hg : ∀ (s : Shared) (H : Hp) (C : Addr) (cl : List (Str × Addr)) (fp : List Addr), DG (X.blk s H scope (compEnvC scope cl C X.env) fp) tg wg is)
    (ht : ∀ (s : Shared) (H : Hp) (C : Addr) (cl : List (Str × Addr)) (fp : List Addr), DTs (X.blk s H scope (compEnvC scope cl C X.env) fp) W0 ifs wt)
    (he : ∀ (s : Shared) (H : Hp) (C : Addr) (cl : List (Str × Addr)) (fp : List Addr), DE (X.blk s H scope (compEnvC scope cl C X.env) fp) W0 elt we)
    (his : ∀ i ∈ is, i ∈ own.map (·.2) := by decide) (hs : ∀ x, foldedSetIterable iter X.env x = pure x := by intro _; rfl) :
    DF X W (.ListComp elt [⟨tg, iter, ifs, 0⟩] scope pos) (wLcF wi wg wt we (own.map (·.2))) := by
  obtain ⟨ti, pi, ri⟩ := hi.ex
  exact ⟨_, pe_lc hc hN pi ok (fun s H C cl fp => (hg s H C cl fp).can) (fun s H C cl fp => (ht s H C cl fp).can) (fun s H C cl fp => (he s H C cl fp).can) hs, rd_lcF ri rd_gOf his rd_ttOf rd_tOf⟩
end
/-! e.append(x) as a statement, e a fresh list -/
def wsBMX (T : String) (f : DFm) (wo : DW) (w : DWA) : DWS := fun Y ρ S => wo ρ S (fun x S1 => rcv T S1 x ∧ w ρ S1 (fun xs S2 => f x xs S2 (fun _ S3 => Y.nx ρ S3)) Y.ex) Y.ex
section
variable {X : Cx} {W : WX} {o e : Expr} {es : List Expr} {wo : DW} {w : DWA} {name : Str} {apos cpos pos : Pos} {T id : String} {r : V → List V → Hp → VK → Prop} {f : DFm}
theorem ds_bmX (pa : PlainAttrs T) (slot : Slot T name id) (hty : typeOf (.builtin id) = pure (.type "method_descriptor")) (hm : MtR X id r) (hf : MtD X.K r f) (ho : DX X W o wo) (ha : DA X W (e :: es) w)
    (hbase : attributeBase o name X.env (eval o X.env) = eval o X.env := by rfl)
    (hfew : ((backTo cpos (starEach (e :: es) X.env)).all (fun x => !x.1) && (backToKw cpos (keywordEach [] X.env)).all (fun x => x.1.isSome)
      && decide ((e :: es).length + ([] : List Keyword).length + (if ([] : List Keyword).isEmpty then 0 else 1) < 30)) = true := by rfl)
    (hline : (apos.endLine == cpos.line) = true := by rfl) (hs : starEach (e :: es) X.env = (false, eval e X.env) :: starEach es X.env := by rfl) (hplain : (backTo cpos (starEach es X.env)).any (·.1) = false := by rfl)
    (hsw : swapsWith (.Call (.Attribute o name apos) (e :: es) [] cpos) none pos.line X.env = pure false := by rfl) :
    DS X W (.Expr (.Call (.Attribute o name apos) (e :: es) [] cpos) pos) (wsBMX T f wo w) := by
  obtain ⟨_, po, ro⟩ := ho.ex
  obtain ⟨_, pt, rt⟩ := ha.ex
  refine ⟨_, ps_expr (pe_bm pa slot hty hm po pt hbase hfew hline hs hplain) hsw, ⟨fun M mu σ ρ S H Y Y' ok en hw n => ?_⟩⟩
  refine ro.run M mu σ ρ S H _ _ _ ok en hw (fun M1 mu1 v H1 d S1 e1 ok1 r1 h1 => ?_) (n.excX σ)
  have n1 := n.mono e1
  have en1 := en.mono e1.toExt0
  refine ⟨rcv_ok ok1 r1 h1.1, ?_⟩
  refine rt.run M1 mu1 σ ρ S1 H1 _ _ _ ok1 en1 h1.2 (fun vs H2 ds S2 k2 ok2 r2 h2 => ?_) (n1.exc ok1.sub σ)
  exact hf M1 mu1 H2 S2 d ds v vs _ _ ok2 (r1.keep ok1 k2) r2 h2 fun v' H3 d' S3 k3 ok3 r3 h3 => n1.nx M1 mu1 σ ρ S3 H3 (.of ok1.sub (k2.trans k3)) ok3 (en1.keep ok1 (k2.trans k3)) h3
end
theorem wiEnum_of {w : DWA} {ρ : Loc} {S : Sto} {x : D} {l : List D} {P : List D → Src → Sto → Prop} {E : Ex} (hw : ∀ Q : List D → Sto → Prop, Q [x] S → w ρ S Q E) (h : SeqD x S l) (hp : ∀ src, srcOk src l S → P (enumD l) src S) : wiEnumA w ρ S P E := by
  refine hw _ ?_
  rcases h with rfl | rfl | rfl | ⟨i, rfl, e⟩
  · exact hp none True.intro
  · exact hp none True.intro
  · exact hp none True.intro
  · show (match val S (.loc i) with
      | .lst ds => P (enumD ds) (some (i, ds)) S
      | _ => False)
    rw [val_at e]
    exact hp (some (i, l)) e
/-! the combinators applied -/
section
variable {C : Addr} {m : Str} {sp : DSp} {spf : DSpF} {we wo : DW} {w : DWA} {ρ : Loc} {S : Sto} {P : DK} {PL : List D → Sto → Prop} {E : Ex} {Y : DEnds} {T : String} {f : DFm} {wi : DWI} {g : DWG} {tt : DWT} {te : DW} {vs : List Nat}
theorem wNotOwn_ap : wNotOwn C sp we ρ S P E = (we ρ S (fun x S1 => isObjD C S1 x ∧ sp [x] S1 (truP fun b S2 => P (.bl (!b)) S2) EF) E) := rfl
theorem wMethX0_ap : wMethX0 C m spf wo ρ S PL E = (wo ρ S (fun x S1 => recvD C m x S1 ∧ spf [x] S1 PL EF) E) := rfl
theorem wMethF0_ap : wMethF0 C m spf wo ρ S P E = (wo ρ S (fun x S1 => recvD C m x S1 ∧ spf [x] S1 (fun l S2 => P (.lst l) S2) EF) E) := rfl
theorem wsBMX_ap : wsBMX T f wo w Y ρ S = (wo ρ S (fun x S1 => rcv T S1 x ∧ w ρ S1 (fun xs S2 => f x xs S2 (fun _ S3 => Y.nx ρ S3)) Y.ex) Y.ex) := rfl
theorem wLcF_ap : wLcF wi g tt te vs ρ S PL E = (wi ρ S (fun items src S1 => (match src with
  | none => True
  | some _ => False) ∧ lcW g tt te (wD ρ vs) PL items [] S1) E) := rfl
end
end DL
set_option maxRecDepth 100000
namespace DL
open PySem PySem.Spec PyProof.Rows L2
/-! tables told by what they give -/
theorem tget_iff {t : Tab} (h : TOk t) {p : Pl} {c : Int} : tget t p = some c ↔ (p, c) ∈ t := by
  constructor
  · intro q
    unfold tget at q
    obtain ⟨e, h1, h2⟩ := Option.map_eq_some_iff.mp q
    have h3 := List.find?_some h1
    have h4 := List.mem_of_find?_eq_some h1
    obtain ⟨e1, e2⟩ := e
    obtain rfl : e1 = p := of_decide_eq_true h3
    obtain rfl : e2 = c := h2
    exact h4
  · intro q
    exact tget_mem h q
theorem tget_isSome {t : Tab} {p : Pl} : (tget t p).isSome = true ↔ p ∈ t.map (·.1) := by
  rw [← any_iff]
  cases q : (t.any fun e => decide (e.1 = p)) with
  | false => simp [tget_none q]
  | true =>
    refine ⟨fun _ => rfl, fun _ => ?_⟩
    unfold tget
    rw [Option.isSome_map, List.find?_isSome]
    obtain ⟨e, h1, h2⟩ := List.any_eq_true.mp q
    exact ⟨e, h1, h2⟩
def sumAt (p : Pl) : List (Pl × Int) → Int
  | [] => 0
  | r :: rs => (if r.1 = p then r.2 else 0) + sumAt p rs
theorem sumAt_cons {p : Pl} {r : Pl × Int} {rs : List (Pl × Int)} : sumAt p (r :: rs) = (if r.1 = p then r.2 else 0) + sumAt p rs := rfl
theorem sumAt_perm {p : Pl} {rs rs' : List (Pl × Int)} (h : rs.Perm rs') : sumAt p rs = sumAt p rs' := by
  induction h with
  | nil => rfl
  | cons x _ ih => unfold sumAt; rw [ih]
  | swap x y l => simp only [sumAt]; omega
  | trans _ _ ih1 ih2 => rw [ih1, ih2]
theorem sumAt_none {p : Pl} : ∀ {rs : List (Pl × Int)}, (rs.any fun r => decide (r.1 = p)) = false → sumAt p rs = 0
  | [], _ => rfl
  | r :: rs, h => by
    rw [List.any_cons, Bool.or_eq_false_iff] at h
    unfold sumAt
    rw [if_neg (of_decide_eq_false h.1), sumAt_none h.2]; rfl
theorem tget_tally (p : Pl) : ∀ (rs : List (Pl × Int)) (t : Tab), tget (tally rs t) p = if (rs.any fun r => decide (r.1 = p)) = true then some ((tget t p).getD 0 + sumAt p rs) else tget t p
  | [], t => rfl
  | r :: rs, t => by
    show tget (tally rs (tput t r.1 ((tget t r.1).getD 0 + r.2))) p = _
    rw [tget_tally p rs, tget_put, List.any_cons]
    by_cases h : r.1 = p
    · subst h
      rw [if_pos rfl, decide_eq_true rfl, Bool.true_or, if_pos rfl]
      rw [sumAt_cons, if_pos rfl]
      by_cases q : (rs.any fun s => decide (s.1 = r.1)) = true
      · rw [if_pos q]
        congr 1
        show (tget t r.1).getD 0 + r.2 + sumAt r.1 rs = _
        omega
      · rw [if_neg q, sumAt_none (Bool.eq_false_iff.mpr q)]
        congr 1
        omega
    · have h' : ¬ p = r.1 := fun z => h z.symm
      rw [if_neg h', decide_eq_false h, Bool.false_or]
      rw [sumAt_cons, if_neg h, Int.zero_add]
theorem tget_leaves {f : Int → Int} {p : Pl} {t : Tab} (h : TOk t) : tget (leaves f t) p = (tget t p).bind fun c => if f c = 0 then none else some (f c) := by
  cases q : tget t p with
  | none =>
    cases q2 : tget (leaves f t) p with
    | none => rfl
    | some c =>
      have h1 := (tget_iff (tok_leaves h)).mp q2
      obtain ⟨x, hx, e2⟩ := List.mem_filterMap.mp h1
      by_cases z : f x.2 = 0
      · rw [if_pos z] at e2; cases e2
      · rw [if_neg z] at e2
        injection e2 with e2
        injection e2 with e3 e4
        have := tget_mem h hx
        rw [e3, q] at this
        cases this
  | some c =>
    have h1 := (tget_iff h).mp q
    show _ = if f c = 0 then none else some (f c)
    by_cases z : f c = 0
    · rw [if_pos z]
      cases q2 : tget (leaves f t) p with
      | none => rfl
      | some b =>
        have h1 := (tget_iff (tok_leaves h)).mp q2
        obtain ⟨x, hx, e2⟩ := List.mem_filterMap.mp h1
        by_cases z2 : f x.2 = 0
        · rw [if_pos z2] at e2; cases e2
        · rw [if_neg z2] at e2
          injection e2 with e2
          injection e2 with e3 e4
          have := tget_mem h hx
          rw [e3, q] at this
          injection this with this
          rw [this] at z
          exact absurd z z2
    · rw [if_neg z]
      refine (tget_iff (tok_leaves h)).mpr (List.mem_filterMap.mpr ⟨(p, c), h1, ?_⟩)
      rw [if_neg z]
/-- the table of such rows -/
def tabOf (f : Int → Int) (rows : List (Pl × Int)) : Tab := leaves f (tally rows [])
theorem tok_of (f : Int → Int) (rows : List (Pl × Int)) : TOk (tabOf f rows) := tok_leaves (tok_tally rows List.nodup_nil)
theorem tget_of {f : Int → Int} (h0 : f 0 = 0) (rows : List (Pl × Int)) (p : Pl) : tget (tabOf f rows) p = if f (sumAt p rows) = 0 then none else some (f (sumAt p rows)) := by
  unfold tabOf
  rw [tget_leaves (tok_tally rows (t := []) List.nodup_nil), tget_tally]
  by_cases q : (rows.any fun r => decide (r.1 = p)) = true
  · rw [if_pos q]
    show (if f (0 + sumAt p rows) = 0 then none else some (f (0 + sumAt p rows))) = _
    rw [Int.zero_add]
  · rw [if_neg q, sumAt_none (Bool.eq_false_iff.mpr q), if_pos h0]
    rfl
theorem len_of (f : Int → Int) (rows : List (Pl × Int)) : (tabOf f rows).length ≤ rows.length := by
  have h1 : (leaves f (tally rows [])).length ≤ (tally rows []).length := List.length_filterMap_le _ _
  have h2 := tally_len rows []
  rw [List.length_nil, Nat.zero_add] at h2
  exact Nat.le_trans h1 h2
/-! sorted keys -/
def leP (p q : Pl) : Bool := decide (p.1 < q.1 ∨ (p.1 = q.1 ∧ p.2 ≤ q.2))
theorem leP_trans (a b c : Pl) (h : leP a b = true) (g : leP b c = true) : leP a c = true := by
  have h := of_decide_eq_true h
  have g := of_decide_eq_true g
  exact decide_eq_true (by omega)
theorem leP_total (a b : Pl) : (leP a b || leP b a) = true := by
  unfold leP
  rw [Bool.or_eq_true, decide_eq_true_iff, decide_eq_true_iff]
  omega
theorem leP_anti (a b : Pl) (h : leP a b = true) (g : leP b a = true) : a = b := by
  have h := of_decide_eq_true h
  have g := of_decide_eq_true g
  exact Prod.ext (by omega) (by omega)
def sortK (t : Tab) : List Pl := (t.map (·.1)).mergeSort leP
theorem sortK_perm (t : Tab) : (sortK t).Perm (t.map (·.1)) := List.mergeSort_perm _ _
theorem sortK_sorted (t : Tab) : (sortK t).Pairwise fun a b => leP a b = true := List.pairwise_mergeSort leP_trans leP_total _
theorem sortK_uniq {t u : Tab} (h : (t.map (·.1)).Perm (u.map (·.1))) : sortK t = sortK u :=
  List.Perm.eq_of_pairwise (fun a b _ _ => leP_anti a b) (sortK_sorted t) (sortK_sorted u) ((sortK_perm t).trans (h.trans (sortK_perm u).symm))
def unP : D → Pl
  | .tup [.int a, .int b] => (a, b)
  | _ => (0, 0)
theorem leT_pl {p q : Pl} (h : leT (plD p) (plD q)) : leP p q = true := by
  have := h [p.1, p.2] [q.1, q.2] rfl rfl
  rcases this with e | e
  · injection e with e1 e2
    injection e2 with e2 e3
    exact decide_eq_true (by omega)
  · refine decide_eq_true ?_
    unfold lexI at e
    by_cases q1 : p.1 = q.1
    · rw [if_pos q1] at e
      unfold lexI at e
      by_cases q2 : p.2 = q.2
      · exact .inr ⟨q1, Int.le_of_eq q2⟩
      · rw [if_neg q2] at e
        exact .inr ⟨q1, Int.le_of_lt (of_decide_eq_true e)⟩
    · rw [if_neg q1] at e
      exact .inl (of_decide_eq_true e)
theorem sort_uniq {t : Tab} {l : List D} (hp : l.Perm (t.map fun e => plD e.1)) (hs : l.Pairwise leT) : l = (sortK t).map plD := by
  have e1 : (t.map fun e => plD e.1) = (t.map (·.1)).map plD := by rw [List.map_map]; rfl
  rw [e1] at hp
  have e2 : (l.map unP).map plD = l := by
    rw [List.map_map]
    refine (List.map_congr_left fun x hx => ?_).trans (List.map_id l)
    obtain ⟨p, _, rfl⟩ := List.mem_map.mp (hp.subset hx)
    rfl
  have p1 : (l.map unP).Perm (t.map (·.1)) := by
    have := hp.map unP
    rw [List.map_map (f := plD)] at this
    have e : unP ∘ plD = id := rfl
    rw [e, List.map_id] at this
    exact this
  have s1 : (l.map unP).Pairwise fun a b => leP a b = true := by
    rw [← e2] at hs
    rw [List.pairwise_map] at hs
    exact hs.imp fun h => leT_pl h
  rw [← e2]
  congr 1
  exact List.Perm.eq_of_pairwise (fun a b _ _ => leP_anti a b) s1 (sortK_sorted t) (p1.trans (sortK_perm t).symm)
/-! equal tables -/
def eqT (A B : Tab) : Bool := A.length == B.length && A.all fun e => match tget B e.1 with
  | some c => e.2 == c
  | none => false
theorem keys_perm {A B : Tab} (hA : TOk A) (hB : TOk B) (h : ∀ p, tget A p = tget B p) : (A.map (·.1)).Perm (B.map (·.1)) := by
  refine (List.perm_ext_iff_of_nodup hA hB).mpr fun p => ?_
  rw [← tget_isSome, ← tget_isSome, h p]
theorem eqT_iff {A B : Tab} (hA : TOk A) (hB : TOk B) : eqT A B = true ↔ ∀ p, tget A p = tget B p := by
  unfold eqT
  rw [Bool.and_eq_true, beq_iff_eq, List.all_eq_true]
  constructor
  · rintro ⟨hl, hall⟩ p
    have sub : A.map (·.1) ⊆ B.map (·.1) := fun q hq => by
      obtain ⟨e, he, rfl⟩ := List.mem_map.mp hq
      have := hall e he
      rw [← tget_isSome]
      cases z : tget B e.1 with
      | none => rw [z] at this; cases this
      | some _ => rfl
    cases z : tget A p with
    | some c =>
      have := hall _ ((tget_iff hA).mp z)
      cases z2 : tget B p with
      | none => simp only [z2] at this; cases this
      | some b =>
        simp only [z2] at this
        rw [beq_iff_eq.mp this]
    | none =>
      cases z2 : tget B p with
      | none => rfl
      | some b =>
        exfalso
        have hp : p ∈ B.map (·.1) := tget_isSome.mp (by rw [z2]; rfl)
        have hn : p ∉ A.map (·.1) := fun q => by
          have := tget_isSome.mpr q
          rw [z] at this
          cases this
        have hsub : (p :: A.map (·.1)) ⊆ B.map (·.1) := fun q hq => by
          rcases List.mem_cons.mp hq with e | e
          · rw [e]; exact hp
          · exact sub e
        have := List.Nodup.length_le_of_subset (List.nodup_cons.mpr ⟨hn, hA⟩) hsub
        simp at this
        omega
  · intro h
    refine ⟨by have := (keys_perm hA hB h).length_eq; simpa using this, fun e he => ?_⟩
    have := tget_mem hA he
    rw [h] at this
    rw [this]
    exact beq_self_eq_true _
def rowsT (t : Tab) : List D := (sortK t).map fun p => rowD (p, (tget t p).getD 0)
theorem rowsT_len (t : Tab) : (rowsT t).length = t.length := by
  unfold rowsT
  rw [List.length_map, (sortK_perm t).length_eq, List.length_map]
theorem rowsT_iff {A B : Tab} (hA : TOk A) (hB : TOk B) : rowsT A = rowsT B ↔ ∀ p, tget A p = tget B p := by
  constructor
  · intro h
    have inj : ∀ {k l : List Pl} {f g : Pl → Int}, (k.map fun p => rowD (p, f p)) = (l.map fun p => rowD (p, g p)) → k = l ∧ ∀ p ∈ k, f p = g p := fun {k} => by
      induction k with
      | nil =>
        intro l f g e
        cases l with
        | nil => exact ⟨rfl, fun _ h => nomatch h⟩
        | cons _ _ => cases e
      | cons a k ih =>
        intro l f g e
        cases l with
        | nil => cases e
        | cons b l =>
          injection e with e1 e2
          obtain ⟨r1, r2⟩ := ih e2
          have e3 : [D.int a.1, D.int a.2, D.int (f a)] = [D.int b.1, D.int b.2, D.int (g b)] := D.tup.inj e1
          injection e3 with q1 e3
          injection e3 with q2 e3
          injection e3 with q3 _
          have ab : a = b := Prod.ext (D.int.inj q1) (D.int.inj q2)
          subst ab
          refine ⟨by rw [r1], fun p hp => ?_⟩
          rcases List.mem_cons.mp hp with e | e
          · rw [e]; exact D.int.inj q3
          · exact r2 p e
    obtain ⟨h1, h2⟩ := inj h
    have hk : (A.map (·.1)).Perm (B.map (·.1)) := (sortK_perm A).symm.trans (h1 ▸ sortK_perm B)
    intro p
    by_cases hp : p ∈ A.map (·.1)
    · have s1 := tget_isSome.mpr hp
      have s2 := tget_isSome.mpr (hk.subset hp)
      have e := h2 p ((sortK_perm A).symm.subset hp)
      cases z1 : tget A p with
      | none => rw [z1] at s1; cases s1
      | some a =>
        cases z2 : tget B p with
        | none => rw [z2] at s2; cases s2
        | some b =>
          rw [z1, z2] at e
          have e' : a = b := e
          rw [e']
    · have n1 : tget A p = none := by
        cases z : tget A p with
        | none => rfl
        | some _ => exact absurd (tget_isSome.mp (by rw [z]; rfl)) hp
      have n2 : tget B p = none := by
        cases z : tget B p with
        | none => rfl
        | some _ => exact absurd (hk.symm.subset (tget_isSome.mp (by rw [z]; rfl))) hp
      rw [n1, n2]
  · intro h
    unfold rowsT
    rw [sortK_uniq (keys_perm hA hB h)]
    exact List.map_congr_left fun p _ => by rw [h]
/-! as plain data -/
def pyT (t : Tab) : TPy := t.map fun e => (kP e.1, PyData.int e.2)
theorem toPyT_enc : ∀ t : Tab, toPyT (encT t) = some (pyT t)
  | [] => rfl
  | e :: t => by
    show (match toPy (.int e.2), toPyT (encT t) with
      | some p, some ps => some ((kP e.1, p) :: ps)
      | _, _ => none) = _
    rw [toPyT_enc t]
    rfl
theorem shaped_py (t : Tab) : ((pyT t).all fun p => SeqAt.shaped p.2) = true := by
  unfold pyT
  rw [List.all_map]
  exact List.all_eq_true.mpr fun _ _ => rfl
theorem lookP_py (p : Pl) : ∀ t : Tab, lookP (pyT t) (kP p) = (tget t p).map PyData.int
  | [] => rfl
  | e :: t => by
    have ih := lookP_py p t
    unfold lookP tget pyT at ih ⊢
    rw [List.map_cons, List.find?_cons, List.find?_cons]
    by_cases h : e.1 = p
    · rw [show (decide (kP e.1 = kP p)) = true from decide_eq_true (by rw [h]), decide_eq_true h]
      rfl
    · rw [show (decide (kP e.1 = kP p)) = false from decide_eq_false fun z => h (kP_inj.mp z), decide_eq_false h]
      exact ih
theorem eqTab_py (A B : Tab) : eqTab (pyT A) (pyT B) = eqT A B := by
  unfold eqTab eqT
  congr 1
  · simp [pyT]
  · rw [show pyT A = A.map fun e => (kP e.1, PyData.int e.2) from rfl, List.all_map]
    refine congrArg (List.all A) (funext fun e => ?_)
    show (match lookP (pyT B) (kP e.1) with
      | some q => PyData.eqv (PyData.int e.2) q
      | none => false) = _
    rw [lookP_py]
    cases tget B e.1 with
    | none => rfl
    | some c => rfl
end DL
set_option maxRecDepth 100000
set_option maxHeartbeats 2000000
namespace DL
open PySem PySem.Spec PyProof.Rows L2
theorem bt_repr : bootBuiltins "repr" = some (.builtin "repr") := by first | exact PySem.boot_repr | exact PyProof.Rows.boot_repr | decide +kernel
/-! a list comprehension over a cell: the cell must stay -/
def lcWS (src : Src) (g : DWG) (tt : DWT) (te : DW) (ρ : Loc) (P : List D → Sto → Prop) : List D → List D → Sto → Prop
  | [], acc, S => (match src with
    | none => True
    | some (j, l) => S[j]? = some (.lst l)) ∧ acc.length ≤ 1000000 ∧ P acc S
  | x :: xs, acc, S => (match src with
    | none => True
    | some (j, l) => S[j]? = some (.lst l)) ∧ acc.length ≤ 1000000 ∧ g x S ρ fun ρ' => tt ρ' S (fun b S1 => if b = true then te ρ' S1 (fun y S2 => lcWS src g tt te ρ P xs (acc ++ [y]) S2) EF else lcWS src g tt te ρ P xs acc S1) EF
section
variable {src : Src} {g : DWG} {tt : DWT} {te : DW} {ρ : Loc} {P : List D → Sto → Prop}
theorem lcWS_src : ∀ {xs acc : List D} {S : Sto}, lcWS src g tt te ρ P xs acc S → (match src with
    | none => True
    | some (j, l) => S[j]? = some (.lst l))
  | [], _, _, h => h.1
  | _ :: _, _, _, h => h.1
theorem lcWS_len : ∀ {xs acc : List D} {S : Sto}, lcWS src g tt te ρ P xs acc S → acc.length ≤ 1000000
  | [], _, _, h => h.2.1
  | _ :: _, _, _, h => h.2.1
end
def wLcS (wi : DWI) (g : DWG) (tt : DWT) (te : DW) (vs : List Nat) : DW := fun ρ S P E => wi ρ S (fun items src S1 => lcWS src g tt te (wD ρ vs) (fun ds S2 => P (.lst ds) S2) items [] S1) E
theorem wLcS_ap {wi : DWI} {g : DWG} {tt : DWT} {te : DW} {vs : List Nat} {ρ : Loc} {S : Sto} {P : DK} {E : Ex} : wLcS wi g tt te vs ρ S P E = (wi ρ S (fun items src S1 => lcWS src g tt te (wD ρ vs) (fun ds S2 => P (.lst ds) S2) items [] S1) E) := rfl
/-- a target that is a name, no test, a store that stays -/
theorem lcWS_map {src : Src} {i : Nat} {te : DW} {ρ : Loc} {P : List D → Sto → Prop} {S : Sto} (f : D → D) (hs : match src with
    | none => True
    | some (j, l) => S[j]? = some (.lst l)) : ∀ (xs acc : List D), (∀ x ∈ xs, ∀ Q : DK, Q (f x) S → te (ρ.set i (some x)) S Q EF) → acc.length + xs.length ≤ 1000000 → P (acc ++ xs.map f) S → lcWS src (wgName i) wTYes te ρ P xs acc S
  | [], acc, _, hl, h => ⟨hs, hl, by simpa using h⟩
  | x :: xs, acc, ht, hl, h => by
    refine ⟨hs, by rw [List.length_cons] at hl; omega, ?_⟩
    show (if true = true then te (ρ.set i (some x)) S (fun y S2 => lcWS src (wgName i) wTYes te ρ P xs (acc ++ [y]) S2) EF else lcWS src (wgName i) wTYes te ρ P xs acc S)
    rw [if_pos rfl]
    refine ht x (List.mem_cons_self ..) _ (lcWS_map f hs xs (acc ++ [f x]) (fun y hy => ht y (List.mem_cons_of_mem _ hy)) (by simp; rw [List.length_cons] at hl; omega) ?_)
    rw [List.append_assoc]
    exact h
section
variable {K : PySem.W.Frag} {W : WX} {ti : TI} {g : TG} {tt : TT} {te : TE} {wi : DWI} {wg : DWG} {wt : DWT} {we : DW} {vs is : List Nat}
theorem rd_lcS (ri : RdI K W ti wi) (rg : RdG K g wg is) (hs : ∀ i ∈ is, i ∈ vs) (rt : RdT K W0 tt wt) (re : Rd K W0 te we) : Rd K W (tLc ti g tt te vs) (wLcS wi wg wt we vs) := by
  refine ⟨fun M mu σ ρ S H P E Q ok en hw n x => ?_⟩
  refine ri.run M mu σ ρ S H _ E _ ok en hw (fun J H1 items src S1 k1 ok1 it hsrc h1 => ?_) x
  intro p hp
  have np : p ∉ mu := fun h => ok1.tr p (ok1.sub p h) hp
  obtain ⟨ex1, oka⟩ := ok1.aside hp (.lst [])
  have en1 := en.keep ok k1
  have good : ∀ H', Keep mu H1 H' → Ext M mu H1 (fun a => M a ∨ a = p) mu H' := fun H' k => ⟨⟨fun b q h nb => k b q h (nb.imp (fun nb z => nb (ok1.sub b z)) id), ⟨[], by simp⟩, fun a h => h.imp id fun e => by rw [e]; exact hp⟩, k, fun a h => .inl h, fun a h => .inl h, ok1.sub⟩
  have xf : ∀ (M : Addr → Prop) H' σ', Exc K M mu H' EF (fun C d H' => W0 C d σ' H') := fun _ _ _ _ _ _ _ _ _ _ _ _ h => h
  refine ⟨fun i m H' => m = items.length - i ∧ i ≤ items.length ∧ ∃ S' acc vacc, Keep mu H1 H' ∧ H' p = some (.lst vacc) ∧ Wok K (fun a => M a ∨ a = p) mu H' S' ∧ Rs K (fun a => M a ∨ a = p) mu H' acc vacc ∧ lcWS src wg wt we (wD ρ vs) (fun ds S2 => P (.lst ds) S2) (items.drop i) acc S',
    ⟨items.length, by simp, Nat.zero_le _, S1, [], [], ex1.keep, upd_same, oka, rfl, by simpa using h1⟩, ?_⟩
  rintro i m H' ⟨rfl, hi, S', acc, vacc, kH, hpa, okp, racc, hl⟩
  have ex' := good H' kH
  by_cases hlt : i < items.length
  · refine .inr ?_
    rw [List.drop_eq_getElem_cons hlt] at hl
    have hl1 := (it _ _ _ S' ex' okp (lcWS_src hl) i).1 items[i] (List.getElem?_eq_getElem hlt)
    refine ⟨hl1.1, fun H2 => ∃ S2 acc2 vacc2, Keep mu H1 H2 ∧ H2 p = some (.lst vacc2) ∧ Wok K (fun a => M a ∨ a = p) mu H2 S2 ∧ Rs K (fun a => M a ∨ a = p) mu H2 acc2 vacc2 ∧ lcWS src wg wt we (wD ρ vs) (fun ds S2 => P (.lst ds) S2) (items.drop (i + 1)) acc2 S2,
      fun H2 q => ⟨items.length - (i + 1), by omega, rfl, hlt, q⟩, fun y H2 hy => ?_⟩
    obtain ⟨k2, ok2, r2⟩ := hl1.2 y H2 hy
    have enb : Env K (fun a => M a ∨ a = p) mu H2 (wD ρ vs) (wipe σ vs) := (en1.wipe vs).mono (good H2 (kH.trans k2)).toExt0
    have racc2 := racc.keep okp k2
    refine rg.run _ mu _ _ S' H2 items[i] y _ _ ok2 enb r2 hl.2.2 fun σ3 ρ3 en3 w3 h3 => ?_
    refine ⟨(w3 vs hs).trans wipe_wipe, ?_⟩
    refine rt.run _ mu σ3 ρ3 S' H2 _ EF _ ok2 en3 h3 (fun b H4 S4 k4 ok4 h4 => ?_) (xf _ _ _)
    cases b with
    | false =>
      rw [if_neg Bool.false_ne_true] at h4 ⊢
      exact ⟨S4, acc, vacc, kH.trans (k2.trans k4), k4 _ _ (k2 _ _ hpa (.inl np)) (.inl np), ok4, racc2.keep ok2 k4, h4⟩
    | true =>
      rw [if_pos rfl] at h4 ⊢
      refine re.run _ mu σ3 ρ3 S4 H4 _ EF _ ok4 (en3.keep ok2 k4) h4 (fun v H5 d5 S5 k5 ok5 r5 h5 => ?_) (xf _ _ _)
      have hp5 : H5 p = some (.lst vacc) := k5 _ _ (k4 _ _ (k2 _ _ hpa (.inl np)) (.inl np)) (.inl np)
      have racc5 := (racc2.keep ok2 k4).keep ok4 k5
      have hlen := lcWS_len h5
      obtain ⟨exw, okw⟩ := ok5.wrote np (notF_lst hp5) (.lst (vacc ++ [v]))
      refine ⟨vacc, hp5, ?_, S5, acc ++ [d5], vacc ++ [v], ?_, upd_same, okw, (Rs.mono exw _ _ racc5).app ⟨v, [], rfl, R.mono exw _ _ r5, rfl⟩, h5⟩
      · rw [← racc5.len]
        rw [List.length_append, List.length_singleton] at hlen
        rw [sizeLine_eq]
        omega
      · intro b q hb nb
        rw [upd_ne (ne_of_none hb hp)]
        exact k5 _ _ (k4 _ _ (k2 _ _ (kH b q hb nb) nb) nb) nb
  · refine .inl ?_
    have e : i = items.length := by omega
    subst e
    rw [List.drop_length] at hl
    refine ⟨(it _ _ _ S' ex' okp (lcWS_src hl) _).2 (Nat.le_refl _), ?_⟩
    refine n (.ref p) H' (.lst acc) S' (k1.trans kH) (okp.less (fun a h => .inl h) ok1.sub) ?_ hl.2.2
    exact ⟨p, vacc, rfl, fun h => ok1.tr p h hp, hpa, Rs.mono (ext_less fun a h => .inl h) _ _ racc⟩
end
section
variable {X : Cx} {W : WX} {elt tg iter : Expr} {ifs : List Expr} {scope : Scope} {own : List (Str × Nat)} {pos : Pos} {wi : DWI} {wg : DWG} {wt : DWT} {we : DW} {is : List Nat}
theorem de_lcS (hc : X.calm = true) (hN : X.N.Nodup) (hi : DI X W tg iter wi) (ok : BlkOk X.N X.env.scope scope own)
    (hg : ∀ (s : Shared) (H : Hp) (C : Addr) (cl : List (Str × Addr)) (fp : List Addr), DG (X.blk s H scope (compEnvC scope cl C X.env) fp) tg wg is)
    (ht : ∀ (s : Shared) (H : Hp) (C : Addr) (cl : List (Str × Addr)) (fp : List Addr), DTs (X.blk s H scope (compEnvC scope cl C X.env) fp) W0 ifs wt)
    (he : ∀ (s : Shared) (H : Hp) (C : Addr) (cl : List (Str × Addr)) (fp : List Addr), DE (X.blk s H scope (compEnvC scope cl C X.env) fp) W0 elt we)
    (his : ∀ i ∈ is, i ∈ own.map (·.2) := by decide) (hs : ∀ x, foldedSetIterable iter X.env x = pure x := by intro _; rfl) :
    DE X W (.ListComp elt [⟨tg, iter, ifs, 0⟩] scope pos) (wLcS wi wg wt we (own.map (·.2))) := by
  obtain ⟨ti, pi, ri⟩ := hi.ex
  exact ⟨_, pe_lc hc hN pi ok (fun s H C cl fp => (hg s H C cl fp).can) (fun s H C cl fp => (ht s H C cl fp).can) (fun s H C cl fp => (he s H C cl fp).can) hs, rd_lcS ri rd_gOf his rd_ttOf rd_tOf⟩
end
/-! a, b = x, y with values that make cells, no exchange of the stores -/
section
variable {X : Cx} {W : WX} {es : List Expr} {e : Expr} {w : DWA} {we : DW} {g : DWG} {is : List Nat} {pos : Pos}
theorem dx_tup {k : Nat} (hs : DAX X W es w) : DX X W (.Tuple es k pos) (wTup w) := by
  obtain ⟨ts, ps, rs⟩ := hs.ex
  refine ⟨_, pe_tup ps, ⟨fun M mu σ ρ S H P E Q ok en hw n x => ?_⟩⟩
  refine rs.run M mu σ ρ S H _ E _ ok en hw (fun M1 mu1 vs H1 ds S1 e1 ok1 r1 h1 => ?_) x
  refine ⟨by rw [← r1.len]; exact line_of h1.1, fun p hp => ?_⟩
  obtain ⟨ok2, k2, _⟩ := ok1.alloc hp (.tup vs)
  exact n _ _ _ _ _ S1 (e1.trans (.of ok1.sub k2)) ok2 (newT ok1 hp r1) h1.2
theorem ds_asgX {tg : Expr} (he : DX X W e we) (hg : DG X tg g is) (hs : swapsWithSole [tg] e pos.line X.env = pure false := by rfl) (hw : swappedStores [tg] e X.env = pure none := by rfl) (h1 : (assignEach [tg] X.env).map (·.2) = [assign tg X.env] := by rfl) :
    DS X W (.Assign [tg] e pos) (wsAsg we g) := by
  obtain ⟨_, p, r⟩ := he.ex
  obtain ⟨_, q, rg⟩ := hg.ex
  exact ⟨_, ps_asg p q hs hw h1, ⟨fun M mu σ ρ S H D D' ok en hw n => r.run M mu σ ρ S H _ _ _ ok en hw (fun M1 mu1 v H' d S' e1 ok' r' h =>
    rg.run M1 mu1 σ ρ S' H' d v _ _ ok' (en.mono e1.toExt0) r' h fun σ' ρ' en' _ h' => n.nx M1 mu1 σ' ρ' S' H' e1 ok' en' h') (n.excX σ)⟩⟩
end
end DL
set_option maxRecDepth 100000
namespace DL
open PySem PySem.Spec PyProof.Rows L2
/-! rows as plain data -/
def pyR (r : Pl × Int) : PyData := .tuple [.int r.1.1, .int r.1.2, .int r.2]
theorem toPys_rows : ∀ rows : List (Pl × Int), toPys (rows.map rowD) = some (rows.map pyR)
  | [] => rfl
  | r :: rows => by
    show (match toPy (rowD r), toPys (rows.map rowD) with
      | some p, some ps => some (p :: ps)
      | _, _ => none) = _
    rw [toPys_rows rows]
    rfl
theorem toPy_rows (rows : List (Pl × Int)) : toPy (.lst (rows.map rowD)) = some (.list (rows.map pyR)) := by
  show (toPys (rows.map rowD)).map PyData.list = _
  rw [toPys_rows]
  rfl
theorem lay_all : ∀ rows : List (Pl × Int), PyData.canLayAll0 (rows.map pyR) = true
  | [] => by simp [PyData.canLayAll0]
  | r :: rows => by
    rw [List.map_cons, PyData.canLayAll0, lay_all rows, pyR]
    simp [PyData.canLay0, PyData.canLayAll0]
theorem depth_all : ∀ rows : List (Pl × Int), PyData.depthAll (rows.map pyR) ≤ 1
  | [] => by simp [PyData.depthAll]
  | r :: rows => by
    have ih := depth_all rows
    rw [List.map_cons, PyData.depthAll, pyR]
    simp only [PyData.depth, PyData.depthAll]
    omega
theorem shaped_rows (rows : List (Pl × Int)) : SeqAt.shaped (.list (rows.map pyR)) = true := by
  unfold SeqAt.shaped
  rw [PyData.canLay0, lay_all, PyData.depth, decide_eq_true (by have := depth_all rows; omega)]
  rfl
theorem eqvAll_rows : ∀ a b : List (Pl × Int), PyData.eqvAll (a.map pyR) (b.map pyR) = decide (a = b)
  | [], [] => rfl
  | [], _ :: _ => by simp [PyData.eqvAll]
  | _ :: _, [] => by simp [PyData.eqvAll]
  | r :: a, s :: b => by
    show (PyData.eqv (pyR r) (pyR s) && PyData.eqvAll (a.map pyR) (b.map pyR)) = _
    rw [eqvAll_rows a b]
    obtain ⟨⟨p, q⟩, c⟩ := r
    obtain ⟨⟨p', q'⟩, c'⟩ := s
    show ((p == p' && (q == q' && (c == c' && true))) && _) = _
    rw [Bool.eq_iff_iff]
    simp only [Bool.and_eq_true, beq_iff_eq, decide_eq_true_eq, List.cons.injEq, Prod.mk.injEq, and_true]
    constructor
    · rintro ⟨⟨h1, h2, h3⟩, h4⟩; exact ⟨⟨⟨h1, h2⟩, h3⟩, h4⟩
    · rintro ⟨⟨⟨h1, h2⟩, h3⟩, h4⟩; exact ⟨⟨h1, h2, h3⟩, h4⟩
theorem eqv_rows (a b : List (Pl × Int)) : PyData.eqv (.list (a.map pyR)) (.list (b.map pyR)) = decide (a = b) := eqvAll_rows a b
def rowsR (t : Tab) : List (Pl × Int) := (sortK t).map fun p => (p, (tget t p).getD 0)
theorem rowsT_eq (t : Tab) : rowsT t = (rowsR t).map rowD := by
  unfold rowsT rowsR
  rw [List.map_map]
  rfl
theorem rowsR_len (t : Tab) : (rowsR t).length = t.length := by
  unfold rowsR
  rw [List.length_map, (sortK_perm t).length_eq, List.length_map]
theorem rowsR_iff {A B : Tab} (hA : TOk A) (hB : TOk B) : rowsR A = rowsR B ↔ ∀ p, tget A p = tget B p := by
  constructor
  · intro h
    exact (rowsT_iff hA hB).mp (by rw [rowsT_eq, rowsT_eq, h])
  · intro h
    unfold rowsR
    rw [sortK_uniq (keys_perm hA hB h)]
    exact List.map_congr_left fun p _ => by rw [h]
end DL
namespace DL
open PySem PySem.Spec PyProof.Rows L2
/-! rows in what _law_same looks at -/
theorem deeps_rows : ∀ rows : List (Pl × Int), deeps (rows.map rowD) = true
  | [] => rfl
  | r :: rows => by
    show (deep (rowD r) && deeps (rows.map rowD)) = true
    rw [deeps_rows rows]
    rfl
theorem deps_rows : ∀ rows : List (Pl × Int), deps (rows.map rowD) ≤ 1
  | [] => Nat.zero_le _
  | r :: rows => by
    show max (dep (rowD r)) (deps (rows.map rowD)) ≤ 1
    exact Nat.max_le.mpr ⟨Nat.le_refl 1, deps_rows rows⟩
theorem deep_rows {rows : List (Pl × Int)} (h : rows.length ≤ 1000000) : deep (.lst (rows.map rowD)) = true := by
  show (decide ((rows.map rowD).length ≤ 1000000) && deeps (rows.map rowD)) = true
  rw [deeps_rows, List.length_map, decide_eq_true h]
  rfl
theorem dep_rows (rows : List (Pl × Int)) : dep (.lst (rows.map rowD)) ≤ 2 := Nat.succ_le_succ (deps_rows rows)
theorem deep_rowsT {t : Tab} (h : t.length ≤ 1000000) : deep (.lst (rowsT t)) = true := by
  rw [rowsT_eq]
  exact deep_rows (by rw [rowsR_len]; exact h)
theorem dep_rowsT (t : Tab) : dep (.lst (rowsT t)) ≤ 2 := by
  rw [rowsT_eq]
  exact dep_rows _
theorem empty_app (x : Str) : Str.empty ++ x = x := by
  cases x with
  | mk c =>
    show Str.mk (#[] ++ c) = _
    rw [Array.empty_append]
end DL
namespace DL
open PySem PySem.Spec PyProof.Rows L2
theorem deeps_leaf : ∀ {l : List D}, (∀ d ∈ l, deep d = true) → deeps l = true
  | [], _ => rfl
  | d :: l, h => by
    show (deep d && deeps l) = true
    rw [h d (List.mem_cons_self ..), deeps_leaf fun x hx => h x (List.mem_cons_of_mem _ hx)]
    rfl
theorem deep_leaf {l : List D} (hl : l.length ≤ 1000000) (h : ∀ d ∈ l, deep d = true) : deep (.lst l) = true := by
  show (decide (l.length ≤ 1000000) && deeps l) = true
  rw [deeps_leaf h, decide_eq_true hl]
  rfl
theorem deps_leaf : ∀ {l : List D}, (∀ d ∈ l, dep d = 0) → deps l = 0
  | [], _ => rfl
  | d :: l, h => by
    show max (dep d) (deps l) = 0
    rw [h d (List.mem_cons_self ..), deps_leaf fun x hx => h x (List.mem_cons_of_mem _ hx)]
    rfl
theorem dep_leaf {l : List D} (h : ∀ d ∈ l, dep d = 0) : dep (.lst l) = 1 := by
  show deps l + 1 = 1
  rw [deps_leaf h]
end DL
namespace DL
open PySem PySem.Spec PyProof.Rows L2
/-- what lies behind a permuted image -/
theorem perm_image {α : Type} {f : α → D} {g : D → α} (hg : ∀ a, g (f a) = a) {l : List D} {as : List α} (h : l.Perm (as.map f)) : ∃ bs : List α, l = bs.map f ∧ bs.Perm as := by
  refine ⟨l.map g, ?_, ?_⟩
  · rw [List.map_map]
    refine ((List.map_congr_left fun x hx => ?_).trans (List.map_id l)).symm
    obtain ⟨a, _, rfl⟩ := List.mem_map.mp (h.subset hx)
    show f (g (f a)) = f a
    rw [hg]
  · have := h.map g
    rw [List.map_map] at this
    have e : g ∘ f = id := funext hg
    rw [e, List.map_id] at this
    exact this
def unR : D → Pl × Int
  | .tup [.int a, .int b, .int c] => ((a, b), c)
  | _ => ((0, 0), 0)
theorem unR_row (r : Pl × Int) : unR (rowD r) = r := rfl
end DL
set_option maxRecDepth 100000
namespace DL
open PySem PySem.Spec PyProof.Rows L2
/-! facts of the head about classes -/
/-- the object at a is the empty tuple -/
def eTupB (K : PySem.W.Frag) (a : Addr) : Bool := match K.lookup a with
  | some ⟨.type c, _, .seq its _, _⟩ => decide (c = "tuple") && decide (its.size = 0)
  | _ => false
theorem eTupB_ok {K : PySem.W.Frag} {a : Addr} (h : eTupB K a = true) : SqTK K a [] := by
  unfold eTupB at h
  cases q : K.lookup a with
  | none => rw [q] at h; cases h
  | some o =>
    obtain ⟨oc, od, dt, osl⟩ := o
    rw [q] at h
    cases oc with
    | type c =>
      cases dt with
      | seq its n =>
        obtain ⟨h1, h2⟩ := He.ba (show (decide (c = "tuple") && decide (its.size = 0)) = true from h)
        have h2 := of_decide_eq_true h2
        refine ⟨_, its, n, q, congrArg Value.type (of_decide_eq_true h1), rfl, by rw [h2]; exact Nat.zero_le _, ?_⟩
        have e : its.toList = [] := by
          have : its.toList.length = 0 := by simpa using h2
          exact List.length_eq_zero_iff.mp this
        rw [e]
        exact .nil
      | _ => cases h
    | _ => cases dt <;> cases h
/-- what isinstance(x, C) asks -/
def isCB (K : PySem.W.Frag) (C : Addr) : Bool := He.eqO (PySem.W.findIn K (.ref C) "__class__") (some (some (.builtin "object.__class__"))) && (He.eqO (PySem.W.specialIn K (.builtin "object.__class__") "__get__") (some (some (.builtin "getset_descriptor.__get__"))) && (decide (PySem.W.takesIn K (.builtin "object.__class__") = some true) &&
  (decide (PySem.W.mroIn K C (.type "object") = some true) && (decide (PySem.W.kitOne K (.ref C) (.ref C) = some true) && decide (PySem.W.kitOne K (.type "dict") (.ref C) = some false)))))
theorem isCB_ok {K : PySem.W.Frag} {C : Addr} (c : Cls K C) (h : isCB K C = true) : IsC K C := by
  obtain ⟨h1, h⟩ := He.ba h
  obtain ⟨h2, h⟩ := He.ba h
  obtain ⟨h3, h⟩ := He.ba h
  obtain ⟨h4, h⟩ := He.ba h
  obtain ⟨h5, h6⟩ := He.ba h
  exact ⟨⟨c, He.eqO_ok h1, He.eqO_ok h2, of_decide_eq_true h3, of_decide_eq_true h4, of_decide_eq_true h5⟩, of_decide_eq_true h6⟩
end DL
set_option maxRecDepth 100000
set_option maxHeartbeats 2000000
/-! a lambda of one parameter, called again and again from where it was made -/
namespace LamY
open PySem PySem.Spec PyProof.Rows L2 LamX
structure LamP (sc scope : Scope) (p : Str) : Prop where
  kind : scope.kind = .function
  co : scope.isCoroutine = false
  gen : scope.isGenerator = false
  own : ∀ y ∈ scope.names, (y.2 = .local → y.1 = p) ∧ y.2 ≠ .cell
  par : scope.names.lookup p = some .local
  free : ∀ y ∈ scope.names, y.2 = .free → sc.names.lookup y.1 = some .cell ∨ sc.names.lookup y.1 = some .free
def lamPB (sc scope : Scope) (p : Str) : Bool :=
  decide (scope.kind = .function) && (!scope.isCoroutine && (!scope.isGenerator && (decide (scope.names.lookup p = some .local) && scope.names.all fun y => (!decide (y.2 = .local) || decide (y.1 = p)) && (!decide (y.2 = .cell) && (!decide (y.2 = .free) || (decide (sc.names.lookup y.1 = some .cell) || decide (sc.names.lookup y.1 = some .free)))))))
theorem lamP_by {sc scope : Scope} {p : Str} (h : lamPB sc scope p = true) : LamP sc scope p := by
  unfold lamPB at h
  simp only [Bool.and_eq_true, Bool.or_eq_true, Bool.not_eq_true', decide_eq_true_eq, decide_eq_false_iff_not, List.all_eq_true] at h
  obtain ⟨h1, h2, h3, h5, h4⟩ := h
  refine ⟨h1, h2, h3, fun y hy => ⟨fun e => (h4 y hy).1.elim (fun z => absurd e z) id, (h4 y hy).2.1⟩, h5, fun y hy e => ?_⟩
  rcases (h4 y hy).2.2 with z | z
  · exact absurd e z
  · exact z
theorem LamP.has {X : Cx} {scope : Scope} {p : Str} (L : LamP X.env.scope scope p) (ok : X.Ok) : ∀ y ∈ scope.names, y.2 = .free → ∃ c, X.env.cells.lookup y.1 = some c := fun y hy e => by
  rcases L.free y hy e with k | k
  · exact ok.has _ (.inl k)
  · exact ok.has _ (.inr k)
abbrev E00 : XK := fun _ _ _ => False
section
variable {X : Cx} {pins : List (Addr × Obj)} {σ : L2.St} {H : Hp} {s : Shared}
theorem lam_start1 {A : Around} {E : XK} {scope : Scope} {f c' : Addr} {p : Str} {j : Nat} {v : V} {u : Value} {h₁ : Heap} {tk : Nat} (I : Inv X pins σ H s) (L : LamP X.env.scope scope p) (hN : X.N.Nodup) (hj : X.N[j]? = some p) (ru : RelV v u)
    (e0 : Env0 X.prog X.w X.K X.mg X.base A X.stack s H) (hd : A.handled = none) (hns : h₁.Ns s.heap.objs.size fun y => ([(p, u)] : List (Str × Value)).reverse.lookup y) (kp : ∀ b o, s.heap.get? b = some o → h₁.get? b = some o) :
    Inv (lamCx X A X.stack s H E scope f c') [] (σ.set j (some v)) H { s with heap := h₁, toks := tk } := by
  have hfree := L.has I.ok
  have cm : ∀ {y c}, (cloFrom X.env.cells scope.names []).lookup y = some c → X.env.cells.lookup y = some c := fun {y c} e => by
    rcases cloFrom_mem (PySem.mem_of_lookup e) with hm | ⟨h1, h2⟩
    · cases hm
    · obtain ⟨c1, hc⟩ := hfree _ h1 rfl
      have hc : X.env.cells.lookup y = some c1 := hc
      have e2 : c = c1 := by
        rw [h2, hc] <;> rfl
      rw [e2]
      exact hc
  have look : ∀ {y}, scope.names.lookup y = some .free → ∃ c, (cloFrom X.env.cells scope.names []).lookup y = some c := fun {y} hl => by
    have hy : (y, NameKind.free) ∈ scope.names := PySem.mem_of_lookup hl
    exact mem_lookup (cloFrom_has (cells := X.env.cells) (acc := []) hy)
  have cellK : ∀ {c : Addr} {v : Option Value}, s.heap.IsCell c v → h₁.IsCell c v := fun {c v} ⟨o, ho, hd⟩ => ⟨o, kp _ _ ho, hd⟩
  have noA : ∀ b : Addr, b ∉ (lamCx X A X.stack s H E scope f c').ex := fun b z => absurd (show b ∈ ([] : List Addr) from z) (by simp)
  refine ⟨⟨e0.mod, L.kind, rfl, rfl, Nat.le_refl _, fun y z c e1 e2 => I.ok.inj y z c (cm e1) (cm e2), fun y hy => ?_, fun y c z _ => ?_, fun _ => hd, Around.frames_deeper e0.frames, .inr ⟨rfl, rfl⟩, fun b z => absurd z (noA b), e0.bs, e0.bsz, fun b _ _ => noA b,
      fun b z => absurd z (noA b), e0.funs, e0.frf⟩,
    rfl, e0.bare, Un.kept kp, ⟨_, hns, fun i y v' e1 e2 e3 => ?_⟩, fun y c e => ?_, e0.hok.fresh (Nat.le_refl _), fun y c e => ?_, fun q hq => absurd (show q ∈ ([] : List (Addr × Obj)) ++ [] from hq) (by simp), e0.hok.kept kp, by rw [List.length_set]; exact I.len⟩
  · have hy : scope.names.lookup y = some .cell ∨ scope.names.lookup y = some .free := hy
    rcases hy with hy | hy
    · exact absurd rfl (L.own _ (PySem.mem_of_lookup hy)).2
    · exact look hy
  · have z : false = true := z
    cases z
  · have e1 : X.N[i]? = some y := e1
    have e3 : Vis scope y := e3
    by_cases hij : i = j
    · subst hij
      obtain rfl : p = y := Option.some.inj (hj.symm.trans e1)
      have hl : i < σ.length := by rw [I.len]; exact (List.getElem?_eq_some_iff.mp hj).1
      rw [List.getElem?_set_self hl] at e2
      obtain rfl : v = v' := Option.some.inj (Option.some.inj e2)
      exact ⟨u, ru, .inl ⟨L.par, by simp [List.lookup]⟩⟩
    · rw [List.getElem?_set_ne (Ne.symm hij)] at e2
      rcases e3 with k | k | k
      · exfalso
        have e : y = p := (L.own _ (PySem.mem_of_lookup k)).1 rfl
        rw [e] at e1
        have h1 := (List.getElem?_eq_some_iff.mp e1)
        have h2 := (List.getElem?_eq_some_iff.mp hj)
        obtain ⟨l1, g1⟩ := h1
        obtain ⟨l2, g2⟩ := h2
        rcases Nat.lt_or_gt_of_ne hij with z | z
        · exact List.pairwise_iff_getElem.mp hN i j l1 l2 z (g1.trans g2.symm)
        · exact List.pairwise_iff_getElem.mp hN j i l2 l1 z (g2.trans g1.symm)
      · exact absurd rfl (L.own _ (PySem.mem_of_lookup k)).2
      · obtain ⟨m, hn, hl⟩ := I.loc
        have hvis : Vis X.env.scope y := (L.free _ (PySem.mem_of_lookup k) rfl).elim (fun k => .inr (.inl k)) (fun k => .inr (.inr k))
        obtain ⟨w', r, q⟩ := hl i y v' e1 e2 hvis
        obtain ⟨c2, h2⟩ := look k
        refine ⟨w', r, .inr ⟨.inr k, c2, h2, ?_⟩⟩
        have c1 := cm h2
        rcases q with ⟨k', _⟩ | ⟨_, c3, e', z⟩
        · have k' : X.env.scope.names.lookup y = some .local := k'
          rcases L.free _ (PySem.mem_of_lookup k) rfl with k2 | k2 <;> rw [show X.env.scope.names.lookup y = _ from k2] at k' <;> cases k'
        · rw [c1] at e'
          cases e'
          exact cellK z
  · obtain ⟨w', z⟩ := I.cell y c (cm e)
    exact ⟨w', cellK z⟩
  · exact I.freeC y c (cm e)
/-- f(u): f the lambda, called from a frame as deep as A -/
theorem lam_call1 {A : Around} {scope : Scope} {f c' : Addr} {p : Str} {j k : Nat} {params : Arguments} {body : Expr} {pm ctv : Value} {v : V} {u : Value} {tb : TE} {Q : VK} {Ef : Value → Shared → Prop} (I : Inv X pins σ H s) (L : LamP X.env.scope scope p) (hN : X.N.Nodup) (hj : X.N[j]? = some p) (ru : RelV v u)
    (hf : s.heap.get? f = some (PySem.W.kla_obj "<lambda>" (X.env.qual ++ "<lambda>") params body scope (cloFrom X.env.cells scope.names []) pm c' ctv)) (hc : H c' = some (CodeO c' (X.env.qual ++ "<lambda>")))
    (hbind : bindArgs (PySem.W.kla_fn "<lambda>" (X.env.qual ++ "<lambda>") params body scope (cloFrom X.env.cells scope.names []) pm (.ref c') ctv) ⟨[u], []⟩ = pure [(p, u)])
    (e0 : Env0 X.prog X.w X.K X.mg X.base A X.stack s H) (hr : Room (k + 1) A) (hbody : Room k (A.deeper (lamEnv X scope s.heap.objs.size f c')) → PE (lamCx X A X.stack s H E00 scope f c') body tb) (ht : tb (σ.set j (some v)) H Q) :
    wpAny (model X.prog X.w) A (call (.ref f) [u]) (EP X pins σ Q) Ef s := by
  have rc : codeAny (model X.prog X.w) A (.call (.ref f) ⟨[u], []⟩) (CR (L2.CX X.prog X.w) X.stack X.prog X.w H s Q E00) s := by
    obtain ⟨⟨oc, vs, t, hoc, hdc, hvc⟩, _, _⟩ := I.hok c' _ hc
    refine PySem.W.kla_callFunE hr.depth hf rfl L.co L.gen rfl ⟨c', oc, vs, t, rfl, hoc, hdc, hvc⟩ ?_
    rw [hbind]
    refine wpAny_pure (wpAny_newFunctionEnv (fun y hy => (L.own y hy).2) (fun y hy => ?_) (fun h₁ hns hsb => ⟨I.nolimit.fresh _ hsb, ?_⟩) L.kind)
    · have e : y = (p, u) := by simpa using hy
      rw [e]
      exact L.par
    show codeAny _ _ (.expr body (lamEnv X scope s.heap.objs.size f c')) _ _
    have kp : ∀ b o, s.heap.get? b = some o → h₁.get? b = some o := fun b o e => hsb.extBut b o (Nat.ne_of_lt (Heap.lt_size e)) (Heap.get?_push_of_some _ e)
    refine PySem.W.kla_codeExpr (wpAny_mono ((hbody (hr.deeper _)).run [] _ _ H Q (lam_start1 (tk := s.toks + ([(p, u)] : List (Str × Value)).length) I L hN hj ru e0 hr.hd hns kp) ht) (fun v s' hq => ?_) fun e s' hq => hq)
    obtain ⟨w', H', J', rv, q⟩ := hq
    exact ⟨w', H', J'.os, J'.bare, J'.base, J'.hok, rv, q⟩
  refine wpAny_call (codeAny_mono rc fun r s' hq => ?_)
  cases r with
  | error e =>
    obtain ⟨_, _, _, _, _, _, _, _, _, _, _, _, z⟩ := (show L2.CX X.prog X.w X.stack H s E00 e s' from hq)
    exact z.elim
  | ok fl =>
    cases fl with
    | ret u => exact I.after hq
    | next => exact False.elim hq
    | brk => exact False.elim hq
    | cont => exact False.elim hq
end
end LamY
set_option maxRecDepth 100000
set_option maxHeartbeats 4000000
/-! sorted(xs, key=f), f a closure whose call the walk knows -/
namespace LamY
open PySem PySem.W PySem.Calls PySem.Spec PyProof.Rows L2 LamX
section
variable {X : Cx} {pins : List (Addr × Obj)} {σ : L2.St} {H : Hp} {s : Shared}
def PinOk (X : Cx) (H : Hp) (s : Shared) (p : Addr × Obj) : Prop := s.heap.get? p.1 = some p.2 ∧ H p.1 = none ∧ p.1 ≠ X.env.locals ∧ p.1 ∉ X.fs ∧ ∀ v, p.2.data ≠ .cell v
theorem pinOn {more : List (Addr × Obj)} (I : Inv X pins σ H s) (h : ∀ p ∈ more, PinOk X H s p) : Inv X (pins ++ more) σ H s :=
  ⟨I.ok, I.os, I.bare, I.base, I.loc, I.cell, I.free, I.freeC, fun p hp => by
    rw [← List.append_assoc] at hp
    rcases List.mem_append.mp hp with q | q
    · exact I.pin p q
    · exact h p q, I.hok, I.len⟩
theorem pinOff {more : List (Addr × Obj)} (I : Inv X (pins ++ more) σ H s) : Inv X pins σ H s :=
  ⟨I.ok, I.os, I.bare, I.base, I.loc, I.cell, I.free, I.freeC, fun p hp => I.pin p (by rw [← List.append_assoc]; exact List.mem_append_left _ hp), I.hok, I.len⟩
theorem pinAt {p : Addr × Obj} (I : Inv X pins σ H s) (hp : p ∈ pins) : PinOk X H s p := I.pin p (List.mem_append_right _ hp)
/-- an untracked object of one's own becomes tracked -/
theorem track {a : Addr} {o : HO} (I : Inv X pins σ H s) (hf : FpOk X pins H a) (there : ∃ ob, s.heap.get? a = some ob) (new : ObjOk X.prog X.w (upd H a o) s.heap a o) : Inv X pins σ (upd H a o) s := by
  have ne : ∀ {b u}, H b = some u → b ≠ a := fun e => ne_of_none e hf.1
  refine I.step (h' := s.heap) (g' := s.gens) (t' := s.toks) (d' := s.drawn) (ch := [a]) (fun b hb => ?_) (fun b o _ _ _ e _ => e) (fun b o _ _ _ e _ => ⟨o.slots, e⟩) (fun b o hc e n => ?_) (fun b o _ e => ⟨o, e⟩) (fun b xs e => by rw [upd_ne (ne e)]; exact e) (fun b o u e => by rw [upd_ne (ne e)]; exact e)
    (fun b ps e => ⟨#[], by rw [upd_ne (ne e), e]; simp⟩) (fun m hm => hm) (fun b u e => ?_) I.bare
  · obtain rfl : b = a := by simpa using hb
    exact ⟨hf.2.2.2.1, hf.2.1, hf.2.2.2.2.1, hf.2.2.2.2.2⟩
  · rw [upd_ne (fun z => hc (by simp [z]))]; exact n
  · by_cases hb : b = a
    · subst hb
      rw [upd_same] at e
      obtain rfl := Option.some.inj e
      exact new
    · rw [upd_ne hb] at e
      exact (I.hok b u e).stay (fun d v _ q => q) (fun d q => by rw [upd_ne (ne q)]; exact q) fun d xs q => by rw [upd_ne (ne q)]; exact q
/-- the key's reading over the items, one after the other -/
def keyRun (B : V → Hp → VK → Prop) (R : List V → Hp → Prop) : List V → List V → Hp → Prop
  | [], acc, H => R acc H
  | x :: xs, acc, H => B x H fun k H' => keyRun B R xs (acc ++ [k]) H'
theorem dpAll_each {K : PySem.W.Frag} (I : Inv X pins σ H s) : ∀ {kV : List V} {kz : List PyData} {ks : List Value}, DpAll X.K H kV kz → Vals kV ks → EachIs (fun v k => ∃ as, Reads s.heap v k as) ks kz
  | [], _, _, .nil, .nil => .nil
  | _ :: _, _, _, .cons d ds, .cons r rs => .cons (Dp.reads I _ _ _ d r) (dpAll_each (K := K) I ds rs)
theorem vals_get {xs : List V} {vs : List Value} (r : Vals xs vs) {j : Nat} {v : Value} (h : vs[j]? = some v) : ∃ x, xs[j]? = some x ∧ RelV x v := by
  induction r generalizing j with
  | nil => simp at h
  | cons a r ih =>
    cases j with
    | zero =>
      rw [List.getElem?_cons_zero] at h
      obtain rfl := Option.some.inj h
      exact ⟨_, rfl, a⟩
    | succ j =>
      rw [List.getElem?_cons_succ] at h
      exact ih h
theorem keyJ_rest {E : Value → Shared → Prop} {P : PySem.Fin → Shared → Prop} {A : Around} {f a kS : Addr} {fo : Obj} {e1 : Nat} {b : Bool} {vs : List Value} {xs : List V} {B : V → Hp → VK → Prop} {R : List V → Hp → Prop} {G : List V → Hp → List PyData → Prop}
    (I : Inv X (pins ++ [(f, fo)]) σ H s) (fa : FpOk X (pins ++ [(f, fo)]) H a) (fk : FpOk X (pins ++ [(f, fo)]) H kS) (rv : Vals xs vs) (nk : s.heap.get? kS = some (seqObj "list" #[] 0)) (na : s.heap.get? a = some (seqObj "list" #[] e1)) (hka : kS ≠ a) (hZ : vs.length ≤ sizeLine)
    (turn : ∀ (pins' : List (Addr × Obj)) (s' : Shared) (H' : Hp) (x : V) (u : Value) (Q : VK), (f, fo) ∈ pins' → Inv X pins' σ H' s' → RelV x u → B x H' Q → wpAny (model X.prog X.w) A (call (.ref f) [u]) (EP X pins' σ Q) (fun _ _ => False) s')
    (run : keyRun B R xs [] H) (keys : ∀ kV H', R kV H' → ∃ kz : List PyData, DpAll X.K H' kV kz ∧ AllAlike kz ∧ Sortable kz ∧ (∀ d, d ∈ kz → A.units + d.depth < cLine) ∧ G kV H' kz)
    (fin : ∀ kV H' kz s3 out c, Inv X (pins ++ [(f, fo)]) σ H' s3 → FpOk X (pins ++ [(f, fo)]) H' a → G kV H' kz → DpAll X.K H' kV kz → s3.heap.get? a = some (seqObj "list" (List.toArray out) c) → KeyedOut b kz vs out → kV.length = vs.length → P (.done (.ret .none)) s3) :
    wpAny (model X.prog X.w) A (ksk_rest a (.ref f) b vs.toArray e1 (.ref kS)) P E s := by
  unfold ksk_rest
  refine wpAny_bind (wpAny_rule ?_)
  first
    | rw [List.forIn_toArray]
    | (rw [← Array.forIn_toList]; simp only [List.toList_toArray])
    | rw [← Array.forIn_toList]
  refine wpAny_bind (ksk_fold (fun i s' => ∃ H' kV kA e, Inv X (pins ++ [(f, fo)]) σ H' s' ∧ FpOk X (pins ++ [(f, fo)]) H' a ∧ FpOk X (pins ++ [(f, fo)]) H' kS ∧ s'.heap.get? kS = some (seqObj "list" kA e) ∧ s'.heap.get? a = some (seqObj "list" #[] e1) ∧ kA.size = i ∧ Vals kV kA.toList ∧ keyRun B R (xs.drop i) kV H') vs 0 s
    ⟨H, [], #[], 0, I, fa, fk, nk, na, rfl, .nil, by rw [List.drop_zero]; exact run⟩ ?step ?done)
  case step =>
    rintro j x s' hx ⟨H', kV, kA, e, I', fa', fk', nk', na', hsz, hk, hr⟩
    simp only [Nat.zero_add] at hsz hr ⊢
    have hj : j < vs.length := (List.getElem?_eq_some_iff.mp hx).1
    obtain ⟨xv, hxv, rx⟩ := vals_get rv hx
    have hxl : j < xs.length := (List.getElem?_eq_some_iff.mp hxv).1
    have ed : xs.drop j = xv :: xs.drop (j + 1) := by
      rw [List.drop_eq_getElem_cons hxl]
      rw [List.getElem?_eq_getElem hxl] at hxv
      rw [Option.some.inj hxv]
    rw [ed] at hr
    have I2 : Inv X ((pins ++ [(f, fo)]) ++ [(a, seqObj "list" #[] e1), (kS, seqObj "list" kA e)]) σ H' s' := pinOn I' fun p hp => by
      rcases List.mem_cons.mp hp with z | z
      · rw [z]
        exact ⟨na', fa'.1, fa'.2.1, fa'.2.2.1, fun v q => nomatch q⟩
      · rw [List.mem_singleton.mp z]
        exact ⟨nk', fk'.1, fk'.2.1, fk'.2.2.1, fun v q => nomatch q⟩
    refine wpAny_bind (wpAny_attempt (wpAny_mono (turn _ s' H' xv x _ (by simp) I2 rx hr) (fun v s'' he => ?_) fun _ _ hF => hF.elim))
    obtain ⟨kv, H2, I3, rk, hr2⟩ := he
    try dsimp only
    have pa := pinAt I3 (p := (a, seqObj "list" #[] e1)) (by simp)
    have pk := pinAt I3 (p := (kS, seqObj "list" kA e)) (by simp)
    have nk2 : s''.heap.get? kS = some (seqObj "list" kA e) := pk.1
    have na2 : s''.heap.get? a = some (seqObj "list" #[] e1) := pa.1
    have I4 := pinOff I3
    have fk2 : FpOk X (pins ++ [(f, fo)]) H2 kS := ⟨pk.2.1, fk'.2⟩
    have fa2 : FpOk X (pins ++ [(f, fo)]) H2 a := ⟨pa.2.1, fa'.2⟩
    have s1 := Heap.SameBut.update s''.heap kS (Obj.mapSeq (·.push v))
    obtain ⟨c2, hc2⟩ : ∃ c2, (s''.heap.update kS (Obj.mapSeq (·.push v))).get? kS = some (seqObj "list" (kA.push v) c2) := ⟨_, get?_update_seq nk2 (·.push v)⟩
    have ea : (kA.push v).toList = kA.toList ++ [v] := by simp
    have hz : kA.size ≤ sizeLine := Nat.le_trans (by rw [hsz]; exact Nat.le_of_lt hj) hZ
    refine wpAny_bind (listUpdate_at nk2 rfl ?_ hz (Nat.le_trans (Nat.le_of_eq (Array.size_push ..)) (Nat.succ_le_succ hz)))
    refine wpAny_pure ⟨rfl, H2, kV ++ [kv], kA.push v, c2, ?_, fa2, fk2, hc2, (s1.2 a hka.symm).trans na2, by rw [Array.size_push, hsz], by rw [ea]; exact hk.append (.cons rk .nil), hr2⟩
    exact I4.turnedL (ch := [kS]) (fun b o hb q => (s1.2 b (fun z => hb (by simp [z]))).trans q) fun b hb => by rw [show b = kS by simpa using hb]; exact fk2
  case done =>
    rintro s' ⟨H', kV, kA, e, I', fa', fk', nk', na', hsz, hk, hr⟩
    rw [Nat.zero_add] at hsz hr
    have hxl : xs.length = vs.length := rv.length
    rw [List.drop_of_length_le (by omega)] at hr
    have hr : R kV H' := hr
    obtain ⟨kz, hd, hal, hsk, hu, hG⟩ := keys kV H' hr
    have hk' := dpAll_each (K := X.K) I' hd hk
    have hkl : kV.length = vs.length := by rw [hk.length, Array.length_toList, hsz]
    try dsimp only
    refine wpAny_bind (listItems_at nk' rfl ?_)
    refine keyH_end (κ := dataKind s'.heap kz) (h₁ := hidT s'.heap fun b => if b = kS then some (.lst []) else none) (fun b o _ e => (of_hidT e).1) ?_ nk' na' hka (SortsAt.data (s := s') hk' hal hsk hu) hsz hZ fun h3 tk3 c k3 n3 => ?_
    · cases q : (hidT s'.heap fun b => if b = kS then some (.lst []) else none).get? kS with
      | none => rfl
      | some o =>
        have := (of_hidT q).2
        rw [if_pos rfl] at this
        cases this
    · refine fin kV H' kz _ _ c (I'.turnedL (t' := tk3) (ch := [a, kS]) (fun b o hb q => k3 b o (fun z => hb (by simp [z])) (hidT_get q (if_neg fun z => hb (by simp [z])))) fun b hb => ?_) fa' hG hd n3 ⟨s'.heap, kA.toList, hal, rfl, hk'⟩ hkl
      rcases List.mem_cons.mp hb with z | z
      · rw [z]; exact fa'
      · rw [List.mem_singleton.mp z]; exact fk'
theorem keyJ_tree {E : Value → Shared → Prop} {P : PySem.Fin → Shared → Prop} {A : Around} {f a : Addr} {fo : Obj} {n : Nat} {b : Bool} {vs : List Value} {xs : List V} {B : V → Hp → VK → Prop} {R : List V → Hp → Prop} {G : List V → Hp → List PyData → Prop}
    (I : Inv X (pins ++ [(f, fo)]) σ H s) (fa : FpOk X (pins ++ [(f, fo)]) H a) (rv : Vals xs vs) (ho : s.heap.get? a = some (seqObj "list" vs.toArray n)) (hZ : vs.length ≤ sizeLine)
    (turn : ∀ (pins' : List (Addr × Obj)) (s' : Shared) (H' : Hp) (x : V) (u : Value) (Q : VK), (f, fo) ∈ pins' → Inv X pins' σ H' s' → RelV x u → B x H' Q → wpAny (model X.prog X.w) A (call (.ref f) [u]) (EP X pins' σ Q) (fun _ _ => False) s')
    (run : keyRun B R xs [] H) (keys : ∀ kV H', R kV H' → ∃ kz : List PyData, DpAll X.K H' kV kz ∧ AllAlike kz ∧ Sortable kz ∧ (∀ d, d ∈ kz → A.units + d.depth < cLine) ∧ G kV H' kz)
    (fin : ∀ kV H' kz s3 out c, Inv X (pins ++ [(f, fo)]) σ H' s3 → FpOk X (pins ++ [(f, fo)]) H' a → G kV H' kz → DpAll X.K H' kV kz → s3.heap.get? a = some (seqObj "list" (List.toArray out) c) → KeyedOut b kz vs out → kV.length = vs.length → P (.done (.ret .none)) s3) :
    wpAny (model X.prog X.w) A (ksk_tree a (.ref f) b) P E s := by
  have ha : a < s.heap.objs.size := Heap.lt_size ho
  obtain ⟨e1, ho1⟩ : ∃ e1, (s.heap.update a (Obj.mapSeq fun _ => (#[] : Array Value))).get? a = some (seqObj "list" #[] e1) := ⟨_, get?_update_seq ho fun _ => #[]⟩
  have hkS : ((s.heap.update a (Obj.mapSeq fun _ => (#[] : Array Value))).push (seqObj "tuple" vs.toArray 0)).objs.size = s.heap.objs.size + 1 := by rw [size_push', Heap.size_update]
  unfold ksk_tree
  refine wpAny_bind (listItems_at ho rfl ?_)
  refine wpAny_bind (listUpdate_at ho rfl ?_ (by rw [List.size_toArray]; exact hZ) (Nat.zero_le _))
  refine wpAny_bind (seqEpoch_at ho1 rfl ?_)
  refine wpAny_bind (wpAny_newTuple ?_ (by show vs.length ≤ _; exact hZ))
  refine wpAny_bind (wpAny_newList ?_ (Nat.zero_le _))
  refine wpAny_holding ?_
  have s1 := Heap.SameBut.update s.heap a (Obj.mapSeq fun _ => (#[] : Array Value))
  have I2 : Inv X (pins ++ [(f, fo)]) σ H { s with heap := ((s.heap.update a (Obj.mapSeq fun _ => (#[] : Array Value))).push (seqObj "tuple" vs.toArray 0)).push (seqObj "list" #[] 0) } :=
    I.turnedL (t' := s.toks) (ch := [a]) (fun b o hb q => Heap.get?_push_of_some _ (Heap.get?_push_of_some _ ((s1.2 b (fun z => hb (by simp [z]))).trans q))) fun b hb => by rw [show b = a by simpa using hb]; exact fa
  refine keyJ_rest (kS := ((s.heap.update a (Obj.mapSeq fun _ => (#[] : Array Value))).push (seqObj "tuple" vs.toArray 0)).objs.size) (s := { s with heap := ((s.heap.update a (Obj.mapSeq fun _ => (#[] : Array Value))).push (seqObj "tuple" vs.toArray 0)).push (seqObj "list" #[] 0) })
    I2 fa (I.fpOk (by rw [hkS]; exact Nat.le_succ _) (I.hok.fresh (by rw [hkS]; exact Nat.le_succ _))) rv (Heap.get?_push_size _ rfl) (Heap.get?_push_of_some _ (Heap.get?_push_of_some _ ho1)) (by rw [hkS]; exact Nat.ne_of_gt (Nat.lt_succ_of_lt ha)) hZ turn run keys fin
/-- the items by their keys, stably -/
def byKeys (xs : List V) (kz : List PyData) : List V := ((xs.zip kz).mergeSort (dataLe false Prod.snd)).map Prod.fst
theorem each_zip : ∀ {xs : List V} {vs : List Value} {kz : List PyData}, Vals xs vs → kz.length = xs.length → EachIs (fun v (x : V × PyData) => RelV x.1 v) vs (xs.zip kz)
  | [], _, _, .nil, _ => by rw [List.zip_nil_left]; exact .nil
  | _ :: _, _, [], .cons _ _, h => by simp at h
  | _ :: _, _, _ :: _, .cons r rs, h => .cons r (each_zip rs (by simpa using h))
theorem each_vals : ∀ {out : List Value} {bs : List (V × PyData)}, EachIs (fun v (x : V × PyData) => RelV x.1 v) out bs → Vals (bs.map Prod.fst) out
  | _, _, .nil => .nil
  | _, _, .cons r rs => .cons r (each_vals rs)
theorem dpAll_len {K : PySem.W.Frag} {H : Hp} : ∀ {kV : List V} {kz : List PyData}, DpAll K H kV kz → kz.length = kV.length
  | _, _, .nil => rfl
  | _, _, .cons _ r => congrArg Nat.succ (dpAll_len r)
/-- sorted(l, key=f) in the maker's frame -/
theorem sorted_keyJ {Ef : Value → Shared → Prop} {l f : Addr} {fo : Obj} {xs : List V} {B : V → Hp → VK → Prop} {Q : VK} (I : Inv X pins σ H s) (hl : SqL X.K H l xs) (pf : PinOk X H s (f, fo))
    (turn : ∀ (pins' : List (Addr × Obj)) (s' : Shared) (H' : Hp) (x : V) (u : Value) (Q : VK), (f, fo) ∈ pins' → Inv X pins' σ H' s' → RelV x u → B x H' Q → wpAny (model X.prog X.w) X.A.in1.in1 (call (.ref f) [u]) (EP X pins' σ Q) (fun _ _ => False) s')
    (run : keyRun B (fun kV H' => ∃ kz : List PyData, DpAll X.K H' kV kz ∧ AllAlike kz ∧ Sortable kz ∧ (∀ d, d ∈ kz → X.A.units + 2 + d.depth < cLine) ∧ ∀ p, H' p = none → Q (.ref p) (upd H' p (.lst (byKeys xs kz)))) xs [] H) :
    wpAny (model X.prog X.w) X.A (call (.builtin "sorted") [.ref l] [(Str.ofString "key", .ref f)]) (EP X pins σ Q) Ef s := by
  obtain ⟨its, rv, pl, hz⟩ := I.list hl
  have hZ : its.length ≤ sizeLine := by rw [← rv.length]; exact hz
  refine sorted_of_sort (vs := its) pl.isList hZ (PyProof.Rows.ksk_s1 _ _) (fun _ => PyProof.Rows.ksk_l1 _ _) fun E' => ?_
  rw [ksk_t1]
  have I1 : Inv X pins σ H { s with heap := copyHeap s.heap its } := I.kept (t' := s.toks) fun b o e => copyHeap_old e
  have fp : FpOk X pins H (s.heap.objs.size + 1) := I.fpOk (Nat.le_succ _) (I.hok.fresh (Nat.le_succ _))
  have fp2 : FpOk X (pins ++ [(f, fo)]) H (s.heap.objs.size + 1) := ⟨fp.1, fp.2.1, fp.2.2.1, fp.2.2.2.1, fp.2.2.2.2.1, fun p hp => by
    rw [← List.append_assoc] at hp
    rcases List.mem_append.mp hp with q | q
    · exact fp.2.2.2.2.2 p q
    · rw [List.mem_singleton.mp q]
      exact Nat.ne_of_lt (Nat.lt_succ_of_lt (Heap.lt_size pf.1))⟩
  refine keyJ_tree (s := { s with heap := copyHeap s.heap its }) (pinOn I1 fun p hp => ?_) fp2 rv (copyHeap_at s.heap its) hZ turn run (G := fun kV H' kz => ∀ p, H' p = none → Q (.ref p) (upd H' p (.lst (byKeys xs kz)))) (fun kV H' h => h) fun kV H' kz s3 out c I3 fa hR hd hout hk hkl => ?_
  · rw [List.mem_singleton.mp hp]
    exact ⟨copyHeap_old pf.1, pf.2.1, pf.2.2.1, pf.2.2.2.1, pf.2.2.2.2⟩
  · refine ⟨rfl, ?_⟩
    have hzl : kz.length = xs.length := by rw [dpAll_len hd, hkl, rv.length]
    have hmap : (xs.zip kz).map Prod.snd = kz := by rw [List.map_snd_zip]; omega
    have he := keyedOut_each (R := fun v (x : V × PyData) => RelV x.1 v) (bs := xs.zip kz) Prod.snd (by rw [hmap]; exact hk) (each_zip rv hzl)
    have hv : Vals (byKeys xs kz) out := each_vals he
    have hlen : (byKeys xs kz).length = xs.length := by
      unfold byKeys
      rw [List.length_map, List.length_mergeSort, List.length_zip, hzl, Nat.min_self]
    have I5 := pinOff I3
    have fa5 : FpOk X pins H' (s.heap.objs.size + 1) := ⟨fa.1, fp.2⟩
    have new : ObjOk X.prog X.w (upd H' (s.heap.objs.size + 1) (.lst (byKeys xs kz))) s3.heap (s.heap.objs.size + 1) (.lst (byKeys xs kz)) := ⟨by rw [hlen]; exact hz, out, c, hv, hout⟩
    exact ⟨.ref _, _, track I5 fa5 ⟨_, hout⟩ new, rfl, hR _ fa.1⟩
end
end LamY
set_option maxRecDepth 100000
set_option maxHeartbeats 2000000
namespace LamY
open PySem PySem.Spec PyProof.Rows L2 LamX
section
variable {X : Cx} {pins : List (Addr × Obj)} {σ : L2.St} {H : Hp} {s : Shared}
/-- the lambda is made: its code object is new, or found in the table -/
theorem lam_make3 {M : Addr → Prop} {c P : Addr} {params : Arguments} {body : Expr} {scope : Scope} {pos : Pos} {E : Value → Shared → Prop} {Q : Value → Shared → Prop} (I : Inv X pins σ H s) (TB : TabB X.base X.mg c P) (hcode : X.env.code = .ref c)
    (hT : DL.TabM M H P (X.env.qual ++ "<lambda>")) (hM : ∀ c, H c = none → ¬ M c) (hdef : defaultsOf params X.env = ([], [])) (hfree : ∀ y ∈ scope.names, y.2 = .free → ∃ c, X.env.cells.lookup y.1 = some c)
    (h : ∀ (f c' : Addr) (pm ctv : Value) (H1 : Hp) (s' : Shared), Inv X pins σ H1 s' → (∀ b o, b ≠ P → H b = some o → H1 b = some o) → DL.TabM M H1 P (X.env.qual ++ "<lambda>") →
      s'.heap.get? f = some (PySem.W.kla_obj "<lambda>" (X.env.qual ++ "<lambda>") params body scope (cloFrom X.env.cells scope.names []) pm c' ctv) → H1 f = none → s.heap.objs.size ≤ f → H1 c' = some (CodeO c' (X.env.qual ++ "<lambda>")) → ¬ M c' → Q (.ref f) s') :
    wpAny (model X.prog X.w) X.A (eval (.Lambda params body scope pos) X.env) Q E s := by
  obtain ⟨ps, hP, ht, ha⟩ := id hT
  refine PySem.W.kla_eval hdef ?_
  have bP : s.heap.BuiltinsAt X.mg P := TB.bm.keeps I.bk
  have hP' : s.heap.get? P = some { cls := .none, data := .fields ps } := I.hok P _ hP
  cases hc : codeAmong pos ps.toList with
  | none =>
    refine PySem.W.kla_makeFunction (mg := X.mg) (c := c) (P := P) (ps := ps) (closure_ok hfree) I.ok.glob (I.mod.glob.keeps I.bk) hcode (TB.code.keeps I.bk) hP' ht hc TB.gP bP fun c' ctv h' tk hx hge hlt hrec htb => ?_
    obtain ⟨c2, oc, vs, t, e2, hoc, hd, hv⟩ := hrec
    cases e2
    have hsz : s.heap.objs.size ≤ h'.objs.size := Nat.le_trans hge (Nat.le_of_lt hlt)
    have nC : H c' = none := I.hok.fresh hge
    have I1 := inv_table (t' := tk) (more := #[rawInt pos.line, rawInt pos.col, .ref c']) (h' := h'.push (PySem.W.kla_obj "<lambda>" (X.env.qual ++ "<lambda>") params body scope (cloFrom X.env.cells scope.names []) ((X.mg "__name__").getD .none) c' ctv)) I hP
      (fun b o hb e => Heap.get?_push_of_some _ (hx b o hb e)) (Heap.get?_push_of_some _ htb) hge ⟨oc, vs, t, Heap.get?_push_of_some _ hoc, hd, hv⟩
    have hE : ∀ b o, b ≠ P → H b = some o → (upd (upd H P (.tbl (ps ++ #[rawInt pos.line, rawInt pos.col, .ref c']))) c' (CodeO c' (X.env.qual ++ "<lambda>"))) b = some o := fun b o n e => by
      rw [upd_ne (ne_of_none e nC), upd_ne n]
      exact e
    have eL : (ps ++ #[rawInt pos.line, rawInt pos.col, .ref c']).toList = ps.toList ++ [rawInt pos.line, rawInt pos.col, .ref c'] := by simp
    refine h h'.objs.size c' ((X.mg "__name__").getD .none) ctv _ _ I1 hE ⟨_, by rw [upd_ne (ne_of_none hP nC), upd_same], by rw [eL]; exact PySem.TriplesOk_snoc _ _ _ _ ht, fun p' cv hcv => ?_⟩ (Heap.get?_push_size _ rfl) ?_ hsz upd_same (hM c' nC)
    · rw [eL] at hcv
      rcases among_app _ ht hcv with z | z
      · obtain ⟨c0, e1, n0, e2⟩ := ha p' cv z
        exact ⟨c0, e1, n0, hE _ _ (fun z => codeO_ne ps (Option.some.inj (e2.symm.trans (by rw [z]; exact hP)))) e2⟩
      · exact ⟨c', z, hM c' nC, upd_same⟩
    · have n1 : h'.objs.size ≠ c' := Nat.ne_of_gt hlt
      have n2 : h'.objs.size ≠ P := Nat.ne_of_gt (Nat.lt_of_lt_of_le (Heap.lt_size hP') hsz)
      rw [upd_ne n1, upd_ne n2]
      exact I.hok.fresh hsz
  | some cv =>
    obtain ⟨c', e, n', hco⟩ := ha pos cv hc
    subst e
    refine PySem.W.kla_makeFunctionHit (mg := X.mg) (c := c) (P := P) (ps := ps) (closure_ok hfree) I.ok.glob (I.mod.glob.keeps I.bk) hcode (TB.code.keeps I.bk) hP' ht hc bP fun ctv h' tk hx hsz => ?_
    have I1 : Inv X pins σ H { s with heap := h'.push (PySem.W.kla_obj "<lambda>" (X.env.qual ++ "<lambda>") params body scope (cloFrom X.env.cells scope.names []) ((X.mg "__name__").getD .none) c' ctv), toks := tk } := I.kept fun b o e => Heap.get?_push_of_some _ (hx b o e)
    exact h h'.objs.size c' ((X.mg "__name__").getD .none) ctv H _ I1 (fun _ _ _ e => e) hT (Heap.get?_push_size _ rfl) (I.hok.fresh hsz) hsz hco n'
/-- sorted(e, key=lambda p: body) -/
def tSort (X : Cx) (q : Str) (P : Addr) (j : Nat) (te : TE) (tb : TE) : TE := fun σ H Q => te σ H fun v H1 => ∃ (M : Addr → Prop) (l : Addr) (xs : List V), v = .ref l ∧ SqL X.K H1 l xs ∧ DL.TabM M H1 P q ∧ (∀ c, H1 c = none → ¬ M c) ∧ ∀ H2 c', (∀ b o, b ≠ P → H1 b = some o → H2 b = some o) → DL.TabM M H2 P q → H2 c' = some (CodeO c' q) → ¬ M c' →
  keyRun (fun x H' Q' => H' c' = some (CodeO c' q) ∧ tb (σ.set j (some x)) H' Q') (fun kV H' => ∃ kz : List PyData, DpAll X.K H' kV kz ∧ PySem.W.AllAlike kz ∧ PySem.W.Sortable kz ∧ (∀ d, d ∈ kz → X.A.units + 2 + d.depth < cLine) ∧ ∀ p, H' p = none → Q (.ref p) (upd H' p (.lst (byKeys xs kz)))) xs [] H2
theorem sqL_ext {K : PySem.W.Frag} {H H' : Hp} {a P : Addr} {xs : List V} (h : SqL K H a xs) (nP : ∀ o, H P = some o → (∀ ys, o ≠ .lst ys) ∧ ∀ ob ys, o ≠ .frz ob (.lst ys)) (e : ∀ b o, b ≠ P → H b = some o → H' b = some o) : SqL K H' a xs := by
  rcases h with (h | ⟨o, h⟩) | h
  · exact .inl (.inl (e _ _ (fun z => (nP _ (z ▸ h)).1 xs rfl) h))
  · exact .inl (.inr ⟨o, e _ _ (fun z => (nP _ (z ▸ h)).2 o xs rfl) h⟩)
  · exact .inr h
theorem pe_sortLam {k j : Nat} {c P : Addr} {p : Str} {params : Arguments} {body : Expr} {scope : Scope} {e : Expr} {te tb : TE} {np lpos pos : Pos} {kwp : Pos} (hg : Gl X "sorted") (hm : X.mg "sorted" = none) (hv : bootBuiltins "sorted" = some (.builtin "sorted")) (he : PE X e te)
    (TB : TabB X.base X.mg c P) (hcode : X.env.code = .ref c) (hr : Room (k + 3) X.A) (L : LamP X.env.scope scope p) (hN : X.N.Nodup) (hj : X.N[j]? = some p) (hdef : defaultsOf params X.env = ([], []))
    (hbind : ∀ (q : Str) (cl : List (Str × Addr)) (pm cv ctv u : Value), bindArgs (PySem.W.kla_fn "<lambda>" q params body scope cl pm cv ctv) ⟨[u], []⟩ = pure [(p, u)])
    (hbody : ∀ (A : Around) (s : Shared) (H : Hp) (f c' : Addr), Room k (A.deeper (lamEnv X scope s.heap.objs.size f c')) → PE (lamCx X A X.stack s H E00 scope f c') body tb)
    (hst : backTo pos (starEach [e] X.env) = (false, eval e X.env) :: backTo pos (starEach [] X.env) := by rfl) (hpl : (backTo pos (starEach [e] X.env)).any (·.1) = false := by rfl)
    (hall : (backToKw pos (keywordEach [⟨some "key", .Lambda params body scope lpos, kwp⟩] X.env)).all (·.1.isSome) = true := by rfl) (hnone : (backToKw pos (keywordEach [⟨some "key", .Lambda params body scope lpos, kwp⟩] X.env)).any (·.1.isNone) = false := by rfl)
    (hks : (backToKw pos (keywordEach [⟨some "key", .Lambda params body scope lpos, kwp⟩] X.env)).filterMap (·.1) = [Str.ofString "key"] := by rfl) :
    PE X (.Call (.Name "sorted" np) [e] [⟨some "key", .Lambda params body scope lpos, kwp⟩] pos) (tSort X (X.env.qual ++ "<lambda>") P j te tb) := by
  refine ⟨fun pins s σ H Q I h => ?_⟩
  refine wpAny_Call_Name_kw (ld_blt I hg hm hv ?_)
  refine PyProof.Rows.callWith_kw ?_ hst hpl hall hnone
  rw [hks, hst]
  refine Calls.spliced_cons (thn (he.run pins s σ H _ I h) fun u s1 ⟨v, H1, I1, r1, q1⟩ => ?_)
  obtain ⟨M, l, xs, rfl, hl, hT, hM, q1⟩ := q1
  cases (show u = Value.ref l from r1)
  refine Calls.spliced_nil ?_
  show wpAny _ _ (evalAll ((do let v ← eval (.Lambda params body scope lpos) X.env; standAt pos; pure v) :: [])) _ _ s1
  refine wpAny_evalAll_cons (wpAny_bind (lam_make3 I1 TB hcode hT hM hdef (L.has I1.ok) fun f c' pm ctv H2 s2 I2 eN T2 hf hfn hsz hco hnc => wpAny_bind (wpAny_standAt (wpAny_pure ?_))))
  refine wpAny_evalAll_nil ?_
  refine sorted_keyJ (B := fun x H' Q' => H' c' = some (CodeO c' (X.env.qual ++ "<lambda>")) ∧ tb (σ.set j (some x)) H' Q') I2 (sqL_ext hl (fun o ho => ?_) eN) ⟨hf, hfn, ?_, I1.nofs hsz, fun v q => nomatch q⟩ (fun pins' s' H' x u Q' hp I' rx ⟨hc', ht'⟩ => ?_) (q1 H2 c' eN T2 hco hnc)
  · obtain ⟨ps, hP, _⟩ := hT
    rw [hP] at ho
    cases ho
    exact ⟨fun ys z => (nomatch z), fun ob ys z => (nomatch z)⟩
  · exact Nat.ne_of_gt (Nat.lt_of_lt_of_le I1.lt hsz)
  · exact lam_call1 (A := X.A.in1.in1) I' L hN hj rx (pinAt I' hp).1 hc' (hbind _ _ _ _ _ _) I'.env0.in1.in1 hr.in1.in1 (fun hr' => hbody _ _ _ _ _ hr') ht'
end
end LamY
set_option maxRecDepth 100000
set_option maxHeartbeats 2000000
namespace DL
open PySem PySem.Spec PyProof.Rows L2 LamX LamY
/-! sorted(e, key=lambda p: body), told of trees -/
def byKeysD (ds : List D) (kz : List PyData) : List D := ((ds.zip kz).mergeSort (PySem.W.dataLe false Prod.snd)).map Prod.fst
def krW (wb : DW) (ρ : Loc) (j : Nat) (P : List D → Sto → Prop) : List D → List D → Sto → Prop
  | [], acc, S => P acc S
  | x :: xs, acc, S => wb (ρ.set j (some x)) S (fun k S' => krW wb ρ j P xs (acc ++ [k]) S') EF
def srtP (ds : List D) (P : DK) : List D → Sto → Prop := fun ks S => ∃ kz, toPys ks = some kz ∧ PySem.W.AllAlike kz ∧ PySem.W.Sortable kz ∧ (∀ d, d ∈ kz → d.depth ≤ 40) ∧ P (.lst (byKeysD ds kz)) S
def wSort (T : Addr) (q : Str) (j : Nat) (we wb : DW) : DW := fun ρ S P E => we ρ S (fun x S1 => (∃ i : Nat, S1[i]? = some (D.tb T q)) ∧ (match val S1 x with
  | .lst ds => krW wb ρ j (srtP ds P) ds [] S1
  | _ => False)) E
section
variable {K : PySem.W.Frag} {M : Addr → Prop} {mu : List Addr}
theorem rs_of {α : Type} {H : Hp} {f : α → D} {g : α → V} : ∀ {l : List α}, (∀ t ∈ l, R K M mu H (f t) (g t)) → Rs K M mu H (l.map f) (l.map g)
  | [], _ => rfl
  | t :: l, h => ⟨g t, _, rfl, h t (List.mem_cons_self ..), rs_of fun x hx => h x (List.mem_cons_of_mem _ hx)⟩
theorem rs_zip {H : Hp} : ∀ {ds : List D} {vs : List V}, Rs K M mu H ds vs → ∀ t ∈ ds.zip vs, R K M mu H t.1 t.2
  | [], _, _, t, ht => by simp at ht
  | d :: ds, _, ⟨v, r, e, a, b⟩, t, ht => by
    rw [e, List.zip_cons_cons] at ht
    rcases List.mem_cons.mp ht with z | z
    · rw [z]; exact a
    · exact rs_zip b t z
theorem rs_byKeys {H : Hp} {ds : List D} {vs : List V} {kz : List PyData} (r : Rs K M mu H ds vs) : Rs K M mu H (byKeysD ds kz) (byKeys vs kz) := by
  have hl := r.len
  let T := (ds.zip vs).zip kz
  have e1 : (T.map fun t => (t.1.1, t.2)) = ds.zip kz := by
    have : ∀ (ds : List D) (vs : List V) (kz : List PyData), ds.length = vs.length → (((ds.zip vs).zip kz).map fun t => (t.1.1, t.2)) = ds.zip kz := fun ds => by
      induction ds with
      | nil => intro vs kz _; simp
      | cons d ds ih =>
        intro vs kz h
        cases vs with
        | nil => simp at h
        | cons v vs =>
          cases kz with
          | nil => simp
          | cons k kz =>
            rw [List.zip_cons_cons, List.zip_cons_cons, List.map_cons, List.zip_cons_cons, ih vs kz (by simpa using h)]
    exact this ds vs kz hl
  have e2 : (T.map fun t => (t.1.2, t.2)) = vs.zip kz := by
    have : ∀ (ds : List D) (vs : List V) (kz : List PyData), ds.length = vs.length → (((ds.zip vs).zip kz).map fun t => (t.1.2, t.2)) = vs.zip kz := fun ds => by
      induction ds with
      | nil =>
        intro vs kz h
        cases vs with
        | nil => simp
        | cons _ _ => simp at h
      | cons d ds ih =>
        intro vs kz h
        cases vs with
        | nil => simp at h
        | cons v vs =>
          cases kz with
          | nil => simp
          | cons k kz =>
            rw [List.zip_cons_cons, List.zip_cons_cons, List.map_cons, List.zip_cons_cons, ih vs kz (by simpa using h)]
    exact this ds vs kz hl
  have m1 : byKeysD ds kz = (T.mergeSort (PySem.W.dataLe false fun t => t.2)).map fun t => t.1.1 := by
    unfold byKeysD
    have h := List.map_mergeSort (r := PySem.W.dataLe false fun t : (D × V) × PyData => t.2) (s := PySem.W.dataLe false (Prod.snd : D × PyData → PyData)) (f := fun t : (D × V) × PyData => (t.1.1, t.2)) (l := T) (fun a _ b _ => rfl)
    rw [← e1, ← h, List.map_map]
    rfl
  have m2 : byKeys vs kz = (T.mergeSort (PySem.W.dataLe false fun t => t.2)).map fun t => t.1.2 := by
    unfold byKeys
    have h := List.map_mergeSort (r := PySem.W.dataLe false fun t : (D × V) × PyData => t.2) (s := PySem.W.dataLe false (Prod.snd : V × PyData → PyData)) (f := fun t : (D × V) × PyData => (t.1.2, t.2)) (l := T) (fun a _ b _ => rfl)
    rw [← e2, ← h, List.map_map]
    rfl
  rw [m1, m2]
  refine rs_of fun t ht => ?_
  have ht' : t ∈ T := (List.mergeSort_perm _ _).subset ht
  exact rs_zip r t.1 (List.of_mem_zip ht').1
/-- the keys, one after the other -/
theorem kr_run {H0 : Hp} {P : DK} {Q : VK} {wb : DW} {ρ : Loc} {σ : L2.St} {j : Nat} {c' : Addr} {q : Str} {uni : Nat} (hu : uni + 66 < cLine) (hnc : ¬ M c') (hc0 : H0 c' = some (CodeO c' q)) {ds0 : List D} {vs0 : List V} :
    ∀ (ds : List D) (vs : List V) (acc : List D) (accV : List V) (S : Sto) (H : Hp), Keep mu H0 H → Wok K M mu H S → Env K M mu H ρ σ → Rs K M mu H ds0 vs0 → Rs K M mu H ds vs → Rs K M mu H acc accV → krW wb ρ j (srtP ds0 P) ds acc S →
      (∀ v H' d S', Keep mu H H' → Wok K M mu H' S' → R K M mu H' d v → P d S' → Q v H') →
      keyRun (fun x H' Q' => H' c' = some (CodeO c' q) ∧ tOf K W0 wb (σ.set j (some x)) H' Q') (fun kV H' => ∃ kz : List PyData, DpAll K H' kV kz ∧ PySem.W.AllAlike kz ∧ PySem.W.Sortable kz ∧ (∀ d, d ∈ kz → uni + 2 + d.depth < cLine) ∧ ∀ p, H' p = none → Q (.ref p) (upd H' p (.lst (byKeys vs0 kz)))) vs accV H
  | [], vs, acc, accV, S, H, k0, ok, en, r0, r, ra, hw, n => by
    obtain rfl : vs = [] := r
    obtain ⟨kz, h1, h2, h3, h4, h5⟩ := hw
    refine ⟨kz, Rs.dp _ _ _ ra h1, h2, h3, fun d hd => ?_, fun p hp => ?_⟩
    · have := h4 d hd
      omega
    · obtain ⟨ok2, k2, _⟩ := ok.alloc hp (.lst (byKeys vs0 kz))
      exact n _ _ _ S k2 ok2 (newL ok hp (rs_byKeys r0)) h5
  | d :: ds, vs, acc, accV, S, H, k0, ok, en, r0, r, ra, hw, n => by
    obtain ⟨v, vs, rfl, rv, r⟩ := r
    have nmu : c' ∉ mu := fun m => hnc (ok.sub c' m)
    refine ⟨k0 c' _ hc0 (.inl nmu), M, mu, ρ.set j (some d), S, _, EF, ok, en.set rv, hw, fun kv H2 kd S2 k2 ok2 rk h2 => ?_, fun _ _ _ _ _ _ _ _ _ h => h.elim⟩
    exact kr_run hu hnc hc0 ds vs (acc ++ [kd]) (accV ++ [kv]) S2 H2 (k0.trans k2) ok2 (en.keep ok k2) (r0.keep ok k2) (r.keep ok k2) ((ra.keep ok k2).app ⟨kv, [], rfl, rk, rfl⟩) h2 fun v' H' d' S' k' => n v' H' d' S' (k2.trans k')
end
theorem rd_sort {X : Cx} {W : WX} {te : TE} {we wb : DW} {q : Str} {T : Addr} {j : Nat} (hu : X.A.units + 66 < cLine) (ro : Rd X.K W te we) : Rd X.K W (tSort X q T j te (tOf X.K W0 wb)) (wSort T q j we wb) := by
  refine ⟨fun M mu σ ρ S H P E Q ok en hw n x => ?_⟩
  refine ro.run M mu σ ρ S H _ E _ ok en hw (fun v H1 d S1 k1 ok1 r1 h1 => ?_) x
  obtain ⟨⟨i, hi⟩, h1⟩ := h1
  have hil : i < mu.length := by rw [← ok1.len]; exact (List.getElem?_eq_some_iff.mp hi).1
  obtain ⟨e0, ht⟩ : mu[i] = T ∧ TabM M H1 T q := ok1.at_ i mu[i] _ (List.getElem?_eq_getElem hil) hi
  have hTm : T ∈ mu := by rw [← e0]; exact List.getElem_mem hil
  cases e1 : val S1 d with
  | lst ds =>
    simp only [e1] at h1
    obtain ⟨a, vs, rfl, ha, rr⟩ := seq_lst ok1 r1 e1
    refine ⟨M, a, vs, rfl, SqL.of ha, ht, fun c hc m => ok1.tr c m hc, fun H2 c' eP T2 hc2 hnc => ?_⟩
    have k2 : Keep mu H1 H2 := fun b o hb nb => by
      by_cases hbT : b = T
      · obtain ⟨ps, hP, _⟩ := ht
        rw [hbT, hP] at hb
        cases hb
        rcases nb with nb | nb
        · exact absurd (hbT ▸ hTm) nb
        · rcases nb with ⟨od, u, z⟩ | ⟨xs, z⟩ <;> cases z
      · exact eP b o hbT hb
    have ok2 : Wok X.K M mu H2 S1 := by
      have ex := (Ext.of ok1.sub k2).toExt0
      refine ⟨ok1.len, ok1.sub, ok1.nd, fun b m => ?_, fun i' b d' h1' h2' => ?_⟩
      · by_cases hbT : b = T
        · obtain ⟨ps, hP, _⟩ := T2
          rw [hbT, hP]
          simp
        · cases q' : H1 b with
          | none => exact absurd q' (ok1.tr b m)
          | some o => rw [eP b o hbT q']; simp
      · have c := ok1.at_ i' b d' h1' h2'
        by_cases hbT : b = T
        · have hii : i' = i := by
            have hl' := (List.getElem?_eq_some_iff.mp h1').1
            have g1 := (List.getElem?_eq_some_iff.mp h1').2
            rcases Nat.lt_trichotomy i' i with z | z | z
            · exact absurd (g1.trans (hbT.trans e0.symm)) (List.pairwise_iff_getElem.mp ok1.nd i' i hl' hil z)
            · exact z
            · exact absurd (e0.trans (hbT.symm.trans g1.symm)) (List.pairwise_iff_getElem.mp ok1.nd i i' hil hl' z)
          subst hii
          rw [hi] at h2'
          obtain rfl := Option.some.inj h2'
          exact ⟨hbT, T2⟩
        · have hq : H2 b = H1 b := by
            have hbm := ok1.sub b (List.mem_of_getElem? h1')
            cases q' : H1 b with
            | none => exact absurd q' (ok1.tr b hbm)
            | some o => exact eP b o hbT q'
          exact Cl.mono ex hq c
    exact kr_run hu hnc hc2 ds vs [] [] S1 H2 (.refl _ _) ok2 ((en.keep ok k1).keep ok1 k2) (rr.keep ok1 k2) (rr.keep ok1 k2) rfl h1 fun v' H' d' S' k' => n v' H' d' S' (k1.trans (k2.trans k'))
  | _ => simp only [e1] at h1
theorem de_sortLam {X : Cx} {W : WX} {k j : Nat} {c T : Addr} {p q : Str} {params : Arguments} {body : Expr} {scope : Scope} {e : Expr} {we wb : DW} {np lpos pos : Pos} {kwp : Pos} (hm : X.mg "sorted" = none) (he : DE X W e we)
    (TB : TabB X.base X.mg c T) (hcode : X.env.code = .ref c) (hr : Room (k + 3) X.A) (L : LamP X.env.scope scope p) (hN : X.N.Nodup) (hj : X.N[j]? = some p) (hq : X.env.qual ++ "<lambda>" = q)
    (hbody : ∀ (A : Around) (s : Shared) (H : Hp) (f c' : Addr), Room k (A.deeper (lamEnv X scope s.heap.objs.size f c')) → DE (lamCx X A X.stack s H E00 scope f c') W0 body wb)
    (hbind : ∀ (q : Str) (cl : List (Str × Addr)) (pm cv ctv u : Value), bindArgs (PySem.W.kla_fn "<lambda>" q params body scope cl pm cv ctv) ⟨[u], []⟩ = pure [(p, u)] := by intro _ _ _ _ _ _; rfl) (hdef : defaultsOf params X.env = ([], []) := by rfl) (hg : Gl X "sorted" := by rfl)
    (hst : backTo pos (starEach [e] X.env) = (false, eval e X.env) :: backTo pos (starEach [] X.env) := by rfl) (hpl : (backTo pos (starEach [e] X.env)).any (·.1) = false := by rfl)
    (hall : (backToKw pos (keywordEach [⟨some "key", .Lambda params body scope lpos, kwp⟩] X.env)).all (·.1.isSome) = true := by rfl) (hnone : (backToKw pos (keywordEach [⟨some "key", .Lambda params body scope lpos, kwp⟩] X.env)).any (·.1.isNone) = false := by rfl)
    (hks : (backToKw pos (keywordEach [⟨some "key", .Lambda params body scope lpos, kwp⟩] X.env)).filterMap (·.1) = [Str.ofString "key"] := by rfl) :
    DE X W (.Call (.Name "sorted" np) [e] [⟨some "key", .Lambda params body scope lpos, kwp⟩] pos) (wSort T q j we wb) := by
  subst hq
  obtain ⟨te, pe, re⟩ := he.ex
  exact ⟨_, pe_sortLam hg hm bt_sorted pe TB hcode hr L hN hj hdef hbind (fun A s H f c' hr' => (hbody A s H f c' hr').can) hst hpl hall hnone hks, rd_sort (by have := hr.un; omega) re⟩
theorem wSort_ap {T : Addr} {q : Str} {j : Nat} {we wb : DW} {ρ : Loc} {S : Sto} {P : DK} {E : Ex} : wSort T q j we wb ρ S P E = (we ρ S (fun x S1 => (∃ i : Nat, S1[i]? = some (D.tb T q)) ∧ (match val S1 x with
  | .lst ds => krW wb ρ j (srtP ds P) ds [] S1
  | _ => False)) E) := rfl
end DL
set_option maxRecDepth 100000
namespace DL
open PySem PySem.Spec PyProof.Rows L2
/-! defs that make lambdas: their code object is known -/
def CodeIs (K : PySem.W.Frag) (f c : Addr) : Prop := ∀ (oc : Value) (od : Option Addr) (osl : Array (Option Value)) (fd : FuncData) (c' : Addr), K.lookup f = some ⟨oc, od, .func fd, osl⟩ → fd.code = .ref c' → c' = c
theorem codeIs_of {K : PySem.W.Frag} {p : Str × Option Str} : CodeIs K (He.fAd K p) (He.codeOf K p) := fun _ _ _ _ _ lk e => (He.codeOf_eq lk e).symm
section
variable {P : Program} {w : World} {K : PySem.W.Frag} {mg : Str → Option Value} {base : Heap} {x qual : Str} {params : Arguments} {body : List Stmt} {scope : Scope} {dvs : List V} {kws : List (Str × V)} {f c : Addr} {fd : FuncData}
theorem okC_def {CX : CXT} {N ps : List Str} {k : Nat} {sp : DSp} {wb : DWS} (F : FunD K x qual params body scope dvs kws f fd) (hc : CodeIs K f c) (sc : FnScope N ps scope) (len : ∀ ds S P E, sp ds S P E → ds.length = ps.length)
    (hb : ∀ (A : Around) (outer : List PySem.Env) (s : Shared) (H : Hp) (E : XK), Room k (A.deeper (envOfC qual scope s.heap.objs.size f (.ref c))) → DSs (cxOf CX P w K mg base N qual scope f (.ref c) A outer s H E) (fun C d _ H' => E C d H') body wb)
    (hw : ∀ ds S P E, S.all (lo S.length) = true → sp ds S P E → wb (endsOf S.length P E) (startD N.length ds) S) : FnOk P w K mg base CX (k + 1) f fd ps (toSp K sp) := by
  obtain ⟨oc, od, dV, kV, doc, pm, an, cdv, ct, osl, rfl, lk, hcd, _, _⟩ := F.ex
  obtain ⟨c', rfl⟩ := He.codeIn_ref hcd
  obtain rfl : c' = c := hc _ _ _ _ _ lk rfl
  refine fn_of lk hcd sc (fun vs H Q E h => ?_) fun A outer s H vs Q E hr h => ?_
  · obtain ⟨M, mu, S, ds, P, Ex, ok, r, q, _⟩ := h
    rw [← r.len]
    exact len _ _ _ _ q
  · obtain ⟨M, mu, S, ds, P, Ex, ok, r, q, n, xx⟩ := h
    obtain ⟨t, p, rb⟩ := (hb A outer s H E hr).ex
    exact ⟨t, p, rb.run M mu _ _ S H _ _ ok (env_start r) (hw ds S P Ex ok.scoped q) (eok_def ok n xx)⟩
end
section
variable {P : Program} {w : World} {K : PySem.W.Frag} {mg : Str → Option Value} {base : Heap} {C : Addr} {m nm qual : Str} {st : Stmt} {dvs : List V} {kws : List (Str × V)} {c : Addr}
def MInC (K : PySem.W.Frag) (C : Addr) (m nm qual : Str) (st : Stmt) (dvs : List V) (kws : List (Str × V)) (c : Addr) : Prop := ∃ (f : Addr) (fd : FuncData), FunD K nm qual (defArgs st) (defBody st) (defScope st) dvs kws f fd ∧ Cls K C ∧ Meth K C m f ∧ CodeIs K f c
/-- THE RULE for a method that makes lambdas -/
theorem mtFC_def {N ps : List Str} {k : Nat} {sp : DSp} {wb : DWS} (I : MInC K C m nm qual st dvs kws c) (sc : FnScope N ps (defScope st)) (len : ∀ ds S P E, sp ds S P E → ds.length = ps.length)
    (hb : ∀ (f : Addr) (A : Around) (outer : List PySem.Env) (s : Shared) (H : Hp) (E : XK), Room k (A.deeper (envOfC qual (defScope st) s.heap.objs.size f (.ref c))) → DSs (cxOf CX0 P w K mg base N qual (defScope st) f (.ref c) A outer s H E) (fun C d _ H' => E C d H') (defBody st) wb)
    (hw : ∀ ds S P E, S.all (lo S.length) = true → sp ds S P E → wb (endsOf S.length P E) (startD N.length ds) S) : ∃ f fd, MtF P w K mg base (k + 1) C m ps sp f fd ∧ FunD K nm qual (defArgs st) (defBody st) (defScope st) dvs kws f fd := by
  obtain ⟨f, fd, F, hC, hm, hc⟩ := I
  exact ⟨f, fd, ⟨okC_def F hc sc len (fun A outer s H E hr => hb f A outer s H E hr) hw, hC, hm, let ⟨oc, od, _, _, _, _, _, _, _, osl, _, lk, _⟩ := F.ex; ⟨oc, od, osl, lk⟩⟩, F⟩
end
/-! the law, with tables of code objects -/
def tabsD (T : List (Addr × Str)) : Sto := T.map fun t => .tb t.1 t.2
def spLawT (T : List (Addr × Str)) : DSp := fun ds S P _ => match ds with
  | [.scr ns] => ns.length ≤ 63 ∧ S = tabsD T ∧ P (.bl true) (tabsD T)
  | _ => False
theorem law_spT {K : PySem.W.Frag} {H : Hp} {a : Addr} {ns : List Int} {T : List (Addr × Str)} (hn : (T.map (·.1)).Nodup) (hT : ∀ t ∈ T, H t.1 = some (.tbl #[])) (hl : ns.length ≤ 63) (hS : SqL K H a (ns.map V.int)) : toSp K (spLawT T) [.ref a] H (fun v _ => v = .bl true) fun _ _ _ => False := by
  have hmem : ∀ b, b ∈ T.map (·.1) → H b = some (.tbl #[]) := fun b hb => by
    obtain ⟨t, ht, rfl⟩ := List.mem_map.mp hb
    exact hT t ht
  refine ⟨fun b => b ∈ T.map (·.1), T.map (·.1), tabsD T, [.scr ns], fun d _ => d = .bl true, EF, ⟨by simp [tabsD], fun _ h => h, hn, fun b h => by rw [hmem b h]; simp, fun i b d h1 h2 => ?_⟩, ⟨.ref a, [], rfl, ⟨a, rfl, ?_⟩, rfl⟩, ⟨hl, rfl, rfl⟩, fun v H' d S' _ _ r e => ?_, fun _ _ _ _ _ _ _ _ _ h => h⟩
  · unfold tabsD at h2
    rw [List.getElem?_map] at h1 h2
    obtain ⟨t, ht, e1⟩ := Option.map_eq_some_iff.mp h1
    rw [ht] at h2
    obtain rfl : D.tb t.1 t.2 = d := Option.some.inj h2
    refine ⟨e1.symm, #[], hT t (List.mem_of_getElem? ht), True.intro, fun pos cv hc => ?_⟩
    have z : codeAmong pos [] = some cv := hc
    simp [codeAmong] at z
  · rcases hS with q | q
    · refine .inl ⟨fun m => ?_, q⟩
      have h1 := hmem a m
      rcases q with q | ⟨o, q⟩ <;> (rw [h1] at q; cases q)
    · exact .inr q
  · subst e
    exact r
theorem rtT {n : Nat} {P : DK} {E : Ex} {b : Bool} {S S' : Sto} (hS : S.all (lo S.length) = true) (hl : S.length = n) (h : P (.bl b) S) : (endsOf n P E).rt (.bl b) (S ++ S') := by
  subst hl
  exact .inr ⟨.bl b, rfl, by rw [List.take_left]; exact hS, by rw [List.take_left]; exact h⟩
end DL
set_option maxRecDepth 100000
set_option maxHeartbeats 1000000
namespace DL
open PySem PySem.Spec PyProof.Rows L2 LamY
/-! sorted by keys that are pairs -/
theorem krW_map {wb : DW} {ρ : Loc} {j : Nat} {P : List D → Sto → Prop} {S : Sto} (f : D → D) : ∀ (xs acc : List D), (∀ x ∈ xs, ∀ Q : DK, Q (f x) S → wb (ρ.set j (some x)) S Q EF) → P (acc ++ xs.map f) S → krW wb ρ j P xs acc S
  | [], acc, _, h => by simpa [krW] using h
  | x :: xs, acc, ht, h => by
    refine ht x (List.mem_cons_self ..) _ ?_
    refine krW_map f xs (acc ++ [f x]) (fun y hy => ht y (List.mem_cons_of_mem _ hy)) ?_
    rw [List.append_assoc]
    exact h
def pyP (p : Pl) : PyData := .tuple [.int p.1, .int p.2]
theorem toPys_pl : ∀ ks : List Pl, toPys (ks.map plD) = some (ks.map pyP)
  | [] => rfl
  | p :: ks => by
    show (match toPy (plD p), toPys (ks.map plD) with
      | some p, some ps => some (p :: ps)
      | _, _ => none) = _
    rw [toPys_pl ks]
    rfl
/-- the places by what f makes of them -/
def sortBy (f : Pl → Pl) (ks : List Pl) : List Pl := ks.mergeSort fun p q => leP (f p) (f q)
theorem byKeys_pl (f : Pl → Pl) (ks : List Pl) : byKeysD (ks.map plD) (ks.map fun p => pyP (f p)) = (sortBy f ks).map plD := by
  unfold byKeysD sortBy
  have e1 : (ks.map plD).zip (ks.map fun p => pyP (f p)) = ks.map fun p => (plD p, pyP (f p)) := by
    induction ks with
    | nil => rfl
    | cons k ks ih => rw [List.map_cons, List.map_cons, List.map_cons, List.zip_cons_cons, ih]
  have h := List.map_mergeSort (r := fun p q : Pl => leP (f p) (f q)) (s := PySem.W.dataLe false (Prod.snd : D × PyData → PyData)) (f := fun p : Pl => (plD p, pyP (f p))) (l := ks) (fun a _ b _ => by
    have := congrFun (congrFun (PySem.W.dataLe_ii (fun p : Pl => (f p).1) (fun p : Pl => (f p).2)) a) b
    exact this.symm)
  rw [e1, ← h, List.map_map]
  rfl
theorem srt_pl {f : Pl → Pl} {ks : List Pl} {P : DK} {S : Sto} (h : P (.lst ((sortBy f ks).map plD)) S) : srtP (ks.map plD) P ((ks.map plD).map fun d => plD (f (unP d))) S := by
  have e1 : ((ks.map plD).map fun d => plD (f (unP d))) = (ks.map f).map plD := by rw [List.map_map, List.map_map]; rfl
  refine ⟨(ks.map f).map pyP, by rw [e1]; exact toPys_pl _, ?_, ?_, ?_, ?_⟩
  · intro d hd d' hd'
    obtain ⟨p, _, rfl⟩ := List.mem_map.mp hd
    obtain ⟨q, _, rfl⟩ := List.mem_map.mp hd'
    simp [pyP, PySem.W.alike, PySem.W.alikeAll]
  · refine .inl fun d hd => ?_
    obtain ⟨p, _, rfl⟩ := List.mem_map.mp hd
    exact ⟨_, _, rfl⟩
  · intro d hd
    obtain ⟨p, _, rfl⟩ := List.mem_map.mp hd
    simp [pyP, PyData.depth, PyData.depthAll]
  · have e2 : (ks.map f).map pyP = ks.map fun p => pyP (f p) := by rw [List.map_map]; rfl
    rw [e2, byKeys_pl]
    exact h
theorem sortBy_perm (f : Pl → Pl) (ks : List Pl) : (sortBy f ks).Perm ks := List.mergeSort_perm _ _
theorem sortBy_id (t : Tab) : sortBy id (t.map (·.1)) = sortK t := rfl
/-! a comprehension whose items change the store -/
theorem lcW_inv {i : Nat} {te : DW} {ρ : Loc} {P : List D → Sto → Prop} (J : List D → Sto → Prop) (step : ∀ x acc S, J acc S → ∀ Q : DK, (∀ y S', J (acc ++ [y]) S' → Q y S') → te (ρ.set i (some x)) S Q EF) :
    ∀ (xs acc : List D) (S : Sto), J acc S → acc.length + xs.length ≤ 1000000 → (∀ (ys : List D) (S' : Sto), ys.length = acc.length + xs.length → J ys S' → P ys S') → lcW (wgName i) wTYes te ρ P xs acc S
  | [], acc, S, hJ, hl, h => ⟨by simpa using hl, h acc S (by simp) hJ⟩
  | x :: xs, acc, S, hJ, hl, h => by
    rw [List.length_cons] at hl
    refine ⟨by omega, ?_⟩
    show (if true = true then te (ρ.set i (some x)) S (fun y S2 => lcW (wgName i) wTYes te ρ P xs (acc ++ [y]) S2) EF else lcW (wgName i) wTYes te ρ P xs acc S)
    rw [if_pos rfl]
    refine step x acc S hJ _ fun y S' hJ' => ?_
    refine lcW_inv J step xs (acc ++ [y]) S' hJ' (by rw [List.length_append, List.length_singleton]; omega) fun ys S2 hy hJ2 => h ys S2 ?_ hJ2
    rw [hy, List.length_append, List.length_singleton, List.length_cons]
    omega
/-! max of two -/
def maxD : DFn := fun xs S P => match xs with
  | [.int i, .int j] => P (.int (if j > i then j else i)) S
  | _ => False
theorem calld_max2 {K : PySem.W.Frag} : CallD K (fun xs H Q => ∃ i j, xs = [.int i, .int j] ∧ Q (.int (if j > i then j else i)) H) maxD := by
  intro M mu H S xs vs P Q ok r h n
  unfold maxD at h
  split at h
  · rename_i i j
    obtain ⟨v, u, rfl, r1, r2⟩ := r.two
    obtain rfl : v = .int i := r1
    obtain rfl : u = .int j := r2
    exact ⟨i, j, rfl, n _ H (.int _) S (.refl _ _) ok rfl h⟩
  · exact h.elim
/-! a method called by keywords alone -/
def MtK (P : Program) (w : World) (K : PySem.W.Frag) (mg : Str → Option Value) (base : Heap) (k : Nat) (C : Addr) (m : Str) (ks : List Str) (sp : DSp) (gD : List D → List D → List D → List D) : Prop :=
  ∃ (f : Addr) (fd : FuncData) (ps : List Str) (g : List Value → List Value → List Value) (gV : List V → List V → List V), FnOk P w K mg base CX0 k f fd ps (toSp K sp) ∧ Cls K C ∧ Meth K C m f ∧ KBn K fd ps 1 ks g gV ∧ GRel K gD gV
theorem hideMK {P : Program} {w : World} {K : PySem.W.Frag} {mg : Str → Option Value} {base : Heap} {k : Nat} {C : Addr} {m : Str} {ks : List Str} {sp : DSp} {gD : List D → List D → List D → List D} (c : MtK P w K mg base k C m ks sp gD) : ∃ sp' : DSp, MtK P w K mg base k C m ks sp' gD ∧ ∀ ds S P E, sp ds S P E → sp' ds S P E := ⟨sp, c, fun _ _ _ _ h => h⟩
def tMethK (C : Addr) (m : Str) (n : Nat) (sp : Sp) (gV : List V → List V → List V) (to : TE) (tk : TA) : TE := fun σ H Q => to σ H fun x H1 => ∃ a dx fs, x = V.ref a ∧ H1 a = some (.ins C dx fs) ∧ fs.lookup m = none ∧ tk σ H1 fun zs H2 => zs.length = n ∧ sp (gV [.ref a] zs) H2 Q fun _ _ _ => False
def wMethK (C : Addr) (m : Str) (n : Nat) (sp : DSp) (gD : List D → List D → List D → List D) (wo : DW) (wk : DWA) : DW := fun ρ S P E => wo ρ S (fun x S1 => recvD C m x S1 ∧ wk ρ S1 (fun es S2 => es.length = n ∧ sp (gD [x] [] es) S2 P EF) E) E
theorem wMethK_ap {C : Addr} {m : Str} {n : Nat} {sp : DSp} {gD : List D → List D → List D → List D} {wo : DW} {wk : DWA} {ρ : Loc} {S : Sto} {P : DK} {E : Ex} : wMethK C m n sp gD wo wk ρ S P E = (wo ρ S (fun x S1 => recvD C m x S1 ∧ wk ρ S1 (fun es S2 => es.length = n ∧ sp (gD [x] [] es) S2 P EF) E) E) := rfl
section
variable {X : Cx} {W : WX} {C f : Addr} {fd : FuncData} {k j : Nat} {m : Str} {ps ks : List Str} {sp : DSp} {o : Expr} {wo : DW} {wk : DWA} {kws : List Keyword} {apos pos : Pos} {gD : List D → List D → List D → List D}
theorem pe_methK {sp : Sp} {to : TE} {tk : TA} {g : List Value → List Value → List Value} {gV : List V → List V → List V} {pl : Sem Bool} (he : PE X o to) (c : Cls X.K C) (hm : Meth X.K C m f) (F : FnOk X.prog X.w X.K X.mg X.base CX0 k f fd ps sp) (hr : Room k X.A) (hb : KBn X.K fd ps 1 ks g gV) (hk : PK X kws tk)
    (hall : (backToKw pos (keywordEach kws X.env)).all (·.1.isSome) = true) (hks : (backToKw pos (keywordEach kws X.env)).filterMap (·.1) = ks) (hpl : ((backTo pos (starEach [] X.env)).any (·.1) || (backToKw pos (keywordEach kws X.env)).any (·.1.isNone)) = false)
    (ht : eval (.Call (.Attribute o m apos) [] kws pos) X.env = (do
      let ov ← eval o X.env
      standAt apos.atName
      let (f, first) ← holding [ov] (getMethod ov m pl)
      callWith pos f first (backTo pos (starEach [] X.env)) (backToKw pos (keywordEach kws X.env)))) : PE X (.Call (.Attribute o m apos) [] kws pos) (tMethK C m ks.length sp gV to tk) := by
  refine ⟨fun pins s σ H Q I h => ?_⟩
  refine PySem.W.methodCall_KW (pl := pl) (thn (he.run pins s σ H _ I h) fun u s1 ⟨x, H1, I1, rx, a, dx, fs, ex, ea, l, q⟩ => ?_) ht
  subst ex
  obtain rfl : u = Value.ref a := rx
  refine getmeth_ok I1 ea c hm l ?_
  refine PySem.W.callWith_KW0 (first := [.ref a]) (h₀ := X.base) I.ok.mod.kin hm.kp hall (thn (hk.run pos pins s1 σ H1 _ I1 q) fun ws s2 ⟨zs, H2, I2, rz, l2, q2⟩ => ⟨I2.kIn, ?_⟩) hpl
  rw [hks]
  have rv : Vals [V.ref a] [Value.ref a] := .cons rfl .nil
  exact run_fnN (us := [.ref a]) (vs := [.ref a]) (E := fun _ _ _ => False) F hr hb pass0 I2 rv rz rfl l2 q2
theorem de_methK {pl : Sem Bool} (c : MtK X.prog X.w X.K X.mg X.base j C m ks sp gD) (hr : Room k X.A) (ho : DE X W o wo) (hk : DKw X W kws wk) (hjk : j ≤ k := by first | decide | exact Nat.le_refl _ | omega)
    (hall : (backToKw pos (keywordEach kws X.env)).all (·.1.isSome) = true := by rfl) (hks : (backToKw pos (keywordEach kws X.env)).filterMap (·.1) = ks := by rfl) (hpl : ((backTo pos (starEach [] X.env)).any (·.1) || (backToKw pos (keywordEach kws X.env)).any (·.1.isNone)) = false := by rfl)
    (ht : eval (.Call (.Attribute o m apos) [] kws pos) X.env = (do
      let ov ← eval o X.env
      standAt apos.atName
      let (f, first) ← holding [ov] (getMethod ov m pl)
      callWith pos f first (backTo pos (starEach [] X.env)) (backToKw pos (keywordEach kws X.env))) := by rfl) : DE X W (.Call (.Attribute o m apos) [] kws pos) (wMethK C m ks.length sp gD wo wk) := by
  obtain ⟨f, fd, ps, g, gV, F, c1, c2, hb, hgr⟩ := c
  obtain ⟨_, po, ro⟩ := ho.ex
  obtain ⟨_, pk, rk⟩ := hk.ex
  refine ⟨_, pe_methK po c1 c2 F (hr.mono hjk) hb pk hall hks hpl ht, ⟨fun M mu σ ρ S H P E Q ok en hw n x => ?_⟩⟩
  refine ro.run M mu σ ρ S H _ E _ ok en hw (fun v H1 d S1 k1 ok1 r1 h1 => ?_) x
  obtain ⟨hr1, h1⟩ := h1
  unfold recvD at hr1
  cases e1 : val S1 d with
  | obj C' fs =>
    simp only [e1] at hr1
    obtain ⟨rfl, hn⟩ := hr1
    obtain ⟨a, dx, gs, rfl, ha, hk', rv⟩ := obj_at ok1 r1 e1
    refine ⟨a, dx, gs, rfl, ha, rfs_no (K := X.K) (M := M) (mu := mu) (H := H1) m hk' hn, ?_⟩
    refine rk.run M mu σ ρ S1 H1 _ E _ ok1 (en.keep ok k1) h1 (fun ws H2 es S2 k2 ok2 r2 h2 => ?_) (x.mono k1)
    obtain ⟨l2, h2⟩ := h2
    exact ⟨by rw [← r2.len]; exact l2, M, mu, S2, _, P, EF, ok2, hgr M mu H2 [d] [] es [.ref a] [] ws ⟨.ref a, [], rfl, r1.keep ok1 k2, rfl⟩ rfl r2, h2, n.mono (k1.trans k2), fun _ _ _ _ _ _ _ _ _ h => h.elim⟩
  | _ => simp only [e1] at hr1
end
end DL
namespace DL
open PySem PySem.Spec PyProof.Rows L2
/-! the first and the last item -/
theorem atI_last {α : Type} {l : List α} (h : l ≠ []) : atI l (-1) = l.getLast? := by
  have hl : 0 < l.length := List.length_pos_iff.mpr h
  have e : ixN l.length (-1) = some (l.length - 1) := by
    unfold ixN
    rw [if_neg (by decide)]
    rw [if_pos (by omega)]
    congr 1
    omega
  unfold atI
  rw [e, List.getLast?_eq_getElem?]
  rfl
theorem atI_head {α : Type} {l : List α} (h : l ≠ []) : atI l 0 = l.head? := by
  cases l with
  | nil => exact absurd rfl h
  | cons x xs =>
    have e : ixN (x :: xs).length 0 = some 0 := by
      unfold ixN
      rw [if_pos (by decide), if_pos (by rw [List.length_cons]; omega)]
      rfl
    unfold atI
    rw [e]
    rfl
end DL
set_option maxRecDepth 100000
set_option maxHeartbeats 2000000
namespace DL
open PySem PySem.Spec PyProof.Rows L2 LamX
/-! own exceptions whose __init__ says super().__init__(text) -/
/-- what the written part says of the class C: cc the cell of __class__, cda the code object of __init__ -/
structure SupK (P : Program) (K : PySem.W.Frag) (C cc cda : Addr) : Prop where
  T : OexC K C
  no : PySem.W.nsIn K cStatics "thirdparty.any" = some none
  sup : PySem.W.ks_superIn K C C "__init__" = some (some (.builtin "ValueError.__init__"))
  sB : PySem.W.subIn K (.ref C) (.type "ValueError") = some true
  sC : PySem.W.mroIn K C (.ref C) = some true
  cell : ∃ o, K.lookup cc = some o ∧ o.data = .cell (some (.ref C))
  code : ∃ (oc : Obj) (vs : Array Value) (file : Str) (tf : Tok), K.lookup cda = some oc ∧ oc.data = .fields vs ∧ vs[2]? = some (.str file tf) ∧ ((P.main.file : Str) == file) = true
  top : (P.main.scope.names.lookup ("super" : Str)).isSome = false
section
variable {X : Cx} {pins : List (Addr × Obj)} {σ : L2.St} {H : Hp} {s : Shared}
theorem sup_ok {body : List Stmt} {C cc cda f a : Addr} {ar : Arg} {m : Str} {j : Nat} {p0 p1 p2 p3 p4 p5 : Pos} {pl : Sem Bool} (I : Inv X pins σ H s) (B : SupK X.prog X.K C cc cda)
    (hks : Gl X "super") (hm : X.mg "super" = none) (hkc : X.env.kindOf "__class__" = some .free) (hcc : X.env.cells.lookup ("__class__" : Str) = some cc) (hfu : X.env.func = some f)
    (hf : ∃ (o : Obj) (fd : FuncData), X.K.lookup f = some o ∧ o.data = .func fd ∧ (fd.params.posonlyargs ++ fd.params.args).head? = some ar) (har : X.env.kindOf ar.arg = some .local) (hN : X.N[0]? = some ar.arg) (hσ : σ[0]? = some (some (.ref a)))
    (hco : X.env.code = .ref cda) (e : H a = some (exo a C none))
    (hev : eval (.Call (.Attribute (.Call (.Name "super" p0) [] [] p1) "__init__" p2) [.Constant (.str m) j p3] [] p4) X.env = (do
      let ov ← attributeBase (.Call (.Name "super" p0) [] [] p1) "__init__" X.env (eval (.Call (.Name "super" p0) [] [] p1) X.env)
      standAt p2.atName
      let (f, first) ← holding [ov] (getMethod ov "__init__" pl)
      callWith p4 f first (backTo p4 (starEach [.Constant (.str m) j p3] X.env)) [])) :
    PySem.wpAt (model X.prog X.w) X.A (.func body X.env) (exec (.Expr (.Call (.Attribute (.Call (.Name "super" p0) [] [] p1) "__init__" p2) [.Constant (.str m) j p3] [] p4) p5) X.env) (fun fl s' => fl = .next ∧ Inv X pins σ H s') X.xe s := by
  obtain ⟨nm, q, N, bs, bm, sn, sub, ab, col, dd, k0, k1, k2, k3, k5, hC, hbm⟩ := B.T.cls
  obtain ⟨fo, fd, hf1, hf2, hf3⟩ := hf
  obtain ⟨co, hc1, hc2⟩ := B.cell
  obtain ⟨oc, cvs, file, tf, hd1, hd2, hd3, hd4⟩ := B.code
  obtain ⟨t1, ho⟩ := exo_at I.hok e
  have KX := I.kIn
  have hCs := KX _ _ hC
  have hcl : PySem.W.clsIn X.K C = some { name := nm, bases := bs, mro := .ref C :: bm, ns := N, qualname := q, hasDict := true, slotNames := sn, subclasses := sub, abstract := ab, collection := col, hasDel := false } := by unfold PySem.W.clsIn; rw [hC] <;> rfl
  have neC : a ≠ C := fun z => by
    rw [z, hCs] at ho
    have z2 := Option.some.inj ho
    cases z2
  have hst : starEach [.Constant (.str m) j p3] X.env = [(false, eval (.Constant (.str m) j p3) X.env)] := by rfl
  refine ks_wpAt_Expr_any (ks_wpAt_MethodCall (pl := pl) ?_ hev) (by unfold interactive; rw [I.ok.kind]; rfl) (by rfl)
  refine ks_wpAt_super_base hks hkc (by decide) hfu (KX _ _ hf1) hf2 hf3 hco (KX _ _ hd1) hd2 hd3 hd4 B.top ?_
  obtain ⟨mb, g1, g2⟩ := I.mod.blt
  refine PySem.W.ks_loadName_global I.ok.kind hks (Calls.loadGlobal_builtin (by rw [I.ok.glob]; exact I.mod.glob.keeps I.bk) hm (by rw [I.ok.blt]; exact g1.keeps I.bk) ((g2 "super" (by decide)).trans (show bootBuiltins "super" = some (.type "super") by decide +kernel)) ⟨rfl, ?_⟩)
  refine wpAny_loadName_free I.ok.kind hkc hcc ⟨co, KX _ _ hc1, hc2⟩ ?_
  obtain ⟨mm, hns, hloc⟩ := I.loc
  obtain ⟨u, ru, lk⟩ := hloc 0 ar.arg (.ref a) hN hσ (.inl har)
  obtain rfl : u = Value.ref a := ru
  have hv : mm ar.arg = some (.ref a) := by
    rcases lk with ⟨_, z⟩ | ⟨z, _⟩
    · exact z
    · rw [har] at z
      rcases z with z | z <;> cases z
  refine wpAny_loadName_local I.ok.kind har hns hv ?_
  refine ks_wpAny_isType_cls hCs rfl ⟨rfl, ?_⟩
  obtain ⟨hp, g, d, t, os⟩ := s
  refine ks_wpAny_call_super hCs rfl ho rfl (fun c z => by cases z) (PySem.W.looks_mroIn KX B.sC) (fun h1 e1 kk1 => ?_)
  have I1 : Inv X pins σ H ⟨h1, g, d, t, os⟩ := I.kept (t' := t) kk1
  obtain ⟨t2, ho1⟩ := exo_at I1.hok e
  have KX1 := I1.kIn
  have hsup := B.sup
  unfold PySem.W.ks_superIn at hsup
  rw [hcl, Option.bind_some] at hsup
  have hI : PySem.W.Looks (model X.prog X.w) h1 (isInstance (.ref a) (.type "ValueError")) true :=
    (show PySem.W.Looks (model X.prog X.w) h1 (typeOf (.ref a)) (.ref C) from fun A Q E s k q => wpAny_typeOf_ref (k _ _ ho1) q).andThen (PySem.W.looks_subIn KX1 B.sB)
  refine PySem.W.kxs_getMethod PySem.W.kxs_ValueError e1 (PySem.W.looks_opaque KX1 B.no) (l₀ := .ref C :: bm) ?_ rfl KX1 hsup hI neC (by decide) ?_
  · exact fun A Q E s k q => wpAny_bind ((PySem.W.looks_clsIn KX1 hcl) A _ E s k (wpAny_pure q))
  have kk2 : ∀ b o, h1.get? b = some o → (h1.push (PySem.W.kxs_mw "ValueError.__init__" a)).get? b = some o := fun b o z => Heap.get?_push_of_some _ z
  have I2 : Inv X pins σ H ⟨h1.push (PySem.W.kxs_mw "ValueError.__init__" a), g, d, t + 1, os⟩ := I1.kept (t' := t + 1) kk2
  have hu : (h1.push (PySem.W.kxs_mw "ValueError.__init__" a)).get? h1.objs.size = some (PySem.W.kxs_mw "ValueError.__init__" a) := Heap.get?_push_at rfl rfl
  have hn : H h1.objs.size = none := I1.hok.fresh (Nat.le_refl _)
  have fp : FpOk X pins H h1.objs.size := I1.fpOk (Nat.le_refl _) hn
  have I3 : Inv X (pins ++ pinsAt [h1.objs.size] (h1.push (PySem.W.kxs_mw "ValueError.__init__" a))) σ H ⟨h1.push (PySem.W.kxs_mw "ValueError.__init__" a), g, d, t + 1, os⟩ :=
    I2.pinned (fp := [h1.objs.size]) (fun b hb => by rw [List.mem_singleton.mp hb]; exact fp) (fun b hb => by rw [List.mem_singleton.mp hb]; exact ⟨_, hu, fun v z => by cases z⟩)
  refine PySem.W.kxs_callWith (i := "ValueError.__init__") (x := a) (by rw [hst] <;> rfl) ?_
  have pa : PA X [.Constant (.str m) j p3] (tCons (tC (.str m)) tNil) := pa_cons pe_str pa_nil hst
  have pr := pa.run p4 _ _ σ H (fun vs H1 => vs = [.str m] ∧ H1 = H) I3 ⟨rfl, rfl⟩
  rw [hst] at pr ⊢
  refine Calls.evalArgs_plain (thn pr fun us s3 hh => ?_)
  obtain ⟨vs, H1, I4, r4, rfl, rfl⟩ := hh
  have hu4 : s3.heap.get? h1.objs.size = some (PySem.W.kxs_mw "ValueError.__init__" a) := (I4.pin (h1.objs.size, PySem.W.kxs_mw "ValueError.__init__" a) (List.mem_append_right _ (List.mem_append_right _ (mem_pinsAt (List.mem_singleton.mpr rfl) hu)))).1
  refine ⟨hu4, ?_⟩
  have I5 : Inv X pins σ H1 s3 := I4.unpinned
  obtain ⟨t4, ho4⟩ := exo_at I5.hok e
  have hz : us.length ≤ sizeLine := by
    rw [← Paired.length r4, sizeLine_eq]
    show 1 ≤ 16777216
    decide
  obtain ⟨hp3, g3, d3, tk3, os3⟩ := s3
  refine wpAny_call (codeAny_of_tree ?_)
  show wpAny _ X.A.in1 (callAny (.ref h1.objs.size) ⟨us, []⟩) _ _ _
  simp only [callAny]
  refine wpAny_bind (wpAny_load hu4 ?_)
  simp only [PySem.W.kxs_mw, show (Value.type "method-wrapper" == Value.type "method" || Value.type "method-wrapper" == Value.type "builtin_function_or_method" || Value.type "method-wrapper" == Value.type "method-wrapper") = true by decide, if_true]
  refine PySem.W.KFB.if_so (by decide) ?_
  refine wpAny_bind (PySem.W.check_bound_init PySem.F.excBase_ValueError.toExcCallFacts (I5.kIn _ _ hC) ho4 rfl ?_)
  refine wpAny_bind (wpAny_pure (wpAny_pure ?_))
  refine ⟨plainId_quiet PySem.F.excBase_ValueError.init.plain _, codeAny_builtin PySem.F.excBase_ValueError.initEntry ?_⟩
  refine PySem.W.exc_init_tree (cls := .ref C) (t0 := t4) (dv := none) (c2 := .none) (c3 := .none) (b4 := .bool false) ho4 hz fun h6 kp6 he6 ht6 => ?_
  have J := I5.write (t' := tk3) (x := a) (e := a) (o := exo a C none) (by rw [e]; exact True.intro) (.inl rfl) kp6 ⟨_, he6⟩ (exo_ok he6)
  have eu : upd H1 a (exo a C none) = H1 := by
    funext b
    by_cases hb : b = a
    · rw [hb, upd_same, e]
    · rw [upd_ne hb]
  rw [eu] at J
  exact ⟨by first | exact rfl | trivial, J⟩
end
end DL
set_option maxRecDepth 100000
set_option maxHeartbeats 2000000
namespace DL
open PySem PySem.Spec PyProof.Rows L2 LamX NdefX
/-! the __init__ of such a class: super().__init__(text), then self.f = a parameter | a text -/
abbrev Fls := List (Str × (Nat ⊕ Str))
inductive Sets (N : List Str) (sc : Scope) (sf : Str) : List Stmt → Fls → Prop
  | nil : Sets N sc sf [] []
  | var {rest : List Stmt} {l : Fls} {f x : Str} {i : Nat} {p1 p2 p3 pos : Pos} (hi : N[i + 1]? = some x) (hv : Vis sc x) (hd : (x == ("__debug__" : Str)) = false) (hcd : (x == ("__classdict__" : Str)) = false) (r : Sets N sc sf rest l) :
      Sets N sc sf (.Assign [.Attribute (.Name sf p1) f p2] (.Name x p3) pos :: rest) ((f, .inl i) :: l)
  | str {rest : List Stmt} {l : Fls} {f m : Str} {j : Nat} {p1 p2 p3 pos : Pos} (r : Sets N sc sf rest l) :
      Sets N sc sf (.Assign [.Attribute (.Name sf p1) f p2] (.Constant (.str m) j p3) pos :: rest) ((f, .inr m) :: l)
/-- the fields, the last one first -/
def fsV (vs : List V) : Fls → List (Str × V) → List (Str × V)
  | [], acc => acc
  | (f, .inl i) :: r, acc => fsV vs r ((f, vs.getD i .non) :: acc)
  | (f, .inr m) :: r, acc => fsV vs r ((f, .str m) :: acc)
theorem upd_self {H : Hp} {d : Addr} {o : HO} (e : H d = some o) : upd H d o = H := by
  funext b
  by_cases hb : b = d
  · rw [hb, upd_same, e]
  · rw [upd_ne hb]
theorem upd_comm {H : Hp} {a d : Addr} {o u : HO} (h : d ≠ a) : upd (upd H d o) a u = upd (upd H a u) d o := by
  funext b
  by_cases hb : b = a
  · subst hb
    rw [upd_same, upd_ne (Ne.symm h), upd_same]
  · rw [upd_ne hb]
    by_cases hd : b = d
    · subst hd
      rw [upd_same, upd_same]
    · rw [upd_ne hd, upd_ne hd, upd_ne hb]
theorem sets_run {X : Cx} {N : List Str} {sc : Scope} {sf : Str} {rest : List Stmt} {l : Fls} {a C : Addr} {σ : L2.St} {vs : List V} {D : Ends} (h : Sets N sc sf rest l) (hN : X.N = N) (hsc : X.env.scope = sc) (h0 : N[0]? = some sf) (v0 : Vis sc sf)
    (hd : (sf == ("__debug__" : Str)) = false) (hcd : (sf == ("__classdict__" : Str)) = false) (T : OexC X.K C) :
    (∀ f x, (f, x) ∈ l → PySem.W.findIn X.K (.ref C) f = some none) → (∀ f i, (f, Sum.inl i) ∈ l → σ[i + 1]? = some (some (vs.getD i .non))) → σ[0]? = some (some (.ref a)) →
    ∃ t, PSs X rest t ∧ (∀ H d fs, H a = some (exo a C (some d)) → H d = some (exd d fs) → d ≠ a → fs.length + l.length ≤ 900 → D.nx σ (upd H d (exd d (fsV vs l fs))) → t D σ H) ∧
      (∀ H, l ≠ [] → H a = some (exo a C none) → l.length ≤ 900 → (∀ d, H d = none → d ≠ a → D.nx σ (upd (upd H d (exd d (fsV vs l []))) a (exo a C (some d)))) → t D σ H) := by
  intro hf hv hs
  subst hN hsc
  have step : ∀ {e : Expr} {te : TE} {f : Str} {y : V} {l : Fls} {rest : List Stmt} {p1 p2 pos : Pos} {u : TS} {fs2 : List (Str × V) → List (Str × V)}, PE X e te → (∀ H Q, Q y H → te σ H Q) → swapsWith e (some (.Attribute (.Name sf p1) f p2)) pos.line X.env = pure false →
      PySem.W.findIn X.K (.ref C) f = some none → PSs X rest u → (∀ H d fs, H a = some (exo a C (some d)) → H d = some (exd d fs) → d ≠ a → fs.length + l.length ≤ 900 → D.nx σ (upd H d (exd d (fs2 fs))) → u D σ H) →
      ∃ t, PSs X (.Assign [.Attribute (.Name sf p1) f p2] e pos :: rest) t ∧ (∀ H d fs, H a = some (exo a C (some d)) → H d = some (exd d fs) → d ≠ a → fs.length + (l.length + 1) ≤ 900 → D.nx σ (upd H d (exd d (fs2 ((f, y) :: fs)))) → t D σ H) ∧
      (∀ H, H a = some (exo a C none) → l.length + 1 ≤ 900 → (∀ d, H d = none → d ≠ a → D.nx σ (upd (upd H d (exd d (fs2 [(f, y)]))) a (exo a C (some d)))) → t D σ H) := by
    intro e te f y l rest p1 p2 pos u fs2 pe ht hsw hff pu hu
    refine ⟨_, pss_cons (ps_ost (pe_var h0 v0 hd hcd) pe hsw) pu, fun H d fs ea ed ne hl hq => ?_, fun H ea hl hq => ?_⟩
    · refine ht H _ ⟨.ref a, hs, a, C, rfl, T, hff, .inr ⟨d, fs, ea, ed, by omega, ?_⟩⟩
      refine hu _ d ((f, y) :: fs) (by rw [upd_ne (Ne.symm ne)]; exact ea) upd_same ne (by rw [List.length_cons]; omega) ?_
      rw [upd_upd]
      exact hq
    · refine ht H _ ⟨.ref a, hs, a, C, rfl, T, hff, .inl ⟨ea, fun d n ne => ?_⟩⟩
      refine hu _ d [(f, y)] upd_same (by rw [upd_ne ne, upd_same]) ne (by show 1 + l.length ≤ 900; omega) ?_
      have q := hq d n ne
      rw [upd_comm ne] at q ⊢
      rw [upd_upd]
      exact q
  induction h with
  | nil => exact ⟨_, pss_nil, fun H d fs _ ed _ _ hq => by
      have q : D.nx σ (upd H d (exd d fs)) := hq
      rw [upd_self ed] at q
      exact q, fun H n => absurd rfl n⟩
  | @var rest l f x i p1 p2 p3 pos hi hv2 hd2 hcd2 r ih =>
    obtain ⟨u, pu, u1, _⟩ := ih (fun f x h => hf f x (List.mem_cons_of_mem _ h)) (fun f i h => hv f i (List.mem_cons_of_mem _ h))
    obtain ⟨t, p, q1, q2⟩ := step (y := vs.getD i .non) (p1 := p1) (p2 := p2) (pos := pos) (fs2 := fsV vs l) (pe_var (pos := p3) hi hv2 hd2 hcd2) (fun H Q q => ⟨_, hv f i List.mem_cons_self, q⟩) rfl (hf f _ List.mem_cons_self) pu u1
    exact ⟨t, p, q1, fun H _ => q2 H⟩
  | @str rest l f m j p1 p2 p3 pos r ih =>
    obtain ⟨u, pu, u1, _⟩ := ih (fun f x h => hf f x (List.mem_cons_of_mem _ h)) (fun f i h => hv f i (List.mem_cons_of_mem _ h))
    obtain ⟨t, p, q1, q2⟩ := step (y := .str m) (p1 := p1) (p2 := p2) (pos := pos) (fs2 := fsV vs l) (pe_str (pos := p3) (j := j)) (fun H Q q => q) rfl (hf f _ List.mem_cons_self) pu u1
    exact ⟨t, p, q1, fun H _ => q2 H⟩
/-- what __init__ promises -/
def spExi (C : Addr) (n : Nat) (l : Fls) : Sp := fun vs H Q _ => ∃ a ws, vs = .ref a :: ws ∧ ws.length = n ∧ H a = some (exo a C none) ∧ ∀ d, H d = none → d ≠ a → Q .non (upd (upd H d (exd d (fsV ws l []))) a (exo a C (some d)))
theorem exi_ok {P : Program} {w : World} {K : PySem.W.Frag} {mg : Str → Option Value} {base : Heap} {k n j : Nat} {N ps : List Str} {F : NF} {f C cc : Addr} {ar : Arg} {m : Str} {rest : List Stmt} {l : Fls} {p0 p1 p2 p3 p4 p5 : Pos} {pl : Sem Bool}
    {dV kV doc pm ct oc : Value} {an od : Option Addr} {osl : Array (Option Value)} (lk : K.lookup f = some ⟨oc, od, .func (PySem.W.fnX F.name F.qual F.params F.body F.scope F.cl dV kV doc pm an (.ref F.c) ct), osl⟩)
    (hcd : PySem.W.codeIn K (.ref F.c) F.qual = true) (S : NScope N ps ["__class__"] F.scope) (hn : ps.length = n + 1) (hcl : F.cl = [(("__class__" : Str), cc)]) (B : SupK P K C cc F.c) (hm : mg "super" = none)
    (har : (F.params.posonlyargs ++ F.params.args).head? = some ar) (h0 : N[0]? = some ar.arg) (hal : F.scope.names.lookup ar.arg = some .local) (hks : F.scope.names.lookup ("super" : Str) = some .globalImplicit)
    (hb : F.body = .Expr (.Call (.Attribute (.Call (.Name "super" p0) [] [] p1) "__init__" p2) [.Constant (.str m) j p3] [] p4) p5 :: rest)
    (hev : ∀ L, eval (.Call (.Attribute (.Call (.Name "super" p0) [] [] p1) "__init__" p2) [.Constant (.str m) j p3] [] p4) (envF F f L) = (do
      let ov ← attributeBase (.Call (.Name "super" p0) [] [] p1) "__init__" (envF F f L) (eval (.Call (.Name "super" p0) [] [] p1) (envF F f L))
      standAt p2.atName
      let (g, first) ← holding [ov] (getMethod ov "__init__" pl)
      callWith p4 g first (backTo p4 (starEach [.Constant (.str m) j p3] (envF F f L))) []))
    (hset : Sets N F.scope ar.arg rest l) (hl : l ≠ []) (hl9 : l.length ≤ 900) (hdb : (ar.arg == ("__debug__" : Str)) = false) (hcdd : (ar.arg == ("__classdict__" : Str)) = false)
    (hfi : ∀ f x, (f, x) ∈ l → PySem.W.findIn K (.ref C) f = some none) (hi : ∀ f i, (f, Sum.inl i) ∈ l → i < n) :
    FnOk P w K mg base CX0 (k + 1) f (PySem.W.fnX F.name F.qual F.params F.body F.scope F.cl dV kV doc pm an (.ref F.c) ct) ps (spExi C n l) := by
  have len : ∀ vs H Q E, spExi C n l vs H Q E → vs.length = ps.length := fun vs H Q E ⟨a, ws, e, h, _⟩ => by rw [e, List.length_cons, h, hn]
  refine ⟨len, fun A outer s H args us vs Q E hr e0 hbd r hsp => ?_⟩
  have hlen := len _ _ _ _ hsp
  have KB : K.In base := e0.mod.kin
  have KX : K.In s.heap := KB.keeps fun b o e => (e0.bs b o e).1
  have lim : s.heap.NoLimit := e0.mod.nolimit.keeps fun b o e => (e0.bs b o e).1
  obtain ⟨co, hc1, hc2⟩ := B.cell
  have CA : CellsAt F.cl ["__class__"] [some (.ref C)] s.heap H := by
    rw [hcl]
    refine ⟨rfl, fun y c hy => ?_, fun x y c hx hy => ?_, fun i y hy => ?_⟩
    · obtain ⟨_, rfl⟩ : y = ("__class__" : Str) ∧ cc = c := by
        by_cases q : y = ("__class__" : Str)
        · subst q
          exact ⟨rfl, Option.some.inj hy⟩
        · rw [List.lookup_cons, show (y == ("__class__" : Str)) = false from by simpa using q] at hy
          cases hy
      exact ⟨(e0.bs _ _ (KB _ _ hc1)).2, _, co, KX _ _ hc1, hc2⟩
    · have key : ∀ {z : Str}, [(("__class__" : Str), cc)].lookup z = some c → z = ("__class__" : Str) := fun {z} hz => by
        by_cases q : z = ("__class__" : Str)
        · exact q
        · rw [List.lookup_cons, show (z == ("__class__" : Str)) = false from by simpa using q] at hz
          cases hz
      rw [key hx, key hy]
    · cases i with
      | zero =>
        obtain rfl : ("__class__" : Str) = y := by simpa using hy
        exact ⟨cc, rfl, fun v hv => ⟨.ref C, by
          obtain rfl : V.ref C = v := by simpa using hv
          rfl, co, KX _ _ hc1, hc2⟩⟩
      | succ i => simp at hy
  refine codeAny_call_function hr.depth (KX _ _ lk) rfl S.co S.gen rfl (PySem.W.codeRec_of KX hcd) (hbd _ _ _ _ ?_)
  refine wpAny_newFunctionEnv S.nocell (fun ⟨n, _⟩ hy => S.par n (List.of_mem_zip hy).1) (fun h₁ hns hsb => ⟨lim.fresh _ hsb, ?_⟩) S.kind
  show codeAny _ _ (.func F.body (envF F f s.heap.objs.size)) _ _
  have kp : ∀ b o, s.heap.get? b = some o → h₁.get? b = some o := fun b o e => hsb.extBut b o (Nat.ne_of_lt (Heap.lt_size e)) (Heap.get?_push_of_some _ e)
  have I : Inv (ncx CX0 P w K mg base N F f A outer s H E) [] (startF N vs [some (.ref C)]) H { s with heap := h₁, toks := s.toks + (ps.zip us).length } := inv_startN S hr.hd e0 hlen r CA hns kp
  refine ks_codeAny_funcAt ?_
  obtain ⟨a, ws, rfl, hwl, ea, hq⟩ := hsp
  have sg : ∀ i, i < n → (startF N (.ref a :: ws) [some (.ref C)])[i + 1]? = some (some (ws.getD i .non)) := fun i h => by
    unfold startF
    rw [List.getElem?_append_left (by rw [List.length_map, List.length_cons]; omega), List.getElem?_map, List.getElem?_cons_succ, List.getElem?_eq_getElem (by omega), List.getD_eq_getElem?_getD, List.getElem?_eq_getElem (by omega)]
    rfl
  have cfree : F.scope.names.lookup ("__class__" : Str) = some .free := S.frk _ List.mem_cons_self
  obtain ⟨t, ht, _, t2⟩ := sets_run (X := ncx CX0 P w K mg base N F f A outer s H E) (σ := startF N (.ref a :: ws) [some (.ref C)]) (a := a) (C := C) (vs := ws) (D := { nx := fun _ H' => Q .non H', rt := Q }) hset rfl rfl h0 (.inl hal) hdb hcdd B.T hfi (fun f i h => sg i (hi f i h)) rfl
  rw [hb]
  refine ks_wpAt_execs_cons (ks_wpAt_mono (sup_ok (X := ncx CX0 P w K mg base N F f A outer s H E) (body := _) (f := f) (ar := ar) I B hks hm cfree (by show F.cl.lookup _ = _; rw [hcl]; rfl) rfl ⟨_, _, lk, rfl, har⟩ hal h0 rfl rfl ea (hev _)) (fun fl s' h => ?_) fun e s' h => h)
  obtain ⟨rfl, J⟩ := h
  refine wpAt_of_wpAny (wpAny_mono (ht.run [] s' _ H _ J (t2 H hl ea hl9 fun d n ne => hq d n ne)) (fun fl s' hs => ?_) fun e s' hs => hs)
  have fin : ∀ {σ' : L2.St} {H' : Hp} {v : V} {u : Value}, Inv (ncx CX0 P w K mg base N F f A outer s H E) [] σ' H' s' → L2.RelV v u → Q v H' → CE outer P w H s Q u s' :=
    fun {σ' H' v u} J rv q => ⟨v, H', J.os, J.bare, J.base, J.hok, rv, q⟩
  cases fl with
  | ret u =>
    obtain ⟨v, σ', H', J, rv, q⟩ := hs
    exact fin J rv q
  | next =>
    obtain ⟨σ', H', J, q⟩ := hs
    exact fin (v := V.non) (u := Value.none) J rfl q
  | brk =>
    obtain ⟨_, _, _, q⟩ := hs
    exact False.elim q
  | cont =>
    obtain ⟨_, _, _, q⟩ := hs
    exact False.elim q
end DL
set_option maxRecDepth 100000
set_option maxHeartbeats 2000000
namespace DL
open PySem PySem.Spec PyProof.Rows L2 LamX NdefX
/-! raise x(..) -/
def fsD (ds : List D) : Fls → List (Str × D) → List (Str × D)
  | [], acc => acc
  | (f, .inl i) :: r, acc => fsD ds r ((f, ds.getD i .non) :: acc)
  | (f, .inr m) :: r, acc => fsD ds r ((f, .str m) :: acc)
theorem Rs.getD {K : PySem.W.Frag} {M : Addr → Prop} {mu : List Addr} {H : Hp} : ∀ {ds : List D} {vs : List V} (i : Nat), Rs K M mu H ds vs → R K M mu H (ds.getD i .non) (vs.getD i .non)
  | [], _, _, h => by rw [show _ = [] from h]; rfl
  | _ :: _, _, 0, ⟨v, r, e, a, t⟩ => by rw [e]; exact a
  | _ :: ds, _, i + 1, ⟨v, r, e, a, t⟩ => by rw [e]; exact Rs.getD i t
theorem fsD_R {K : PySem.W.Frag} {M : Addr → Prop} {mu : List Addr} {H : Hp} {ds : List D} {vs : List V} (r : Rs K M mu H ds vs) : ∀ (l : Fls) (ac : List (Str × D)) (av : List (Str × V)), av.map (·.1) = ac.map (·.1) → Rfs K M mu H ac (av.map (·.2)) →
    (fsV vs l av).map (·.1) = (fsD ds l ac).map (·.1) ∧ Rfs K M mu H (fsD ds l ac) ((fsV vs l av).map (·.2))
  | [], _, _, h1, h2 => ⟨h1, h2⟩
  | (f, .inl i) :: l, ac, av, h1, h2 => fsD_R r l ((f, ds.getD i .non) :: ac) ((f, vs.getD i .non) :: av) (by rw [List.map_cons, List.map_cons, h1]) ⟨_, _, rfl, r.getD i, h2⟩
  | (f, .inr m) :: l, ac, av, h1, h2 => fsD_R r l ((f, .str m) :: ac) ((f, .str m) :: av) (by rw [List.map_cons, List.map_cons, h1]) ⟨_, _, rfl, rfl, h2⟩
/-- what a raise knows of the class that is named x: n arguments, the fields -/
def Exn (P : Program) (w : World) (K : PySem.W.Frag) (mg : Str → Option Value) (base : Heap) (x : Str) (C : Addr) (n : Nat) (l : Fls) : Prop := ∃ (fI : Addr) (fd : FuncData) (ps : List Str), OexC K C ∧ PySem.W.findIn K (.ref C) "__init__" = some (some (.ref fI)) ∧
  PySem.W.typeIn K (.ref fI) = some (.type "function") ∧ FnOk P w K mg base CX0 1 fI fd ps (spExi C n l) ∧ Binds K fd ps [] ∧ mg x = some (.ref C)
def wsRaise (C : Addr) (n : Nat) (l : Fls) (w : DWA) : DWS := fun Y ρ S => w ρ S (fun ds S1 => ds.length = n ∧ Y.ex C (fsD ds l []) S1) Y.ex
theorem wsRaise_ap {C : Addr} {n : Nat} {l : Fls} {w : DWA} {Y : DEnds} {ρ : Loc} {S : Sto} : wsRaise C n l w Y ρ S = w ρ S (fun ds S1 => ds.length = n ∧ Y.ex C (fsD ds l []) S1) Y.ex := rfl
section
variable {X : Cx} {W : WX} {x : Str} {C : Addr} {n : Nat} {l : Fls} {e : Expr} {es : List Expr} {w : DWA} {p pos pos' : Pos}
theorem oex_call {CX : CXT} {pins : List (Addr × Obj)} {σ : L2.St} {H1 : Hp} {Q : XK} {s1 : Shared} {us : List Value} {vs : List V} {fI : Addr} {fd : FuncData} {ps : List Str} {sp : Sp} {k : Nat} (T : OexC X.K C) (iC : PySem.W.findIn X.K (.ref C) "__init__" = some (some (.ref fI))) (tI : PySem.W.typeIn X.K (.ref fI) = some (.type "function"))
    (F1 : FnOk X.prog X.w X.K X.mg X.base CX k fI fd ps sp) (hr : Room (k + 1) X.A) (hb : Binds X.K fd ps []) (hx : Passes CX X (fun _ _ _ => False)) (I1 : Inv X pins σ H1 s1) (r1 : Vals vs us) (hz : vs.length ≤ 1000)
    (q1 : ∀ a, H1 a = none → sp (.ref a :: vs) (upd H1 a (exo a C none)) (fun v H2 => v = .non ∧ ∃ (d : Addr) (fs : List (Str × V)), H2 a = some (exo a C (some d)) ∧ H2 d = some (exd d fs) ∧ H1 d = none ∧ Q (.ref C) (some d) (upd (del H2 a) d (.xd fs))) (fun _ _ _ => False)) :
    wpAny (model X.prog X.w) X.A (call (.ref C) us) (MkP X pins σ Q) X.xe s1 := by
  obtain ⟨nm, q, N, bs, bm, sn, sub, ab, col, dd, k0, k1, k2, k3, k5, hC, hbm⟩ := T.cls
  obtain ⟨hp, g, dr, tk, os⟩ := s1
  have hsz : hp.objs.size ≤ hp.objs.size + 1 := Nat.le_succ _
  have hn : H1 (hp.objs.size + 1) = none := I1.hok.fresh hsz
  have hq := q1 (hp.objs.size + 1) hn
  have kk : ∀ b o, hp.get? b = some o → ((hp.push (PySem.W.kdv_tup us)).push (PySem.HandSPX.excO C hp.objs.size)).get? b = some o := fun b o e => Heap.get?_push_of_some _ (Heap.get?_push_of_some _ e)
  have hget : ((hp.push (PySem.W.kdv_tup us)).push (PySem.HandSPX.excO C hp.objs.size)).get? (hp.objs.size + 1) = some (PySem.HandSPX.excO C hp.objs.size) := by heap_get
  have I2 : Inv X pins σ (upd H1 (hp.objs.size + 1) (exo (hp.objs.size + 1) C none)) ⟨(hp.push (PySem.W.kdv_tup us)).push (PySem.HandSPX.excO C hp.objs.size), g, dr, tk, os⟩ :=
    I1.laid (t' := tk) (a := hp.objs.size + 1) (o := exo (hp.objs.size + 1) C none) (h' := (hp.push (PySem.W.kdv_tup us)).push (PySem.HandSPX.excO C hp.objs.size)) kk hsz (exo_ok hget)
  have r2 : Vals (V.ref (hp.objs.size + 1) :: vs) (Value.ref (hp.objs.size + 1) :: us) := .cons rfl r1
  have hl : (Value.ref (hp.objs.size + 1) :: us).length = ps.length := by
    have e := r2.length
    rw [F1.len _ _ _ _ hq] at e
    exact e.symm
  have hus : us.length ≤ sizeLine := by
    rw [← Paired.length r1, sizeLine_eq]
    omega
  have hbb := hb ⟨(hp.push (PySem.W.kdv_tup us)).push (PySem.HandSPX.excO C hp.objs.size), g, dr, tk, os⟩ (Value.ref (hp.objs.size + 1) :: us) I2.kIn (by rw [List.append_nil]; exact hl)
  rw [List.append_nil] at hbb
  refine wpAny_call (PySem.HandSPX.call_own PySem.F.excBase_ValueError (fun Y => PySem.HandSPX.refsVE_contains Y bm hbm) (I1.kIn _ _ hC) (PySem.W.looks_findIn I1.kIn iC) (fun self => PySem.W.bind_fn I1.kIn self tI) hus
    (codeAny_mono (F1.run _ X.stack _ _ ⟨Value.ref (hp.objs.size + 1) :: us, []⟩ (Value.ref (hp.objs.size + 1) :: us) _ _ (fun _ _ _ => False) (hr.make C us []) (I2.env0.make C us []) hbb r2 hq) fun r s' hq' => ?_))
  cases r with
  | error er => exact hx pins σ _ _ er s' I2 hq'
  | ok fl =>
    cases fl with
    | ret u =>
      obtain ⟨v, H2, os2, bare2, un2, hok2, rv, ev, d, fs, ea, ed, hd1, q2⟩ := hq'
      subst ev
      obtain ⟨h2, g2, d2, t2, os'⟩ := s'
      exact ⟨rv, mk_end (raises_own T.exC T.tyC) I1 hsz kk un2 hok2 os2 bare2 ea ed hd1 q2⟩
    | next => exact False.elim hq'
    | brk => exact False.elim hq'
    | cont => exact False.elim hq'
theorem pmk_oexN {CX : CXT} {fI : Addr} {fd : FuncData} {ps : List Str} {sp : Sp} {k : Nat} (T : OexC X.K C) (iC : PySem.W.findIn X.K (.ref C) "__init__" = some (some (.ref fI))) (tI : PySem.W.typeIn X.K (.ref fI) = some (.type "function"))
    (F1 : FnOk X.prog X.w X.K X.mg X.base CX k fI fd ps sp) (hr : Room (k + 1) X.A) (hb : Binds X.K fd ps []) (hx : Passes CX X (fun _ _ _ => False)) (hg : Gl X x) (hm : X.mg x = some (.ref C)) (hdb : (x == ("__debug__" : Str)) = false := by decide) :
    PMk X (.Call (.Name x p) [] [] pos) (tMkO C sp [] tNil) := by
  intro pins s σ H Q I h
  refine wpAny_Call_Name_kw (ld_glob I hg hm ?_ hdb)
  exact PySem.W.callWith_K0 I.kIn T.kC (oex_call T iC tI F1 hr hb hx I .nil (by simp) fun a ha => h.2 a ha)
/-- what every raise of the class asks: from the values to the exception's wish -/
theorem raise_at {K : PySem.W.Frag} {M : Addr → Prop} {mu : List Addr} {σ : L2.St} {S : Sto} {H1 : Hp} {vs : List V} {ds : List D} {D : DEnds} {D' : L2.Ends} (ok1 : Wok K M mu H1 S) (r1 : Rs K M mu H1 ds vs) (eok : EOk K W M mu H1 D D') (hl : ds.length = n) (hx : D.ex C (fsD ds l []) S) (hn : n ≤ 1000) :
    vs.length ≤ 1000 ∧ ∀ a, H1 a = none → spExi C n l (.ref a :: vs) (upd H1 a (exo a C none)) (fun v H2 => v = .non ∧ ∃ (d : Addr) (fs : List (Str × V)), H2 a = some (exo a C (some d)) ∧ H2 d = some (exd d fs) ∧ H1 d = none ∧ W (.ref C) (some d) σ (upd (del H2 a) d (.xd fs))) (fun _ _ _ => False) := by
  have hv : vs.length = n := by rw [← r1.len]; exact hl
  refine ⟨by omega, fun a ha => ⟨a, vs, rfl, hv, upd_same, fun d hd hne => ?_⟩⟩
  have hd1 : H1 d = none := by rw [upd_ne hne] at hd; exact hd
  refine ⟨rfl, d, fsV vs l [], upd_same, by rw [upd_ne hne, upd_same], hd1, ?_⟩
  have eh : upd (del (upd (upd (upd H1 a (exo a C none)) d (exd d (fsV vs l []))) a (exo a C (some d))) a) d (.xd (fsV vs l [])) = upd H1 d (.xd (fsV vs l [])) := by
    funext b
    by_cases hb : b = d
    · rw [hb, upd_same, upd_same]
    · rw [upd_ne hb, upd_ne hb]
      by_cases hba : b = a
      · rw [hba, del_same, ha]
      · rw [del_ne hba, upd_ne hba, upd_ne hb, upd_ne hba]
  rw [eh]
  obtain ⟨ok2, k2, nM⟩ := ok1.alloc hd1 (.xd (fsV vs l []))
  obtain ⟨h1, h2⟩ := fsD_R (r1.keep ok1 k2) l [] [] rfl rfl
  exact eok.ex M mu _ _ σ C (fsD ds l []) S _ (ok1.ext k2) ok2 ⟨rfl, d, fsV vs l [], rfl, nM, upd_same, h1, h2⟩ hx
theorem ds_raise (B : Exn X.prog X.w X.K X.mg X.base x C n l) (hr : Room 2 X.A) (tk : Takes X W) (ha : DA X W (e :: es) w) (hn : n ≤ 1000 := by decide) (hg : Gl X x := by rfl) (hc : X.calm = true := by rfl) (hdb : (x == ("__debug__" : Str)) = false := by decide)
    (he : starEach (e :: es) X.env = (false, eval e X.env) :: starEach es X.env := by rfl) (hpl : (backTo pos (starEach es X.env)).any (·.1) = false := by rfl) :
    DS X W (.Raise (some (.Call (.Name x p) (e :: es) [] pos)) none pos') (wsRaise C n l w) := by
  obtain ⟨fI, fd, ps, T, iC, tI, F1, hb, hm⟩ := B
  obtain ⟨_, pa, ra⟩ := ha.ex
  refine ⟨_, ps_raise hc tk (pmk_oex T iC tI F1 hr hb .nil pass0 hg hm pa hdb he hpl), ⟨fun M mu σ ρ S H D D' ok en hw eok => ?_⟩⟩
  refine ra.run M mu σ ρ S H _ D.ex _ ok en hw (fun vs H1 ds S1 k1 ok1 r1 h => ?_) (eok.exc ok.sub σ)
  rw [List.append_nil]
  exact raise_at ok1 r1 (eok.mono (ok.ext k1)) h.1 h.2 hn
theorem ds_raise0 (B : Exn X.prog X.w X.K X.mg X.base x C 0 l) (hr : Room 2 X.A) (tk : Takes X W) (hg : Gl X x := by rfl) (hc : X.calm = true := by rfl) (hdb : (x == ("__debug__" : Str)) = false := by decide) :
    DS X W (.Raise (some (.Call (.Name x p) [] [] pos)) none pos') (wsRaise C 0 l wNil) := by
  obtain ⟨fI, fd, ps, T, iC, tI, F1, hb, hm⟩ := B
  refine ⟨_, ps_raise hc tk (pmk_oexN T iC tI F1 hr hb pass0 hg hm hdb), ⟨fun M mu σ ρ S H D D' ok en hw eok => ?_⟩⟩
  have h : ([] : List DL.D).length = 0 ∧ D.ex C (fsD [] l []) S := hw
  exact raise_at (vs := []) (ds := []) ok rfl eok rfl h.2 (by decide)
end
end DL
set_option maxRecDepth 100000
set_option maxHeartbeats 4000000
namespace DL
open PySem PySem.Spec PyProof.Rows L2 LamX
/-! try: body, except (A, B, C) as e: suite. The exception is a value in the suite. -/
section
variable {P : Program} {w : World} {H : Hp} {h h' : Heap}
theorem exh_own {e C dx x : Addr} : exh e C dx ≠ .own x := fun z => by
  have z' : HO.ext _ = HO.own x := z
  cases z'
theorem exh_ok {a C dd : Addr} {oe : Obj} {vs : Array Value} (ha : h.get? a = some oe) (hc : oe.cls = .ref C) (hd : oe.dict = some dd) (hv : oe.data = .fields vs) : ObjOk P w H h a (exh a C dd) :=
  ⟨⟨oe, vs, ha, hc, hd, hv⟩, ⟨oe, ha⟩, fun h1 h2 ⟨o, v, e1, e2, e3, e4⟩ k => ⟨o, v, k _ e1, e2, e3, e4⟩⟩
theorem exh_at {a C dd : Addr} (ok : HOk P w H h) (e : H a = some (exh a C dd)) : ∃ (o : Obj) (vs : Array Value), h.get? a = some o ∧ o.cls = .ref C ∧ o.dict = some dd ∧ o.data = .fields vs := by
  obtain ⟨z, _, _⟩ := ok a _ e
  exact z
theorem flyZ_keeps {B : Heap} {l : List PySem.Env} {a : Addr} {Z : Obj → Prop} (f : HandSPX.FlyingZ B l a Z h) (k : ∀ b o, h.get? b = some o → h'.get? b = some o) : HandSPX.FlyingZ B l a Z h' := by
  obtain ⟨f1, f2, f3, oe, vs, T, oT, ts, he, hz, hd, h1, hn, hne, hT, hdT, h3⟩ := f
  exact ⟨fun b o q => k b o (f1 b o q), f2, f3.of_keeps fun b o q _ => ⟨o, k b o q, rfl⟩, oe, vs, T, oT, ts, k _ _ he, hz, hd, h1, hn, hne, k _ _ hT, hdT, h3⟩
end
section
variable {X : Cx} {pins : List (Addr × Obj)} {σ : L2.St} {H : Hp} {s : Shared}
theorem inv_adopt (I : Inv X pins σ H s) {a C dd : Addr} {oe : Obj} {vs : Array Value} (ha : s.heap.get? a = some oe) (hc : oe.cls = .ref C) (hd : oe.dict = some dd) (hv : oe.data = .fields vs) (na : H a = none) (nL : a ≠ X.env.locals)
    (h0 : ∀ b o, X.s_0.heap.get? b = some o → X.H_0 b = none → b ∉ X.ex → b ≠ a) (hp : ∀ p ∈ X.pn ++ pins, p.1 ≠ a) : Inv (X.suite a (X.pn ++ pins)) [] σ (upd H a (exh a C dd)) s := by
  refine ⟨I.ok.suite _ _, I.os, I.bare, ⟨I.base.keep, I.base.slot, fun b o e n hx => ?_, I.base.there, fun b xs e => ?_, fun b o u e => ?_, fun b ps e => ?_⟩, I.loc, I.cell, ?_, fun y c e => ?_, fun p hq => ?_, fun b o e => ?_, I.len⟩
  · rw [upd_ne (h0 b o e n hx)]
    exact I.base.free b o e n hx
  · have q := I.base.tups b xs e
    rw [upd_ne (ne_of_none q na)]
    exact q
  · have q := I.base.frzs b o u e
    rw [upd_ne (ne_of_none q na)]
    exact q
  · obtain ⟨more, q⟩ := I.base.tbls b ps e
    exact ⟨more, by rw [upd_ne (ne_of_none q na)]; exact q⟩
  · show upd H a (exh a C dd) X.env.locals = none
    rw [upd_ne (Ne.symm nL)]
    exact I.free
  · have ne : c ≠ a := fun z => by
      obtain ⟨v, o, ho, hdo⟩ := I.cell y c e
      rw [z, ha] at ho
      cases ho
      rw [hv] at hdo
      cases hdo
    rw [upd_ne ne]
    exact I.freeC y c e
  · have hq' : p ∈ X.pn ++ pins := by rw [List.append_nil] at hq; exact hq
    obtain ⟨q1, q2, q3⟩ := I.pin p hq'
    exact ⟨q1, by rw [upd_ne (hp p hq')]; exact q2, q3⟩
  · by_cases hb : b = a
    · subst hb
      rw [upd_same] at e
      cases e
      exact exh_ok ha hc hd hv
    · rw [upd_ne hb] at e
      exact (I.hok b o e).stay (fun c v _ z => z) (fun c z => by rw [upd_ne (ne_of_none z na)]; exact z) fun c xs z => by rw [upd_ne (ne_of_none z na)]; exact z
theorem inv_unadopt {a : Addr} {pn' : List (Addr × Obj)} (I : Inv (X.suite a (X.pn ++ pins)) pn' σ H s) (ok : X.Ok) : Inv X pins σ H s :=
  ⟨ok, I.os, I.bare, I.base, I.loc, I.cell, I.free, I.freeC, fun p hp => I.pin p (List.mem_append_left _ hp), I.hok, I.len⟩
end
/-- the wish about an exception of the body -/
def wAs3 (X : Cx) (cs : List Value) (i : Nat) (su : List Stmt) (Wout : WX) (D : Ends) : WX := fun cls d σ H =>
  ∃ b, PySem.W.exmAny X.K cls cs = some b ∧ (b = true → ∃ C dd, cls = .ref C ∧ d = some dd ∧ (σ.length = X.N.length → ∀ a pn, H a = none → ∃ ts, PSs (X.suite a pn) su ts ∧
    ts { nx := fun σ' H' => D.nx (σ'.set i none) H', rt := D.rt, bk := fun σ' H' => D.bk (σ'.set i none) H', ct := fun σ' H' => D.ct (σ'.set i none) H' } (σ.set i (some (.ref a))) (upd H a (exh a C dd)))) ∧ (b = false → Wout cls d σ H)
def tTry3 (X : Cx) (cs : List Value) (i : Nat) (body su : List Stmt) (Wout : WX) : TS := fun D σ H => ∀ (pn : List (Addr × Obj)) (xe : Value → Shared → Prop), Takes (X.tr pn xe) (wAs3 X cs i su Wout D) → PassesOwn (model X.prog X.w) X.A X.env xe → ∃ tb, PSs (X.tr pn xe) body tb ∧ tb D σ H
section
variable {X : Cx} {x1 x2 x3 n : Str} {c1 c2 c3 : Value} {i kk : Nat} {body suite : List Stmt} {b₀ : Stmt} {q1 q2 q3 tp pos pos' : Pos} {Wout : WX}
theorem ps_try3 (hs : X.stack = X.env :: X.outer) (hf : X.env.frame = some X.env.locals) (hex : X.ex = []) (hN : X.N.Nodup) (hi : X.N[i]? = some n) (hln : X.env.kindOf n = some .local) (n1 : Names X x1 c1) (n2 : Names X x2 c2) (n3 : Names X x3 c3) (tk : Takes X Wout) :
    PS X (.Try body [.ExceptHandler (some (.Tuple [.Name x1 q1, .Name x2 q2, .Name x3 q3] kk tp)) (some n) (b₀ :: suite) pos'] [] [] pos) (tTry3 X [c1, c2, c3] i body (b₀ :: suite) Wout) := by
  refine ⟨fun pins s σ H D I h => ?_⟩
  have ok := I.ok
  have hfr : X.A.frames = some (X.env :: X.outer) := by rw [ok.frames, hs]
  have hloc : L2.Loc X.env.scope n := .inl hln
  have hk : Takes (X.tr (X.pn ++ pins) (fun e s₁ => wpAny (model X.prog X.w) X.A (noteFrame e X.env) (fun _ s₂ => wpAny (model X.prog X.w) X.A (setFlight e none) (fun _ s₃ =>
    wpAny (model X.prog X.w) X.A (handleBy e X.env [.ExceptHandler (some (.Tuple [.Name x1 q1, .Name x2 q2, .Name x3 q3] kk tp)) (some n) (b₀ :: suite) pos']) (SP X pins D) X.xe s₃) X.xe s₂) X.xe s₁)) (wAs3 X [c1, c2, c3] i (b₀ :: suite) Wout D) := fun u s' xx => by
    obtain ⟨a, B, sI, pins', σ', H', cls, d, rfl, J', nb, up, sky, na, os, ag, b, hb1, hyes, hno⟩ := xx
    have J : Inv X pins σ' H' sI := J'.ofTry ok
    have sky' : Sky B (X.env :: X.outer) a (Zc cls d) X.env.locals s'.heap := by rw [← hs]; exact sky
    show wpAny (model X.prog X.w) X.A (noteFrame (.ref a) X.env) _ _ _
    refine Sky.land Zc.steady hfr hf sky' fun h3 fl3 up3 => ?_
    have J3 : Inv X pins σ' H' { s' with heap := h3 } := J.landed nb fl3.1 (up.trans up3) os ag
    obtain ⟨oe3, vs3, he3, hz3, hd3⟩ := fl3.there
    have notFr : ∀ {h : Heap} {o : Obj} {vs : Array Value}, h.FunFrames B (X.env :: X.outer) → h.get? a = some o → o.data = .fields vs → a ∉ frs (X.env :: X.outer) := fun {h o vs} ff e dd hm => by
      obtain ⟨_, o', e', hnf⟩ := ff.mem hm
      rw [e] at e'; cases e'
      exact hnf _ dd
    have nfr := notFr fl3.2.2.1 he3 hd3
    have nL : a ≠ X.env.locals := fun z => nfr (List.mem_filterMap.mpr ⟨X.env, List.mem_cons_self, by rw [hf, z]⟩)
    have nF : a ∉ X.fs := fun hm => by
      obtain ⟨e, he, q⟩ := List.mem_filterMap.mp hm
      exact nfr (List.mem_filterMap.mpr ⟨e, List.mem_cons_of_mem _ he, q⟩)
    have nS : a ∉ frs X.stack := by rw [hs]; exact nfr
    have nB : ∀ b o, sI.heap.get? b = some o → b ≠ a := fun b o e z => by
      have q := nb b o e (by rw [z]; exact nS)
      rw [z, fl3.2.1] at q
      cases q
    have S3 := J3.suite he3 hd3 na nL nF
    refine wpAny_handleBy_cons (codeAny_handlers_test ?_) (by intro q; cases q)
    have test : ∀ {x : Str} {c : Value} {np : Pos} {Q : Value → Shared → Prop} {E : Value → Shared → Prop}, Names X x c → Q c { s' with heap := h3 } → wpAny (model X.prog X.w) (X.A.mark (some (.ref a))) (eval (.Name x np) X.env) Q E { s' with heap := h3 } := fun {x c np Q E} hc q => by
      obtain ⟨hg, hdbg, hm | ⟨hm, hv, hnn⟩⟩ := hc
      · exact ld_glob (X := X.suite a ((a, oe3) :: (X.pn ++ pins))) S3 hg hm q hdbg
      · exact ld_blt (X := X.suite a ((a, oe3) :: (X.pn ++ pins))) S3 hg hm hv q hnn hdbg
    refine wpAny_Tuple (wpAny_items_cons (test n1 (wpAny_items_cons (test n2 (wpAny_items_cons (test n3 (wpAny_items_nil ⟨by size_fits, ?_⟩)))))))
    have kp : ∀ q o, h3.get? q = some o → (h3.push { cls := .type "tuple", data := .seq [c1, c2, c3].toArray }).get? q = some o := fun _ _ z => Heap.get?_push_of_some _ z
    have LT : PySem.W.Looks (model X.prog X.w) (h3.push { cls := .type "tuple", data := .seq [c1, c2, c3].toArray }) (typeOf (.ref a)) cls := fun A Q E s k q => wpAny_typeOf_ref (k _ _ (kp _ _ he3)) (by rw [hz3.1]; exact q)
    refine (PySem.W.exm_tup3 (M := model X.prog X.w) (J3.kIn.keeps kp) LT (Heap.get?_push_size h3 rfl) hb1).here ?_
    have fl5 := flyZ_keeps fl3 kp
    have up5 : sI.heap.UpToSlots (h3.push { cls := .type "tuple", data := .seq [c1, c2, c3].toArray }) := (up.trans up3).trans (Heap.UpToSlots.of_keeps kp)
    cases b with
    | true =>
      obtain ⟨C, dd, rfl, rfl, hy2⟩ := hyes rfl
      refine codeAny_handlers_suite_as ?_
      refine HandSPX.lands_againZ (s := { s' with heap := h3.push { cls := .type "tuple", data := .seq [c1, c2, c3].toArray } }) fl5 fun h4 fl4 up4 => ?_
      have J4 : Inv X pins σ' H' { s' with heap := h4 } := J.landed nb fl4.1 (up5.trans up4) os ag
      obtain ⟨oe4, vs4, he4, hz4, hd4⟩ := fl4.there
      have S4 : Inv (X.suite a (X.pn ++ pins)) [] σ' (upd H' a (exh a C dd)) { s' with heap := h4 } := inv_adopt J4 he4 hz4.1 hz4.2 hd4 na nL (fun b o e n hx z => by
        have nf : b ∉ X.fs := by rw [z]; exact nF
        exact nB b o (J.base.keep b o e n nf hx) z) (fun p hp => nB p.1 p.2 (J.pin p hp).1)
      obtain ⟨ts, pts, hts⟩ := hy2 J4.len a (X.pn ++ pins) na
      refine store_ok (X := X.suite a (X.pn ++ pins)) (v := .ref a) S4 hN hi hloc rfl (fun s5 S5 => ?_) (.inr hln)
      refine wpAny_mono (pts.run [] s5 _ _ _ S5 hts) (fun f s6 hsp => ?_) (fun _ _ z => False.elim z)
      have end_ : ∀ {σ6 : L2.St} {H6 : Hp} {Q : Shared → Prop}, Inv (X.suite a (X.pn ++ pins)) [] σ6 H6 s6 → (∀ s7, Inv X pins (σ6.set i none) H6 s7 → Q s7) →
          wpAny (model X.prog X.w) X.A (do bindName X.env n .none; unbindBehindTheSuite X.env n pos') (fun _ s7 => Q s7) X.xe s6 := fun {σ6 H6 Q} S6 hq => gone_ok (inv_unadopt S6 ok) hN hi hln hq
      cases f with
      | next =>
        obtain ⟨σ6, H6, S6, q6⟩ := hsp
        exact end_ S6 fun s7 J7 => ⟨_, _, J7, q6⟩
      | brk =>
        obtain ⟨σ6, H6, S6, q6⟩ := hsp
        exact end_ S6 fun s7 J7 => ⟨_, _, J7, q6⟩
      | cont =>
        obtain ⟨σ6, H6, S6, q6⟩ := hsp
        exact end_ S6 fun s7 J7 => ⟨_, _, J7, q6⟩
      | ret u =>
        obtain ⟨v6, σ6, H6, S6, r6, q6⟩ := hsp
        exact end_ S6 fun s7 J7 => ⟨_, _, _, J7, r6, q6⟩
    | false =>
      show wpAny _ X.A (handleBy (.ref a) X.env []) _ _ _
      refine wpAny_handleBy_nil ?_
      obtain ⟨k1, k2, k3, oe, vs, T, oT, ts', he, hz, hd, h1, hr⟩ := id fl5
      unfold PySem.passOn
      refine wpAny_bind (wpAny_field he hd h1 ?_)
      rw [if_neg (show ¬ ((Value.ref T == Value.none) = true) from by simp)]
      have fin : wpAny (model X.prog X.w) X.A (setFlight (.ref a) X.env.frame) (fun _ s4 => wpAny (model X.prog X.w) X.A (throw (.ref a) : Sem Flow) (SP X pins D) X.xe s4) X.xe { s' with heap := h3.push { cls := .type "tuple", data := .seq [c1, c2, c3].toArray } } := by
        rw [hf]
        refine HandSPX.setFlight_upZ (s := { s' with heap := h3.push { cls := .type "tuple", data := .seq [c1, c2, c3].toArray } }) fl5 fun h4 hh4 up4 => wpAny_throw (tk _ _ ?_)
        exact ⟨a, B, sI, pins, σ', H', cls, d, rfl, J, nb, up5.trans up4, .inr (.inr (by rw [hs]; exact hh4)), na, os, ag, hno rfl⟩
      first
        | exact wpAny_bind (wpAny_pure (wpAny_bind fin))
        | exact wpAny_bind fin
  obtain ⟨tb, htb, h⟩ := h _ _ hk PassesOwn.looking
  refine wpAny_Try_except ?_
  refine wpAny_mono (htb.run [] s σ H D (I.toTry _) h) (fun f s1 hsp => ?_) (fun e s1 he => he)
  cases f with
  | next =>
    obtain ⟨σ', H', J', q⟩ := hsp
    exact wpAny_execs_nil ⟨σ', H', J'.ofTry ok, q⟩
  | brk =>
    obtain ⟨σ', H', J', q⟩ := hsp
    exact ⟨σ', H', J'.ofTry ok, q⟩
  | cont =>
    obtain ⟨σ', H', J', q⟩ := hsp
    exact ⟨σ', H', J'.ofTry ok, q⟩
  | ret u =>
    obtain ⟨v, σ', H', J', r, q⟩ := hsp
    exact ⟨v, σ', H', J'.ofTry ok, r, q⟩
end
/-! ### over trees -/
theorem Env.unset {K : PySem.W.Frag} {M : Addr → Prop} {mu : List Addr} {H : Hp} {ρ : Loc} {σ : L2.St} (en : Env K M mu H ρ σ) (i : Nat) : Env K M mu H (ρ.set i none) (σ.set i none) := ⟨by simpa using en.len, fun j d h => by
  by_cases hj : i = j
  · subst hj
    by_cases hl : i < ρ.length
    · rw [List.getElem?_set_self hl] at h; cases h
    · rw [List.getElem?_eq_none (by simpa using hl)] at h; cases h
  · rw [List.getElem?_set_ne hj] at h ⊢
    exact en.get j d h⟩
def wsTry (K : PySem.W.Frag) (cs : List Value) (i n : Nat) (wb ws : DWS) : DWS := fun Y ρ S => wb { Y with ex := fun C fs S1 => ∃ b, PySem.W.exmAny K (.ref C) cs = some b ∧
  (b = true → ws { nx := fun ρ' S' => Y.nx (ρ'.set i none) S', rt := Y.rt, bk := fun ρ' S' => Y.bk (ρ'.set i none) S', ct := fun ρ' S' => Y.ct (ρ'.set i none) S', ex := EF, rf := Y.rf } ((List.replicate n none).set i (some (.exn C fs))) S1) ∧ (b = false → Y.ex C fs S1) } ρ S
section
variable {X : Cx} {W : WX} {x1 x2 x3 n : Str} {c1 c2 c3 : Value} {i kk : Nat} {body suite : List Stmt} {b₀ : Stmt} {q1 q2 q3 tp pos pos' : Pos} {wb ws : DWS}
theorem ds_try {K : PySem.W.Frag} {nl : Nat} (tk : Takes X W) (n1 : Names X x1 c1) (n2 : Names X x2 c2) (n3 : Names X x3 c3) (hN : X.N.Nodup) (hi : X.N[i]? = some n) (hln : X.env.kindOf n = some .local)
    (hb : ∀ (W : WX) (pn : List (Addr × Obj)) (xe : Value → Shared → Prop), Takes (X.tr pn xe) W → PassesOwn (model X.prog X.w) X.A X.env xe → DSs (X.tr pn xe) W body wb)
    (hsu : ∀ (a : Addr) (pn : List (Addr × Obj)), DSs (X.suite a pn) (fun _ _ _ _ => False) (b₀ :: suite) ws) (hs : X.stack = X.env :: X.outer := by rfl) (hf : X.env.frame = some X.env.locals := by rfl) (hex : X.ex = [] := by rfl) (hK : X.K = K := by rfl) (hnl : X.N.length = nl := by rfl) :
    DS X W (.Try body [.ExceptHandler (some (.Tuple [.Name x1 q1, .Name x2 q2, .Name x3 q3] kk tp)) (some n) (b₀ :: suite) pos'] [] [] pos) (wsTry K [c1, c2, c3] i nl wb ws) := by
  subst hK hnl
  refine ⟨_, ps_try3 hs hf hex hN hi hln n1 n2 n3 tk, ⟨fun M mu σ ρ S H D D' ok en hw eok => ?_⟩⟩
  intro pn xe tk2 po
  obtain ⟨tb, ptb, rtb⟩ := (hb (wAs3 X [c1, c2, c3] i (b₀ :: suite) W D') pn xe tk2 po).ex
  refine ⟨tb, ptb, rtb.run M mu σ ρ S H _ D' ok en hw ⟨eok.nx, eok.rt, eok.bk, eok.ct, fun M' mu' cls d σ' c fs S' H' e ok' xr hx => ?_, eok.rf⟩⟩
  obtain ⟨b, hb1, yes, no⟩ := hx
  obtain ⟨rfl, dd, gs, rfl, nM, hdd, hnm, hfs⟩ := id xr
  refine ⟨b, hb1, fun hbt => ⟨c, dd, rfl, rfl, fun hl a pn' na => ?_⟩, fun hbf => eok.ex M' mu' _ _ σ' c fs S' H' e ok' xr (no hbf)⟩
  obtain ⟨ts, pts, rts⟩ := (hsu a pn').ex
  obtain ⟨ok4, k4, nMa⟩ := ok'.alloc na (exh a c dd)
  have ne : dd ≠ a := ne_of_none hdd na
  have re : R X.K M' mu' (upd H' a (exh a c dd)) (.exn c fs) (.ref a) := ⟨a, dd, gs, rfl, nMa, upd_same, nM, by rw [upd_ne ne]; exact hdd, hnm, Rfs.mono (ok'.ext k4).toExt0 _ _ hfs⟩
  have en4 : Env X.K M' mu' (upd H' a (exh a c dd)) ((List.replicate X.N.length none).set i (some (.exn c fs))) (σ'.set i (some (.ref a))) := by
    refine ⟨by rw [List.length_set, List.length_set, List.length_replicate, hl], fun j d' h => ?_⟩
    by_cases hj : i = j
    · subst hj
      by_cases hlt : i < X.N.length
      · rw [List.getElem?_set_self (by simpa using hlt)] at h
        obtain rfl : DL.D.exn c fs = d' := Option.some.inj (Option.some.inj h)
        exact ⟨.ref a, List.getElem?_set_self (by rw [hl]; exact hlt), re⟩
      · rw [List.getElem?_eq_none (by simpa using hlt)] at h
        cases h
    · rw [List.getElem?_set_ne hj, List.getElem?_replicate] at h
      split at h <;> cases h
  refine ⟨ts, pts, rts.run M' mu' _ _ S' _ _ _ ok4 en4 (yes hbt) ?_⟩
  have e4 : Ext M mu H M' mu' (upd H' a (exh a c dd)) := e.trans (ok'.ext k4)
  have m := eok.mono e4
  exact ⟨fun M2 mu2 σ2 ρ2 S2 H2 e2 ok2 en2 q => m.nx M2 mu2 _ _ S2 H2 e2 ok2 (en2.unset i) q, m.rt, fun M2 mu2 σ2 ρ2 S2 H2 e2 ok2 en2 q => m.bk M2 mu2 _ _ S2 H2 e2 ok2 (en2.unset i) q, fun M2 mu2 σ2 ρ2 S2 H2 e2 ok2 en2 q => m.ct M2 mu2 _ _ S2 H2 e2 ok2 (en2.unset i) q,
    fun _ _ _ _ _ _ _ _ _ _ _ _ q => q.elim, m.rf⟩
end
/-! ### e.f, e an exception -/
def XfK (K : PySem.W.Frag) (C : Addr) (f : Str) : Prop := XfC K C ∧ PySem.W.findIn K (.ref C) f = some none
def wXfld (K : PySem.W.Frag) (f : Str) (wo : DW) : DW := fun ρ S P E => wo ρ S (fun x S1 => match x with
  | .exn C fs => XfK K C f ∧ (match fs.lookup f with
    | some d => P d S1
    | none => False)
  | _ => False) E
section
variable {X : Cx} {W : WX} {e : Expr} {we : DW} {f : Str} {pos : Pos}
theorem de_xfld {K : PySem.W.Frag} (he : DE X W e we) (hb : attributeBase e f X.env (eval e X.env) = eval e X.env := by rfl) (hK : X.K = K := by rfl) : DE X W (.Attribute e f pos) (wXfld K f we) := by
  subst hK
  obtain ⟨te, pe, re⟩ := he.ex
  refine ⟨fun σ H Q => te σ H fun x H1 => ∃ a C dd fs v, x = .ref a ∧ XfK X.K C f ∧ H1 a = some (exh a C dd) ∧ H1 dd = some (.xd fs) ∧ fs.lookup f = some v ∧ Q v H1, ⟨fun pins s σ H Q I h => ?_⟩, ⟨fun M mu σ ρ S H P E Q ok en hw n x => ?_⟩⟩
  · refine attr_of hb (thn (pe.run pins s σ H _ I h) fun u s1 hh => ?_)
    obtain ⟨x, H1, I1, rx, a, C, dd, fs, v, ex, ⟨T, hno⟩, ea, ed, l, q⟩ := hh
    subst ex
    obtain rfl : u = Value.ref a := rx
    obtain ⟨oe, vs, ha, hc, hdd, hd⟩ := exh_at I1.hok ea
    have hx : ObjOk X.prog X.w H1 s1.heap dd (.xd fs) := I1.hok dd _ ed
    obtain ⟨mA, hns, hr⟩ := hx
    obtain ⟨od, ho, hl⟩ := lookIn_ns hns
    obtain ⟨u, hu, ru⟩ := RelO.some_of (v := v) (o := mA f) (by rw [← l]; exact hr f)
    have J : PySem.W.InstAt s1.heap a oe C (some od) := ⟨ha, hc, by unfold PySem.W.notCls; rw [hd] <;> rfl, by rw [hdd]; exact ho⟩
    exact HandSPX.exc_get I1.kIn J T.ga T.gg T.exC (PySem.W.findObj_own T.hdC hno rfl (by rw [hl, hu])) (handed_of ru) ⟨v, H1, I1.tok _, ru, q⟩
  · refine re.run M mu σ ρ S H _ E _ ok en hw (fun v H1 d S1 k1 ok1 r1 h1 => ?_) x
    cases d with
    | exn C fs =>
      obtain ⟨hk, h1⟩ := h1
      obtain ⟨a, dd, gs, rfl, nM, ha, nMd, hd, hnm, hfs⟩ := r1
      cases hl : fs.lookup f with
      | none => rw [hl] at h1; exact h1.elim
      | some d2 =>
        rw [hl] at h1
        obtain ⟨u, hu, ru⟩ := rfs_look f hnm hfs hl
        exact ⟨a, C, dd, gs, u, rfl, hk, ha, hd, hu, n u H1 d2 S1 k1 ok1 ru h1⟩
    | _ => exact h1.elim
end
end DL
set_option maxRecDepth 100000
set_option maxHeartbeats 2000000
namespace DL
open PySem PySem.Spec PyProof.Rows L2 LamX L2H
/-! defs that may be called while an exception is handled; they let nothing out -/
structure FnT (P : Program) (w : World) (K : PySem.W.Frag) (mg : Str → Option Value) (base : Heap) (k : Nat) (f : Addr) (fd : FuncData) (ps : List Str) (sp : Sp) : Prop where
  len : ∀ vs H Q E, sp vs H Q E → vs.length = ps.length
  run : ∀ (A : Around) (outer : List PySem.Env) (s : Shared) (H : Hp) (args : Args) (us : List Value) (vs : List V) (Q : VK) (E : XK), RoomH k A → Env0 P w K mg base A outer s H → BindsTo s fd args (ps.zip us) → Vals vs us → sp vs H Q E →
    codeAny (model P w) A (.call (.ref f) args) (CR CX0 outer P w H s Q E) s
def cxT (P : Program) (w : World) (K : PySem.W.Frag) (mg : Str → Option Value) (base : Heap) (N : List Str) (qual : Str) (scope : Scope) (f : Addr) (cd : Value) (A : Around) (outer : List PySem.Env) (s : Shared) (H : Hp) (E : XK) : Cx :=
  { cxOf CX0 P w K mg base N qual scope f cd A outer s H E with calm := false }
theorem inv_startT {P : Program} {w : World} {K : PySem.W.Frag} {mg : Str → Option Value} {base : Heap} {N ps : List Str} {qual : Str} {scope : Scope} {f : Addr} {cd : Value} {A : Around} {outer : List PySem.Env} {s s1 : Shared} {H : Hp} {E : XK} {us : List Value} {vs : List V}
    (S : FnScope N ps scope) (e0 : Env0 P w K mg base A outer s H) (hl : vs.length = ps.length) (r : Vals vs us)
    (x : InCallC s s.heap.objs.size (bindL (envOfC qual scope s.heap.objs.size f cd).kindOf (ps.zip us) fun _ => none) (cellsFrom (s.heap.objs.size + 1) scope.names []) (bindC (envOfC qual scope s.heap.objs.size f cd).kindOf (ps.zip us) fun _ => none) s1) :
    Inv (cxT P w K mg base N qual scope f cd A outer s H E) [] (L2.start N vs) H s1 := by
  have hpl : ps.length ≤ N.length := by have := congrArg List.length S.pre; rw [List.length_take] at this; omega
  obtain ⟨h1, tk, rfl, hk⟩ := x.done
  have noA : ∀ b : Addr, b ∉ (cxT P w K mg base N qual scope f cd A outer s H E).ex := fun b z => absurd (show b ∈ ([] : List Addr) from z) (by simp)
  refine ⟨⟨e0.mod, S.kind, rfl, rfl, Nat.le_refl _, fun y z c h1 h2 => ?_, fun y hy => ?_, fun y c _ h => ?_, (fun z => Bool.noConfusion (show false = true from z)), Around.frames_deeper e0.frames, .inr ⟨rfl, rfl⟩, fun b z => absurd z (noA b), e0.bs, e0.bsz, fun b _ _ => noA b, fun b z => absurd z (noA b), e0.funs, e0.frf⟩,
    rfl, e0.bare, Un.kept hk, ⟨_, x.toInCall.ns, fun i y v h1 h2 h3 => ?_⟩, fun y c h => ⟨_, x.cell y c h⟩, e0.hok.fresh (Nat.le_refl _), fun y c h => ?_, fun q hq => absurd (show q ∈ ([] : List (Addr × Obj)) ++ [] from hq) (by simp), e0.hok.kept hk, ?_⟩
  · exact name_of_addr x.apart (PySem.mem_of_lookup h1) (PySem.mem_of_lookup h2)
  · have hy : scope.names.lookup y = some .cell ∨ scope.names.lookup y = some .free := hy
    rcases hy with hy | hy
    · exact cell_has hy
    · exact absurd rfl (S.nofree _ (PySem.mem_of_lookup hy))
  · exact Nat.le_of_lt (x.above y c (PySem.mem_of_lookup h))
  · have hi : i < vs.length := by
      unfold L2.start at h2
      by_cases hi : i < vs.length
      · exact hi
      · rw [List.getElem?_append_right (by simpa using hi)] at h2
        rw [List.getElem?_replicate] at h2
        split at h2 <;> cases h2
    have ha : vs[i]? = some v := by
      unfold L2.start at h2
      rw [List.getElem?_append_left (by simpa using hi), List.getElem?_map] at h2
      cases e : vs[i]? with
      | none => rw [e] at h2; cases h2
      | some a => rw [e] at h2; cases h2; rfl
    obtain ⟨u, hu, rv⟩ := r.get ha
    have hp : ps[i]? = some y := by
      rw [← S.pre, List.getElem?_take_of_lt (by omega)]; exact h1
    have ndP : ps.Nodup := by rw [← S.pre]; exact S.nd.sublist (List.take_sublist _ _)
    refine ⟨u, rv, ?_⟩
    rcases S.par y (List.mem_of_getElem? hp) with k | k
    · exact .inl ⟨k, bindL_get ndP hp hu k⟩
    · obtain ⟨c, e⟩ := cell_has (n := s.heap.objs.size + 1) k
      refine .inr ⟨.inl k, c, e, ?_⟩
      have q := x.cell y c e
      rw [bindC_get ndP hp hu (by show scope.names.lookup y ≠ _; rw [k]; decide)] at q
      exact q
  · exact e0.hok.fresh (Nat.le_of_lt (x.above y c (PySem.mem_of_lookup h)))
  · unfold L2.start
    show _ = N.length
    rw [List.length_append, List.length_map, List.length_replicate]
    omega
theorem fn_ofT {P : Program} {w : World} {K : PySem.W.Frag} {mg : Str → Option Value} {base : Heap} {k : Nat} {f : Addr} {name qual : Str} {params : Arguments} {body : List Stmt} {scope : Scope} {dV kV doc pm cdv ct oc : Value} {an od : Option Addr}
    {osl : Array (Option Value)} {N ps : List Str} {sp : Sp} (lk : K.lookup f = some ⟨oc, od, .func (PySem.W.fnOf name qual params body scope dV kV doc pm an cdv ct), osl⟩) (hcd : PySem.W.codeIn K cdv qual = true) (S : FnScope N ps scope)
    (len : ∀ vs H Q E, sp vs H Q E → vs.length = ps.length)
    (hbody : ∀ (A : Around) (outer : List PySem.Env) (s : Shared) (H : Hp) (vs : List V) (Q : VK) (E : XK), RoomH k (A.deeper (envOfC qual scope s.heap.objs.size f cdv)) → sp vs H Q E →
      ∃ t, PSs (cxT P w K mg base N qual scope f cdv A outer s H E) body t ∧ t { nx := fun _ H' => Q .non H', rt := Q } (L2.start N vs) H) :
    FnT P w K mg base (k + 1) f (PySem.W.fnOf name qual params body scope dV kV doc pm an cdv ct) ps sp := by
  refine ⟨len, fun A outer s H args us vs Q E hr e0 hb r hsp => ?_⟩
  have hl := len _ _ _ _ hsp
  have KX : K.In s.heap := e0.mod.kin.keeps fun b o e => (e0.bs b o e).1
  have lim : s.heap.NoLimit := e0.mod.nolimit.keeps fun b o e => (e0.bs b o e).1
  have hkind : ∀ y ∈ ps.zip us, scope.names.lookup y.1 = some .local ∨ (scope.names.lookup y.1 = some .cell ∧ ((cellsFrom (s.heap.objs.size + 1) scope.names []).lookup y.1).isSome = true) := fun ⟨n, v⟩ hy => by
    rcases S.par n (List.of_mem_zip hy).1 with q | q
    · exact .inl q
    · exact .inr ⟨q, PySem.W.cellsFrom_some _ _ _ (.inl q)⟩
  refine codeAny_call_function hr.depth (KX _ _ lk) rfl S.co S.gen rfl (PySem.W.codeRec_of KX hcd) (hb _ _ _ _ ?_)
  refine wpAny_newFunctionEnv_cells S.kind hkind fun env he s1 x => ?_
  subst he
  refine ⟨lim.keeps x.toInCall.keep, codeAny_func ?_⟩
  obtain ⟨t, ht, hq⟩ := hbody A outer s H vs Q E (hr.deeper _) hsp
  have I : Inv (cxT P w K mg base N qual scope f cdv A outer s H E) [] (L2.start N vs) H s1 := inv_startT S e0 hl r x
  refine wpAny_mono (ht.run [] s1 (L2.start N vs) H _ I hq) (fun fl s' hs => ?_) fun e s' hs => hs
  have fin : ∀ {σ' : L2.St} {H' : Hp} {v : V} {u : Value}, Inv (cxT P w K mg base N qual scope f cdv A outer s H E) [] σ' H' s' → RelV v u → Q v H' → CE outer P w H s Q u s' :=
    fun {σ' H' v u} J rv q => ⟨v, H', J.os, J.bare, J.base, J.hok, rv, q⟩
  cases fl with
  | ret u =>
    obtain ⟨v, σ', H', J, rv, q⟩ := hs
    exact fin J rv q
  | next =>
    obtain ⟨σ', H', J, q⟩ := hs
    exact fin (v := V.non) (u := Value.none) J rfl q
  | brk =>
    obtain ⟨_, _, _, q⟩ := hs
    exact False.elim q
  | cont =>
    obtain ⟨_, _, _, q⟩ := hs
    exact False.elim q
/-- what a caller in an except suite knows of x -/
def CalT (P : Program) (w : World) (K : PySem.W.Frag) (mg : Str → Option Value) (base : Heap) (k : Nat) (x : Str) (ps : List Str) (sp : DSp) : Prop := ∃ (f : Addr) (fd : FuncData), FnT P w K mg base k f fd ps (toSp K sp) ∧ mg x = some (.ref f) ∧ PySem.W.keepIn K (.ref f) = true ∧ Binds K fd ps []
theorem calt_def {P : Program} {w : World} {K : PySem.W.Frag} {mg : Str → Option Value} {base : Heap} {x nm : Str} {st : Stmt} {N ps : List Str} {k : Nat} {sp : DSp} {wb : DWS} (I : DefIn K mg x nm st) (sc : FnScope N ps (defScope st))
    (hbd : ∀ (kV doc pm : Value) (an : Option Addr) (cdv ct : Value) (us : List Value), us.length = ps.length → bindArgs (PySem.W.fnOf nm nm (defArgs st) (defBody st) (defScope st) .none kV doc pm an cdv ct) ⟨us, []⟩ = pure (ps.zip us))
    (len : ∀ ds S P E, sp ds S P E → ds.length = ps.length)
    (hb : ∀ (f : Addr) (cdv : Value) (A : Around) (outer : List PySem.Env) (s : Shared) (H : Hp) (E : XK), RoomH k (A.deeper (envOfC nm (defScope st) s.heap.objs.size f cdv)) → DSs (cxT P w K mg base N nm (defScope st) f cdv A outer s H E) (fun C d _ H' => E C d H') (defBody st) wb)
    (hw : ∀ ds S P E, S.all (lo S.length) = true → sp ds S P E → wb (endsOf S.length P E) (startD N.length ds) S) : CalT P w K mg base (k + 1) x ps sp := by
  obtain ⟨f, fd, F, hm⟩ := I
  refine ⟨f, fd, ?_, hm, F.kp, F.bindsN hbd⟩
  obtain ⟨oc, od, dV, kV, doc, pm, an, cdv, ct, osl, rfl, lk, hcd, _, _⟩ := F.ex
  refine fn_ofT lk hcd sc (fun vs H Q E h => ?_) fun A outer s H vs Q E hr h => ?_
  · obtain ⟨M, mu, S, ds, P, Ex, ok, r, q, _⟩ := h
    rw [← r.len]
    exact len _ _ _ _ q
  · obtain ⟨M, mu, S, ds, P, Ex, ok, r, q, n, xx⟩ := h
    obtain ⟨t, p, rb⟩ := (hb f cdv A outer s H E hr).ex
    exact ⟨t, p, rb.run M mu _ _ S H _ _ ok (env_start r) (hw ds S P Ex ok.scoped q) (eok_def ok n xx)⟩
def wCalT (sp : DSp) (w : DWA) : DW := fun ρ S P E => w ρ S (fun ds S1 => sp ds S1 P EF) E
section
variable {X : Cx} {W : WX} {j k : Nat} {ps : List Str} {sp : DSp} {x : Str} {p pos : Pos} {e : Expr} {es : List Expr} {w : DWA}
theorem run_fnT {fd : FuncData} {f : Addr} {sp : Sp} {pins : List (Addr × Obj)} {σ : L2.St} {H : Hp} {s : Shared} {Q : VK} {us : List Value} {vs : List V} (F : FnT X.prog X.w X.K X.mg X.base k f fd ps sp) (hr : RoomH k X.A) (hb : Binds X.K fd ps []) (I : Inv X pins σ H s) (r : Vals vs us)
    (h : sp vs H Q fun _ _ _ => False) : wpAny (model X.prog X.w) X.A (call (.ref f) us) (EP X pins σ Q) X.xe s := by
  have hl : us.length = ps.length := by rw [← r.length]; exact F.len _ _ _ _ h
  have b := hb s us I.kIn (by rw [List.append_nil]; exact hl)
  rw [List.append_nil] at b
  refine wpAny_call (codeAny_mono (F.run X.A X.stack s H ⟨us, []⟩ us vs Q _ hr I.env0 b r h) fun r s' hq => ?_)
  cases r with
  | error e => exact False.elim hq
  | ok fl =>
    cases fl with
    | ret u => exact I.after hq
    | next => exact False.elim hq
    | brk => exact False.elim hq
    | cont => exact False.elim hq
theorem de_calT (c : CalT X.prog X.w X.K X.mg X.base j x ps sp) (hr : RoomH k X.A) (ha : DA X W (e :: es) w) (hjk : j ≤ k := by first | decide | exact Nat.le_refl _ | omega) (hg : Gl X x := by rfl) (hdb : (x == ("__debug__" : Str)) = false := by decide)
    (he : starEach (e :: es) X.env = (false, eval e X.env) :: starEach es X.env := by rfl) (hpl : (backTo pos (starEach es X.env)).any (·.1) = false := by rfl) : DE X W (.Call (.Name x p) (e :: es) [] pos) (wCalT sp w) := by
  obtain ⟨f, fd, F, hm, hk, hb⟩ := c
  obtain ⟨t, pa, ra⟩ := ha.ex
  refine ⟨fun σ H Q => t σ H fun vs H1 => toSp X.K sp vs H1 Q fun _ _ _ => False, ⟨fun pins s σ H Q I h => ?_⟩, ⟨fun M mu σ ρ S H P E Q ok en hw n x => ?_⟩⟩
  · refine wpAny_Call_Name_kw (ld_glob I hg hm ?_ hdb)
    refine PySem.W.callWith_K (h₀ := X.base) I.ok.mod.kin hk (thn (pa.run pos pins s σ H _ I h) fun us s1 ⟨vs, H1, I1, r, q⟩ => ⟨I1.kIn, ?_⟩) he hpl
    exact run_fnT F (hr.mono hjk) hb I1 r q
  · refine ra.run M mu σ ρ S H _ E _ ok en hw (fun vs H1 ds S1 k1 ok1 r1 h1 => ?_) x
    exact ⟨M, mu, S1, ds, P, EF, ok1, r1, h1, n.mono k1, fun _ _ _ _ _ _ _ _ _ q => q.elim⟩
end
end DL
set_option maxRecDepth 100000
set_option maxHeartbeats 4000000
namespace DL
open PySem PySem.Spec PyProof.Rows L2 LamX NdefX
/-! a function value is called: its cells are let go for the call -/
def strip (l : List Addr) (H : Hp) : Hp := fun b => if b ∈ l then none else H b
def unstrip (l : List Addr) (H H2 : Hp) : Hp := fun b => if b ∈ l then H b else H2 b
theorem strip_in {l : List Addr} {H : Hp} {b : Addr} (h : b ∈ l) : strip l H b = none := if_pos h
theorem strip_out {l : List Addr} {H : Hp} {b : Addr} (h : b ∉ l) : strip l H b = H b := if_neg h
theorem unstrip_in {l : List Addr} {H H2 : Hp} {b : Addr} (h : b ∈ l) : unstrip l H H2 b = H b := if_pos h
theorem unstrip_out {l : List Addr} {H H2 : Hp} {b : Addr} (h : b ∉ l) : unstrip l H H2 b = H2 b := if_neg h
def AllC (l : List Addr) (H : Hp) : Prop := ∀ c ∈ l, ∃ o, H c = some (exC o)
section
variable {P : Program} {w : World} {H : Hp} {h : Heap} {l : List Addr}
theorem strip_some {b : Addr} {o : HO} (e : strip l H b = some o) : b ∉ l ∧ H b = some o := by
  by_cases hb : b ∈ l
  · rw [strip_in hb] at e; cases e
  · exact ⟨hb, by rw [strip_out hb] at e; exact e⟩
theorem AllC.out (a : AllC l H) {b : Addr} {o : HO} (e : H b = some o) (n : ∀ ob, o ≠ exC ob) : b ∉ l := fun m => by
  obtain ⟨ob, q⟩ := a b m
  rw [e] at q
  exact n ob (Option.some.inj q)
theorem HOk.strip (ok : HOk P w H h) (a : AllC l H) : HOk P w (strip l H) h := fun b o e => by
  obtain ⟨nb, e⟩ := strip_some e
  refine (ok b o e).stay (fun _ _ _ z => z) (fun c q => ?_) fun c xs q => ?_
  · rw [strip_out (a.out q fun ob z => by cases z)]; exact q
  · rw [strip_out (a.out q fun ob z => by cases z)]; exact q
theorem HOk.unstrip {H2 : Hp} {h2 : Heap} (ok : HOk P w H h) (a : AllC l H) (ok2 : HOk P w H2 h2) (n2 : ∀ c ∈ l, H2 c = none) (kp : ∀ c ∈ l, ∀ o, h.get? c = some o → h2.get? c = some o) : HOk P w (unstrip l H H2) h2 := fun b o e => by
  by_cases hb : b ∈ l
  · rw [unstrip_in hb] at e
    obtain ⟨ob, q⟩ := a b hb
    rw [e] at q
    obtain rfl : o = exC ob := Option.some.inj q
    obtain ⟨q1, ⟨o2, q2⟩⟩ : h.get? b = some ob ∧ ∃ o, h.get? b = some o := ok b _ e
    exact ⟨kp b hb _ q1, ob, kp b hb _ q1⟩
  · rw [unstrip_out hb] at e
    have out : ∀ {c o'}, H2 c = some o' → c ∉ l := fun {c o'} q m => by rw [n2 c m] at q; cases q
    exact (ok2 b o e).stay (fun _ _ _ z => z) (fun c q => by rw [unstrip_out (out q)]; exact q) fun c xs q => by rw [unstrip_out (out q)]; exact q
end
theorem Env0.strip {P : Program} {w : World} {K : PySem.W.Frag} {mg : Str → Option Value} {base : Heap} {A : Around} {outer : List PySem.Env} {s : Shared} {H : Hp} {l : List Addr} (e : Env0 P w K mg base A outer s H) (a : AllC l H) : Env0 P w K mg base A outer s (strip l H) :=
  ⟨e.frames, e.mod, fun b o q => ⟨(e.bs b o q).1, by
    by_cases hb : b ∈ l
    · exact strip_in hb
    · rw [strip_out hb]; exact (e.bs b o q).2⟩, e.bsz, e.funs, fun b q => by
    by_cases hb : b ∈ l
    · exact strip_in hb
    · rw [strip_out hb]; exact e.frf b q, HOk.strip e.hok a, e.bare⟩
theorem cr_unstrip {P : Program} {w : World} {K : PySem.W.Frag} {mg : Str → Option Value} {base : Heap} {A : Around} {outer : List PySem.Env} {s : Shared} {H : Hp} {l : List Addr} {Q : VK} {E : XK} {r : Result} {s' : Shared} (e0 : Env0 P w K mg base A outer s H) (a : AllC l H)
    (h : CR (L2.CX P w) outer P w (strip l H) s (fun v H2 => (∀ c ∈ l, H2 c = none) → Q v (unstrip l H H2)) (fun C d H2 => (∀ c ∈ l, H2 c = none) → E C d (unstrip l H H2)) r s') : CR (L2.CX P w) outer P w H s Q E r s' := by
  have nf : ∀ c ∈ l, c ∉ frs outer := fun c m z => by
    obtain ⟨o, q⟩ := a c m
    rw [e0.frf c z] at q
    cases q
  have hg : ∀ c ∈ l, ∃ o, s.heap.get? c = some o := fun c m => by
    obtain ⟨o, q⟩ := a c m
    obtain ⟨q1, _⟩ : s.heap.get? c = some o ∧ ∃ o, s.heap.get? c = some o := e0.hok c _ q
    exact ⟨o, q1⟩
  have sn : ∀ {b : Addr}, H b = none → strip l H b = none := fun {b} n => by
    by_cases hb : b ∈ l
    · exact strip_in hb
    · rw [strip_out hb]; exact n
  have un_ : ∀ {b : Addr} {H2 : Hp}, H b = none → unstrip l H H2 b = H2 b := fun {b H2} n => unstrip_out fun m => by
    obtain ⟨o, q⟩ := a b m
    rw [n] at q
    cases q
  cases r with
  | error e =>
    obtain ⟨x, B, H2, cls, d, rfl, fl, hok, ub, na, os, ag, q⟩ := h
    have n2 : ∀ c ∈ l, H2 c = none := fun c m => by
      obtain ⟨o, e⟩ := hg c m
      exact ub.free c o e (strip_in m)
    have kp : ∀ c ∈ l, ∀ o, s.heap.get? c = some o → B.get? c = some o := fun c m o e => ub.keep c o e (strip_in m) (nf c m)
    refine ⟨x, B, unstrip l H H2, cls, d, rfl, fl, HOk.unstrip e0.hok a hok n2 kp, ⟨fun b o e n hf => ub.keep b o e (sn n) hf, ub.slot, fun b o e n => ?_, ub.there, fun b xs e => ?_, fun b o xs e => ?_, fun b ps e => ?_⟩, ?_, os, ag, q n2⟩
    · rw [un_ n]; exact ub.free b o e (sn n)
    · have nb := a.out e fun ob z => by cases z
      rw [unstrip_out nb]; exact ub.tups b xs (by rw [strip_out nb]; exact e)
    · by_cases hb : b ∈ l
      · rw [unstrip_in hb]; exact e
      · rw [unstrip_out hb]; exact ub.frzs b o xs (by rw [strip_out hb]; exact e)
    · have nb := a.out e fun ob z => by cases z
      rw [unstrip_out nb]; exact ub.tbls b ps (by rw [strip_out nb]; exact e)
    · by_cases hb : x ∈ l
      · obtain ⟨o, e⟩ := hg x hb
        have z := kp x hb o e
        rw [fl.2.1] at z
        cases z
      · rw [unstrip_out hb]; exact na
  | ok fl =>
    cases fl with
    | ret u =>
      obtain ⟨v, H2, os, ag, un, hok, rv, q⟩ := h
      have n2 : ∀ c ∈ l, H2 c = none := fun c m => by
        obtain ⟨o, e⟩ := hg c m
        exact un.free c o e (strip_in m) (by simp)
      have kp : ∀ c ∈ l, ∀ o, s.heap.get? c = some o → s'.heap.get? c = some o := fun c m o e => un.keep c o e (strip_in m) (nf c m) (by simp)
      refine ⟨v, unstrip l H H2, os, ag, ⟨fun b o e n => un.keep b o e (sn n), fun b o e n => un.slot b o e (sn n), fun b o e n hx => ?_, un.there, fun b xs e => ?_, fun b o xs e => ?_, fun b ps e => ?_⟩, HOk.unstrip e0.hok a hok n2 kp, rv, q n2⟩
      · rw [un_ n]; exact un.free b o e (sn n) hx
      · have nb := a.out e fun ob z => by cases z
        rw [unstrip_out nb]; exact un.tups b xs (by rw [strip_out nb]; exact e)
      · by_cases hb : b ∈ l
        · rw [unstrip_in hb]; exact e
        · rw [unstrip_out hb]; exact un.frzs b o xs (by rw [strip_out hb]; exact e)
      · have nb := a.out e fun ob z => by cases z
        rw [unstrip_out nb]; exact un.tbls b ps (by rw [strip_out nb]; exact e)
    | next => exact False.elim h
    | brk => exact False.elim h
    | cont => exact False.elim h
/-! ### trees without functions -/
mutual
def nofn : D → Bool
  | .lst ds => nofns ds
  | .tup ds => nofns ds
  | .ktp ds => nofns ds
  | .dk kvs => nofnk kvs
  | .dt kvs => nofnt kvs
  | .obj _ fs => nofnf fs
  | .exn _ fs => nofnf fs
  | .fn _ _ _ => false
  | _ => true
def nofns : List D → Bool
  | [] => true
  | d :: ds => nofn d && nofns ds
def nofnk : List (Key × D) → Bool
  | [] => true
  | (_, d) :: ds => nofn d && nofnk ds
def nofnt : List (List Key × D) → Bool
  | [] => true
  | (_, d) :: ds => nofn d && nofnt ds
def nofnf : List (Str × D) → Bool
  | [] => true
  | (_, d) :: ds => nofn d && nofnf ds
end
section
variable {K : PySem.W.Frag} {M : Addr → Prop} {mu : List Addr} {H H' : Hp}
/-- all that is no cell is kept -/
def KeepC (H H' : Hp) : Prop := ∀ b o, H b = some o → (∀ ob, o ≠ exC ob) → H' b = some o
theorem ext_ne {φ : Heap → Prop} : ∀ ob, HO.ext φ ≠ exC ob := fun ob z => by
  have z' : HO.ext φ = HO.frz ob (.own 0) := z
  cases z'
mutual
theorem R.strip (e : KeepC H H') : ∀ (d : D) (v : V), nofn d = true → R K M mu H d v → R K M mu H' d v
  | .non, v, _, h => h
  | .bl b, v, _, h => h
  | .int i, v, _, h => h
  | .str s, v, _, h => h
  | .ty n, v, _, h => h
  | .cst a, v, _, h => h
  | .loc i, v, _, h => h
  | .scr ns, v, _, ⟨a, h1, h2⟩ => ⟨a, h1, h2.imp (fun ⟨m, q⟩ => ⟨m, q.elim (fun q => .inl (e a _ q fun _ z => by cases z)) fun ⟨o, q⟩ => .inr ⟨o, e a _ q fun _ z => by cases z⟩⟩) id⟩
  | .lst ds, v, q, ⟨a, vs, h1, h2, h3, h4⟩ => ⟨a, vs, h1, h2, e a _ h3 (fun _ z => by cases z), Rs.strip e ds vs q h4⟩
  | .tup ds, v, q, ⟨a, vs, h1, h2, h4⟩ => ⟨a, vs, h1, e a _ h2 (fun _ z => by cases z), Rs.strip e ds vs q h4⟩
  | .ktp ds, v, q, ⟨a, vs, h1, h2, h4⟩ => ⟨a, vs, h1, h2, Rs.strip e ds vs q h4⟩
  | .dk kvs, v, q, ⟨a, od, es, h1, h3, h4, h5⟩ => ⟨a, od, es, h1, e a _ h3 (fun _ z => by cases z), h4, Rk.strip e kvs _ q h5⟩
  | .dt kvs, v, q, ⟨a, od, es, h1, h3, h4, h5⟩ => ⟨a, od, es, h1, e a _ h3 (fun _ z => by cases z), h4, Rt.strip e kvs _ q h5⟩
  | .obj C fs, v, q, ⟨a, dx, gs, h1, h2, h3, h4, h5⟩ => ⟨a, dx, gs, h1, h2, e a _ h3 (fun _ z => by cases z), h4, Rfs.strip e fs _ q h5⟩
  | .exn C fs, v, q, ⟨a, dx, gs, h1, h2, h3, h4, h5, h6, h7⟩ => ⟨a, dx, gs, h1, h2, e a _ h3 ext_ne, h4, e dx _ h5 (fun _ z => by cases z), h6, Rfs.strip e fs _ q h7⟩
theorem Rs.strip (e : KeepC H H') : ∀ (ds : List D) (vs : List V), nofns ds = true → Rs K M mu H ds vs → Rs K M mu H' ds vs
  | [], vs, _, h => h
  | d :: ds, vs, q, ⟨v, r, h1, h2, h3⟩ => ⟨v, r, h1, R.strip e d v (and_tt q).1 h2, Rs.strip e ds r (and_tt q).2 h3⟩
theorem Rk.strip (e : KeepC H H') : ∀ (ds : List (Key × D)) (vs : List V), nofnk ds = true → Rk K M mu H ds vs → Rk K M mu H' ds vs
  | [], vs, _, h => h
  | (_, d) :: ds, vs, q, ⟨v, r, h1, h2, h3⟩ => ⟨v, r, h1, R.strip e d v (and_tt q).1 h2, Rk.strip e ds r (and_tt q).2 h3⟩
theorem Rt.strip (e : KeepC H H') : ∀ (ds : List (List Key × D)) (vs : List V), nofnt ds = true → Rt K M mu H ds vs → Rt K M mu H' ds vs
  | [], vs, _, h => h
  | (_, d) :: ds, vs, q, ⟨v, r, h1, h2, h3⟩ => ⟨v, r, h1, R.strip e d v (and_tt q).1 h2, Rt.strip e ds r (and_tt q).2 h3⟩
theorem Rfs.strip (e : KeepC H H') : ∀ (ds : List (Str × D)) (vs : List V), nofnf ds = true → Rfs K M mu H ds vs → Rfs K M mu H' ds vs
  | [], vs, _, h => h
  | (_, d) :: ds, vs, q, ⟨v, r, h1, h2, h3⟩ => ⟨v, r, h1, R.strip e d v (and_tt q).1 h2, Rfs.strip e ds r (and_tt q).2 h3⟩
end
theorem TabM.strip (e : KeepC H H') {P : Addr} {q : Str} (t : TabM M H P q) : TabM M H' P q := by
  obtain ⟨ps, h1, h2, h3⟩ := t
  refine ⟨ps, e P _ h1 (fun _ z => by cases z), h2, fun pos cv hc => ?_⟩
  obtain ⟨c, e1, n, e2⟩ := h3 pos cv hc
  exact ⟨c, e1, n, e c _ e2 ext_ne⟩
theorem Wok.strip {S : Sto} (ok : Wok K M mu H S) (e : KeepC H H') (hM : ∀ b, M b → H' b ≠ none) (hS : S.all nofn = true) : Wok K M mu H' S := by
  refine ⟨ok.len, ok.sub, ok.nd, hM, fun i a d h1 h2 => ?_⟩
  have q : nofn d = true := List.all_eq_true.mp hS d (List.mem_of_getElem? h2)
  have c := ok.at_ i a d h1 h2
  cases d with
  | lst ds => obtain ⟨vs, h1, h2⟩ := c; exact ⟨vs, e a _ h1 (fun _ z => by cases z), Rs.strip e ds vs q h2⟩
  | dk kvs => obtain ⟨es, h1, h2, h3⟩ := c; exact ⟨es, e a _ h1 (fun _ z => by cases z), h2, Rk.strip e kvs _ q h3⟩
  | dt kvs => obtain ⟨es, h1, h2, h3⟩ := c; exact ⟨es, e a _ h1 (fun _ z => by cases z), h2, Rt.strip e kvs _ q h3⟩
  | obj C fs => obtain ⟨dx, gs, h1, h2, h3⟩ := c; exact ⟨dx, gs, e a _ h1 (fun _ z => by cases z), h2, Rfs.strip e fs _ q h3⟩
  | tb P z => exact ⟨c.1, c.2.strip e⟩
  | non => exact True.intro
  | _ => exact c
/-- the heap has grown: nothing tracked has changed -/
theorem ext0_sub (e : ∀ b o, H b = some o → H' b = some o) : Ext0 M mu H M mu H' := ⟨fun b o h _ => e b o h, ⟨[], by simp⟩, fun a h => .inl h⟩
theorem Wok.grow {S : Sto} (ok : Wok K M mu H S) (e : ∀ b o, H b = some o → H' b = some o) : Wok K M mu H' S := by
  have x : Ext0 M mu H M mu H' := ext0_sub e
  refine ⟨ok.len, ok.sub, ok.nd, fun b m z => ?_, fun i a d h1 h2 => ?_⟩
  · cases q : H b with
    | none => exact ok.tr b m q
    | some o => rw [e b o q] at z; cases z
  · have c := ok.at_ i a d h1 h2
    cases d with
    | lst ds => obtain ⟨vs, h1, h2⟩ := c; exact ⟨vs, e a _ h1, Rs.mono x ds vs h2⟩
    | dk kvs => obtain ⟨es, h1, h2, h3⟩ := c; exact ⟨es, e a _ h1, h2, Rk.mono x kvs _ h3⟩
    | dt kvs => obtain ⟨es, h1, h2, h3⟩ := c; exact ⟨es, e a _ h1, h2, Rt.mono x kvs _ h3⟩
    | obj C fs => obtain ⟨dx, gs, h1, h2, h3⟩ := c; exact ⟨dx, gs, e a _ h1, h2, Rfs.mono x fs _ h3⟩
    | tb P z =>
      obtain ⟨h0, ps, h1, h2, h3⟩ := c
      exact ⟨h0, ps, e P _ h1, h2, fun pos cv hc => let ⟨c, e1, n, e2⟩ := h3 pos cv hc; ⟨c, e1, n, e c _ e2⟩⟩
    | non => exact True.intro
    | _ => exact c
end
end DL
set_option maxRecDepth 100000
set_option maxHeartbeats 4000000
namespace DL
open PySem PySem.Spec PyProof.Rows L2 LamX NdefX
/-! f(): f a name that holds a function value -/
/-- what the function promises: sp's arguments are what its cells hold -/
def FnP (P : Program) (w : World) (K : PySem.W.Frag) (mg : Str → Option Value) (base : Heap) (k : Nat) (F : LF) (nd : Nat) (sp : DSp) : Prop :=
  ∀ (f : Addr) (A : Around) (outer : List PySem.Env) (s : Shared) (H : Hp) (vals : List V) (Q : VK) (E : XK), Room k A → Env0 P w K mg base A outer s H → (∃ dV, H f = some (FnD f F dV) ∧ DflN H dV nd) → H F.c = some (CodeO F.c F.qual) →
    CellsAt F.cl (F.cl.map (·.1)) (vals.map some) s.heap H → toSp K sp vals H Q E → codeAny (model P w) A (.call (.ref f) ⟨[], []⟩) (CR (L2.CX P w) outer P w H s Q E) s
theorem look_ix : ∀ {l : List (Str × Addr)} {i : Nat} {y : Str} {c : Addr}, (l.map (·.1)).Nodup → l[i]? = some (y, c) → l.lookup y = some c
  | [], i, _, _, _, h => by simp at h
  | (x, d) :: l, 0, y, c, _, h => by
    obtain ⟨rfl, rfl⟩ : x = y ∧ d = c := by simpa using h
    simp [List.lookup]
  | (x, d) :: l, i + 1, y, c, nd, h => by
    have nd' := List.nodup_cons.mp (show ((x :: l.map (·.1)).Nodup) from nd)
    have hl : l[i]? = some (y, c) := by simpa using h
    have ne : (y == x) = false := by
      have : y ≠ x := fun z => nd'.1 (List.mem_map.mpr ⟨(y, c), List.mem_of_getElem? hl, z⟩)
      simpa using this
    rw [List.lookup_cons, ne]
    exact look_ix nd'.2 hl
theorem look_inj {l : List (Str × Addr)} (nd : (l.map (·.2)).Nodup) {x y : Str} {c : Addr} (hx : l.lookup x = some c) (hy : l.lookup y = some c) : x = y := by
  obtain ⟨i, hi⟩ := List.getElem?_of_mem (PySem.mem_of_lookup hx)
  obtain ⟨j, hj⟩ := List.getElem?_of_mem (PySem.mem_of_lookup hy)
  have h1 : (l.map (·.2))[i]? = some c := by rw [List.getElem?_map, hi]; rfl
  have h2 : (l.map (·.2))[j]? = some c := by rw [List.getElem?_map, hj]; rfl
  have e : i = j := nd_ix nd h1 h2
  subst e
  rw [hi] at hj
  exact congrArg Prod.fst (Option.some.inj hj)
def FnIn (P : Program) (w : World) (K : PySem.W.Frag) (mg : Str → Option Value) (base : Heap) (k : Nat) (F : LF) (nd n : Nat) (sp : DSp) : Prop := FnP P w K mg base k F nd sp ∧ n = F.cl.length ∧ (F.cl.map (·.1)).Nodup ∧ (F.cl.map (·.2)).Nodup
def wFnCall (P : Program) (w : World) (K : PySem.W.Frag) (mg : Str → Option Value) (base : Heap) (k i : Nat) : DW := fun ρ S P' E => match ρ.getD i none with
  | some (.fn F nd ws) => ∃ sp, FnIn P w K mg base k F nd ws.length sp ∧ nofns ws = true ∧ S.all nofn = true ∧ sp ws S P' E
  | _ => False
theorem getD_some {ρ : Loc} {i : Nat} {d : D} (h : ρ.getD i none = some d) : ρ[i]? = some (some d) := by
  rw [List.getD_eq_getElem?_getD] at h
  cases e : ρ[i]? with
  | none => rw [e] at h; cases h
  | some o => rw [e] at h; rw [show o = some d from h]
section
variable {X : Cx} {W : WX} {i k : Nat} {x : Str} {p pos : Pos}
theorem run_fnV {F : LF} {nd : Nat} {sp : DSp} {vals : List V} {dV : Value} {f : Addr} {pins : List (Addr × Obj)} {σ : L2.St} {H : Hp} {s : Shared} {Q : VK} (tk : Takes X W) (hr : Room k X.A) (I : Inv X pins σ H s) (hf : H f = some (FnD f F dV)) (hd : DflN H dV nd) (hc : H F.c = some (CodeO F.c F.qual))
    (hF : FnIn X.prog X.w X.K X.mg X.base k F nd vals.length sp) (cv : ∀ (i : Nat) v, vals[i]? = some v → ∃ y c o u, F.cl[i]? = some (y, c) ∧ H c = some (exC o) ∧ o.data = .cell (some u) ∧ RelV v u)
    (q : toSp X.K sp vals (strip (F.cl.map (·.2)) H) (fun v H2 => (∀ c ∈ F.cl.map (·.2), H2 c = none) → Q v (unstrip (F.cl.map (·.2)) H H2)) (fun C d H2 => (∀ c ∈ F.cl.map (·.2), H2 c = none) → W C d σ (unstrip (F.cl.map (·.2)) H H2))) :
    wpAny (model X.prog X.w) X.A (call (.ref f) []) (EP X pins σ Q) X.xe s := by
  obtain ⟨FP, hl, nn, nc⟩ := hF
  have at_ : ∀ {i : Nat} {y : Str} {c : Addr}, F.cl[i]? = some (y, c) → ∃ v o u, vals[i]? = some v ∧ H c = some (exC o) ∧ o.data = .cell (some u) ∧ RelV v u := fun {i y c} h => by
    have hi : i < vals.length := by rw [hl]; exact (List.getElem?_eq_some_iff.mp h).1
    obtain ⟨y', c', o, u, h1, h2, h3, h4⟩ := cv i _ (List.getElem?_eq_getElem hi)
    rw [h] at h1
    cases h1
    exact ⟨_, o, u, List.getElem?_eq_getElem hi, h2, h3, h4⟩
  have ac : AllC (F.cl.map (·.2)) H := fun c m => by
    obtain ⟨⟨y, c'⟩, hm, rfl⟩ := List.mem_map.mp m
    obtain ⟨i, hi⟩ := List.getElem?_of_mem hm
    obtain ⟨v, o, u, _, h2, _⟩ := at_ hi
    exact ⟨o, h2⟩
  have isC : ∀ {c : Addr} {o : Obj} {u : Value}, H c = some (exC o) → o.data = .cell (some u) → s.heap.IsCell c (some u) := fun {c o u} h1 h2 => by
    obtain ⟨q1, _⟩ : s.heap.get? c = some o ∧ ∃ o, s.heap.get? c = some o := I.hok c _ h1
    exact ⟨o, q1, h2⟩
  have CA : CellsAt F.cl (F.cl.map (·.1)) (vals.map some) s.heap (strip (F.cl.map (·.2)) H) := by
    refine ⟨by rw [List.length_map, List.length_map, hl], fun y c h => ?_, fun x y c hx hy => look_inj nc hx hy, fun i y h => ?_⟩
    · have hm := PySem.mem_of_lookup h
      obtain ⟨i, hi⟩ := List.getElem?_of_mem hm
      obtain ⟨v, o, u, _, h2, h3, _⟩ := at_ hi
      exact ⟨strip_in (List.mem_map.mpr ⟨(y, c), hm, rfl⟩), _, isC h2 h3⟩
    · rw [List.getElem?_map] at h
      obtain ⟨⟨y', c⟩, hi, rfl⟩ := Option.map_eq_some_iff.mp h
      obtain ⟨v, o, u, h1, h2, h3, h4⟩ := at_ hi
      refine ⟨c, look_ix nn hi, fun v' hv => ?_⟩
      rw [List.getElem?_map, h1] at hv
      obtain rfl : v = v' := by simpa using hv
      exact ⟨u, h4, isC h2 h3⟩
  have hfs : strip (F.cl.map (·.2)) H f = some (FnD f F dV) := by rw [strip_out (ac.out hf ext_ne)]; exact hf
  have hcs : strip (F.cl.map (·.2)) H F.c = some (CodeO F.c F.qual) := by rw [strip_out (ac.out hc ext_ne)]; exact hc
  have hds : DflN (strip (F.cl.map (·.2)) H) dV nd := hd.imp id fun ⟨T, vs, h1, h2, h3⟩ => ⟨T, vs, h1, by rw [strip_out (ac.out h2 fun ob z => by cases z)]; exact h2, h3⟩
  refine wpAny_call (codeAny_mono (FP f X.A X.stack s _ vals _ _ hr (Env0.strip I.env0 ac) ⟨dV, hfs, hds⟩ hcs CA q) fun r s' hq => ?_)
  have hq2 : CR (L2.CX X.prog X.w) X.stack X.prog X.w H s Q (fun C d H' => W C d σ H') r s' := cr_unstrip I.env0 ac hq
  cases r with
  | error e => exact passAt tk σ pins H s e s' I hq2
  | ok fl =>
    cases fl with
    | ret u => exact I.after hq2
    | next => exact False.elim hq2
    | brk => exact False.elim hq2
    | cont => exact False.elim hq2
theorem de_fnCall {P : Program} {w : World} {K : PySem.W.Frag} {mg : Str → Option Value} {base : Heap} (tk : Takes X W) (hr : Room k X.A) (hN : X.N[i]? = some x) (hv : Vis X.env.scope x) (hd : (x == ("__debug__" : Str)) = false := by decide) (hcd : (x == ("__classdict__" : Str)) = false := by decide)
    (hP : X.prog = P := by rfl) (hw : X.w = w := by rfl) (hK : X.K = K := by rfl) (hm : X.mg = mg := by rfl) (hb : X.base = base := by rfl) : DE X W (.Call (.Name x p) [] [] pos) (wFnCall P w K mg base k i) := by
  subst hP hw hK hm hb
  refine ⟨fun σ H Q => ∃ f F nd dV vals sp, σ[i]? = some (some (.ref f)) ∧ H f = some (FnD f F dV) ∧ DflN H dV nd ∧ H F.c = some (CodeO F.c F.qual) ∧ FnIn X.prog X.w X.K X.mg X.base k F nd vals.length sp ∧
    (∀ (i : Nat) v, vals[i]? = some v → ∃ y c o u, F.cl[i]? = some (y, c) ∧ H c = some (exC o) ∧ o.data = .cell (some u) ∧ RelV v u) ∧
    toSp X.K sp vals (strip (F.cl.map (·.2)) H) (fun v H2 => (∀ c ∈ F.cl.map (·.2), H2 c = none) → Q v (unstrip (F.cl.map (·.2)) H H2)) (fun C d H2 => (∀ c ∈ F.cl.map (·.2), H2 c = none) → W C d σ (unstrip (F.cl.map (·.2)) H H2)),
    ⟨fun pins s σ H Q I h => ?_⟩, ⟨fun M mu σ ρ S H P' E Q ok en hw n xx => ?_⟩⟩
  · obtain ⟨f, F, nd, dV, vals, sp, hs, hf, hdl, hc, hF, cv, q⟩ := h
    refine wpAny_Call_Name_kw (thn ((pe_var (pos := p) hN hv hd hcd).run pins s σ H (fun v H1 => v = .ref f ∧ H1 = H) I ⟨.ref f, hs, rfl, rfl⟩) fun u s1 ⟨v, H1, I1, r1, q1⟩ => ?_)
    obtain ⟨ev, eH⟩ := q1
    subst ev
    rw [eH] at I1
    obtain rfl : u = Value.ref f := r1
    obtain ⟨⟨pm, ctv, ho⟩, _, _⟩ := I1.hok f _ hf
    refine PySem.W.callWith_F0 (first := []) ⟨_, none, _, _, ho⟩ ?_
    show wpAny _ _ (call (.ref f) []) _ _ _
    exact run_fnV tk hr I1 hf hdl hc hF cv q
  · unfold wFnCall at hw
    cases e : ρ.getD i none with
    | none => rw [e] at hw; exact hw.elim
    | some d =>
      rw [e] at hw
      cases d with
      | fn F nd ws =>
        obtain ⟨sp, hF, hn1, hn2, hsp⟩ := hw
        obtain ⟨v, hσ, f, dV, vals, rfl, nMf, hf, nMc, hc, hdl, cv, rs⟩ := en.get i _ (getD_some e)
        have hlen := rs.len
        have ac : AllC (F.cl.map (·.2)) H ∧ ∀ c ∈ F.cl.map (·.2), ¬ M c := by
          have key : ∀ c ∈ F.cl.map (·.2), ¬ M c ∧ ∃ o, H c = some (exC o) := fun c m => by
            obtain ⟨⟨y, c'⟩, hm, rfl⟩ := List.mem_map.mp m
            obtain ⟨j, hj⟩ := List.getElem?_of_mem hm
            have hjl : j < vals.length := by rw [← hlen, hF.2.1]; exact (List.getElem?_eq_some_iff.mp hj).1
            obtain ⟨y', c2, o, u, h1, h2, h3, h4⟩ := cv j _ (List.getElem?_eq_getElem hjl)
            rw [hj] at h1
            cases h1
            exact ⟨h2, o, h3⟩
          exact ⟨fun c m => (key c m).2, fun c m => (key c m).1⟩
        obtain ⟨ac, nM⟩ := ac
        have kc : KeepC H (strip (F.cl.map (·.2)) H) := fun b o hb no => by rw [strip_out (ac.out hb no)]; exact hb
        refine ⟨f, F, nd, dV, vals, sp, hσ, hf, hdl, hc, by rw [← hlen]; exact hF, fun i v h => let ⟨y, c, o, u, h1, _, h2, h3⟩ := cv i v h; ⟨y, c, o, u, h1, h2, h3⟩, M, mu, S, ws, P', E, ok.strip kc (fun b m z => ?_) hn2, Rs.strip kc _ _ hn1 rs, hsp, fun v H2 d2 S2 k2 ok2 r2 p2 n2 => ?_, fun C d H2 c fs S2 k2 ok2 xr he n2 => ?_⟩
        · rw [strip_out fun hm => nM b hm m] at z
          exact ok.tr b m z
        all_goals (
          have sub : ∀ b o, H2 b = some o → unstrip (F.cl.map (·.2)) H H2 b = some o := fun b o h => by
            rw [unstrip_out fun hm => by rw [n2 b hm] at h; cases h]
            exact h
          have kp : Keep mu H (unstrip (F.cl.map (·.2)) H H2) := fun b o h nb => by
            by_cases hb : b ∈ F.cl.map (·.2)
            · rw [unstrip_in hb]; exact h
            · rw [unstrip_out hb]; exact k2 b o (by rw [strip_out hb]; exact h) nb)
        · exact n v _ d2 S2 kp (ok2.grow sub) (R.mono (ext0_sub sub) _ _ r2) p2
        · obtain ⟨rfl, a, gs, rfl, h1, h2, h3, h4⟩ := xr
          exact xx _ _ _ c fs S2 kp (ok2.grow sub) ⟨rfl, a, gs, rfl, h1, sub _ _ h2, h3, Rfs.mono (ext0_sub sub) _ _ h4⟩ he
      | _ => exact hw.elim
/-- a call whose callee may raise, but does not: also where nothing may be let out -/
theorem de_calN {j : Nat} {ps : List Str} {sp : DSp} {w : DWA} {e : Expr} {es : List Expr} (c : Cal X.prog X.w X.K X.mg X.base (L2.CX X.prog X.w) j x ps sp) (hr : Room k X.A) (ha : DA X W (e :: es) w) (hjk : j ≤ k := by first | decide | exact Nat.le_refl _ | omega) (hg : Gl X x := by rfl) (hdb : (x == ("__debug__" : Str)) = false := by decide)
    (he : starEach (e :: es) X.env = (false, eval e X.env) :: starEach es X.env := by rfl) (hpl : (backTo pos (starEach es X.env)).any (·.1) = false := by rfl) : DE X W (.Call (.Name x p) (e :: es) [] pos) (wCalT sp w) := by
  obtain ⟨f, fd, c⟩ := c
  obtain ⟨t, pa, ra⟩ := ha.ex
  refine ⟨_, pe_call (E := fun _ _ _ => False) c.ok (hr.mono hjk) hg c.mg c.kp c.b .nil passL pa hdb he hpl, ⟨fun M mu σ ρ S H P E Q ok en hw n x => ?_⟩⟩
  refine ra.run M mu σ ρ S H _ E _ ok en hw (fun vs H1 ds S1 k1 ok1 r1 h1 => ?_) x
  rw [List.append_nil]
  exact ⟨M, mu, S1, ds, P, EF, ok1, r1, h1, n.mono k1, fun _ _ _ _ _ _ _ _ _ q => q.elim⟩
end
end DL
set_option maxRecDepth 100000
set_option maxHeartbeats 4000000
namespace DL
open PySem PySem.Spec PyProof.Rows L2 LamX NdefX
/-! a lambda without arguments keeps its promise -/
abbrev LF.nf (F : LF) : NF := ⟨"<lambda>", F.qual, F.params, [], F.scope, F.cl, F.c⟩
def startL (n nd : Nat) (ws : List D) : Loc := List.replicate nd none ++ (ws.map some ++ List.replicate (n - nd - ws.length) none)
section
variable {P : Program} {w : World} {K : PySem.W.Frag} {mg : Str → Option Value} {base : Heap} {N ps : List Str} {F : LF} {nd k : Nat} {sp : DSp} {wb : DW}
theorem env_startL {M : Addr → Prop} {mu : List Addr} {H : Hp} {vs vals : List V} {ws : List D} (rs : Rs K M mu H ws vals) (hv : vs.length = nd) : Env K M mu H (startL N.length nd ws) (startF N vs (vals.map some)) := by
  have hl := rs.len
  unfold startL startF
  refine ⟨by simp only [List.length_append, List.length_replicate, List.length_map]; omega, fun i d h => ?_⟩
  by_cases h1 : i < nd
  · rw [List.getElem?_append_left (by rw [List.length_replicate]; exact h1), List.getElem?_replicate] at h
    split at h <;> cases h
  · rw [List.getElem?_append_right (by rw [List.length_replicate]; omega), List.length_replicate] at h
    by_cases h2 : i - nd < ws.length
    · rw [List.getElem?_append_left (by rw [List.length_map]; exact h2), List.getElem?_map] at h
      obtain ⟨d', hd, e⟩ := Option.map_eq_some_iff.mp h
      obtain rfl : d' = d := Option.some.inj e
      obtain ⟨v, hv1, hr⟩ := rs.get hd
      refine ⟨v, ?_, hr⟩
      have e1 : i - (vs.map some).length = i - nd := by rw [List.length_map, hv]
      rw [List.getElem?_append_right (by rw [List.length_map]; omega), e1, List.getElem?_append_left (by rw [List.length_map, ← hl]; exact h2), List.getElem?_map, hv1]
      rfl
    · rw [List.getElem?_append_right (by rw [List.length_map]; omega), List.getElem?_replicate] at h
      split at h <;> cases h
theorem fnp_def (S : NScope N ps (F.cl.map (·.1)) F.scope) (hps : ps.length = nd)
    (hb0 : ∀ pm ctv, nd = 0 → bindArgs (F.fd .none pm ctv) ⟨[], []⟩ = pure [])
    (hb1 : ∀ (T : Addr) (pm ctv : Value) (its : List Value), its.length = nd → ∃ k, bindArgs (F.fd (.ref T) pm ctv) ⟨[], []⟩ = seqItems? (.ref T) >>= k ∧ k (some its.toArray) = pure (ps.zip its))
    (hb : ∀ (f : Addr) (A : Around) (outer : List PySem.Env) (s : Shared) (H : Hp) (E : XK), Room k (A.deeper (envF F.nf f s.heap.objs.size)) → DE (ncx (L2.CX P w) P w K mg base N F.nf f A outer s H E) (fun C d _ H' => E C d H') F.body wb)
    (hw : ∀ ws S P' E, ws.length = F.cl.length → sp ws S P' E → wb (startL N.length nd ws) S P' E) : FnP P w K mg base (k + 1) F nd sp := by
  intro f A outer s H vals Q E hr e0 hf hc C hsp
  obtain ⟨dV, hf, hdl⟩ := hf
  obtain ⟨⟨pm, ctv, ho⟩, _, _⟩ := e0.hok f _ hf
  have lim : s.heap.NoLimit := e0.mod.nolimit.keeps fun b o e => (e0.bs b o e).1
  have binds : ∃ (us : List Value) (vs : List V), Vals vs us ∧ vs.length = nd ∧ BindsTo s (F.fd dV pm ctv) ⟨[], []⟩ (ps.zip us) := by
    rcases hdl with ⟨h0, rfl⟩ | ⟨T, vs, rfl, hT, hl⟩
    · refine ⟨[], [], .nil, h0.symm, ?_⟩
      rw [List.zip_nil_right]
      exact .of_eq (hb0 pm ctv h0)
    · obtain ⟨_, its, rv, ob, hob, hcls, n, hdat⟩ := e0.hok T _ hT
      obtain ⟨kk, e1, e2⟩ := hb1 T pm ctv its (by rw [← rv.length]; exact hl)
      refine ⟨its, vs, rv, hl, fun M A' Q' E' q => ?_⟩
      rw [e1]
      refine wpAny_bind (wpAny_seqItems hob hdat ?_)
      rw [e2]
      exact wpAny_pure q
  obtain ⟨us, vs, rv, hvl, hbd⟩ := binds
  refine PySem.W.kla_callFunE hr.depth ho rfl S.co S.gen rfl (codeO_at e0.hok hc) (hbd _ _ _ _ ?_)
  refine wpAny_newFunctionEnv S.nocell (fun ⟨n, _⟩ hy => S.par n (List.of_mem_zip hy).1) (fun h₁ hns hsb => ⟨lim.fresh _ hsb, ?_⟩) S.kind
  show codeAny _ _ (.expr F.body (envF F.nf f s.heap.objs.size)) _ _
  have kp : ∀ b o, s.heap.get? b = some o → h₁.get? b = some o := fun b o e => hsb.extBut b o (Nat.ne_of_lt (Heap.lt_size e)) (Heap.get?_push_of_some _ e)
  have I : Inv (ncx (L2.CX P w) P w K mg base N F.nf f A outer s H E) [] (startF N vs (vals.map some)) H { s with heap := h₁, toks := s.toks + (ps.zip us).length } := inv_startN (F := F.nf) S hr.hd e0 (by rw [hvl, hps]) rv C hns kp
  obtain ⟨M, mu, S0, ws, P', Ex, ok, rs, q, n, xx⟩ := hsp
  obtain ⟨t, pe, rd⟩ := (hb f A outer s H E (hr.deeper _)).ex
  have hlen : ws.length = F.cl.length := by
    rw [rs.len]
    have z := C.len
    rw [List.length_map, List.length_map] at z
    exact z
  have ht : t (startF N vs (vals.map some)) H Q := rd.run M mu _ _ S0 H P' Ex Q ok (env_startL rs hvl) (hw ws S0 P' Ex hlen q) n xx
  refine PySem.W.kla_codeExpr (wpAny_mono (pe.run [] _ _ H Q I ht) (fun v s' hq => ?_) fun e s' hq => hq)
  obtain ⟨w', H', J', rv', q'⟩ := hq
  exact ⟨w', H', J'.os, J'.bare, J'.base, J'.hok, rv', q'⟩
end
end DL
set_option maxRecDepth 100000
set_option maxHeartbeats 4000000
namespace DL
open PySem PySem.Spec PyProof.Rows L2 LamX NdefX
/-! a lambda without arguments (or with one default) is made, held as a value -/
section
variable {M : Model} {A : Around} {E : Value → Shared → Prop} {s : Shared} {qual : Str} {params : Arguments} {body : Expr} {scope : Scope} {env : PySem.Env} {c P : Addr} {ps : Array Value} {pos : Pos} {firstLine : Nat} {mg : Str → Option Value} {clos : List (Str × Addr)} {dV : Value} {Q : Value → Shared → Prop}
theorem tail_new (hcl : closureFor scope env = pure clos) (hge0 : env.globals = mainGlobals) (hg : s.heap.Ns mainGlobals mg) (hcode : env.code = .ref c) (C : PySem.W.CodeHd s.heap c P) (hP : s.heap.get? P = some (PySem.W.tabObj ps)) (ht : TriplesOk ps.toList)
    (hnf : codeAmong pos ps.toList = none) (hgP : mainGlobals ≠ P) (hb : s.heap.BuiltinsAt mg P)
    (h : ∀ c' pm ctv h' tk, Heap.ExtBut P s.heap h' → s.heap.objs.size ≤ c' → c' < h'.objs.size → h'.CodeRec (.ref c') qual → h'.get? P = some (PySem.W.tabObj (ps ++ #[rawInt pos.line, rawInt pos.col, .ref c'])) →
      Q (.ref h'.objs.size) { s with heap := h'.push { cls := .type "function", data := .func (LF.fd ⟨qual, params, body, scope, clos, c'⟩ dV pm ctv) }, toks := tk }) :
    wpAny M A (makeTail "<lambda>" qual params (.expr body) scope env dV .none none pos firstLine) Q E s := by
  obtain ⟨bm, ob, hbm, hne0, _, hneP, hbo, hcls, hdict, hdata⟩ := hb
  unfold makeTail
  rw [hcl, hge0]
  refine wpAny_bind (wpAny_pure ?_)
  cases clos with
  | nil =>
    simp only [List.isEmpty_nil, if_true]
    refine wpAny_bind (wpAny_pure ?_)
    refine wpAny_bind (wpAny_functionCodeX hcode (C.code hP ht) (C.tab hP) hnf fun c' h' tk hx hge hlt _ hrec htb _ => ?_)
    have hg' := hg.extBut hx hgP
    refine wpAny_bind (wpAny_builtinsFor hg' hbm hne0 (hx _ _ hneP hbo) hcls hdict hdata ?_)
    refine wpAny_bind (wpAny_nsGet hg' ?_)
    exact wpAny_bind (wpAny_pure (wpAny_newObj_type (h c' _ .none h' tk hx hge hlt hrec htb.2) (by size_fits)))
  | cons q r =>
    simp only [List.isEmpty_cons, Bool.false_eq_true, if_false]
    refine wpAny_bind (wpAny_newTextTuple ?_)
    refine wpAny_bind (wpAny_functionCodeX hcode ((C.keeps fun b o e => Heap.get?_push_of_some _ e).code (Heap.get?_push_of_some _ hP) ht) ((C.keeps fun b o e => Heap.get?_push_of_some _ e).tab (Heap.get?_push_of_some _ hP)) hnf fun c' h' tk hx hge hlt _ hrec htb _ => ?_)
    have hg' := (hg.push _).extBut hx hgP
    have hx' : Heap.ExtBut P s.heap h' := fun b o hb' e => hx b o hb' (Heap.get?_push_of_some _ e)
    have hge' : s.heap.objs.size ≤ c' := Nat.le_trans (by rw [Heap.size_push]; omega) hge
    refine wpAny_bind (wpAny_builtinsFor hg' hbm hne0 (hx' _ _ hneP hbo) hcls hdict hdata ?_)
    refine wpAny_bind (wpAny_nsGet hg' ?_)
    exact wpAny_bind (wpAny_pure (wpAny_newObj_type (h c' _ _ h' tk hx' hge' hlt hrec htb.2) (by size_fits)))
theorem tail_hit {c' : Addr} (hcl : closureFor scope env = pure clos) (hge0 : env.globals = mainGlobals) (hg : s.heap.Ns mainGlobals mg) (hcode : env.code = .ref c) (C : PySem.W.CodeHd s.heap c P) (hP : s.heap.get? P = some (PySem.W.tabObj ps)) (ht : TriplesOk ps.toList)
    (hf : codeAmong pos ps.toList = some (.ref c')) (hb : s.heap.BuiltinsAt mg P)
    (h : ∀ (pm ctv : Value) (h' : Heap) (tk : Tok), (∀ b o, s.heap.get? b = some o → h'.get? b = some o) → s.heap.objs.size ≤ h'.objs.size →
      Q (.ref h'.objs.size) { s with heap := h'.push { cls := .type "function", data := .func (LF.fd ⟨qual, params, body, scope, clos, c'⟩ dV pm ctv) }, toks := tk }) :
    wpAny M A (makeTail "<lambda>" qual params (.expr body) scope env dV .none none pos firstLine) Q E s := by
  obtain ⟨bm, ob, hbm, hne0, _, hneP, hbo, hcls, hdict, hdata⟩ := hb
  unfold makeTail
  rw [hcl, hge0]
  refine wpAny_bind (wpAny_pure ?_)
  cases clos with
  | nil =>
    simp only [List.isEmpty_nil, if_true]
    refine wpAny_bind (wpAny_pure ?_)
    refine wpAny_bind (wpAny_functionCode_hit hcode (C.code hP ht) hf ?_)
    refine wpAny_bind (wpAny_builtinsFor hg hbm hne0 hbo hcls hdict hdata ?_)
    refine wpAny_bind (wpAny_nsGet hg ?_)
    exact wpAny_bind (wpAny_pure (wpAny_newObj_type (h _ .none s.heap s.toks (fun _ _ e => e) (Nat.le_refl _)) (by size_fits)))
  | cons q r =>
    simp only [List.isEmpty_cons, Bool.false_eq_true, if_false]
    refine wpAny_bind (wpAny_newTextTuple ?_)
    refine wpAny_bind (wpAny_functionCode_hit hcode ((C.keeps fun b o e => Heap.get?_push_of_some _ e).code (Heap.get?_push_of_some _ hP) ht) hf ?_)
    refine wpAny_bind (wpAny_builtinsFor (hg.push _) hbm hne0 (Heap.get?_push_of_some _ hbo) hcls hdict hdata ?_)
    refine wpAny_bind (wpAny_nsGet (hg.push _) ?_)
    have hsz : ∀ oT : Obj, s.heap.objs.size ≤ (s.heap.push oT).objs.size := fun oT => by rw [Heap.size_push]; omega
    exact wpAny_bind (wpAny_pure (wpAny_newObj_type (h _ _ _ s.toks (fun b o e => Heap.get?_push_of_some _ e) (hsz _)) (by size_fits)))
end
theorem TabM.sub {M : Addr → Prop} {H H' : Hp} {P : Addr} {q : Str} (t : TabM M H P q) (e : ∀ b o, H b = some o → H' b = some o) : TabM M H' P q := by
  obtain ⟨ps, h1, h2, h3⟩ := t
  exact ⟨ps, e _ _ h1, h2, fun pos cv hc => let ⟨c, e1, n, e2⟩ := h3 pos cv hc; ⟨c, e1, n, e _ _ e2⟩⟩
section
variable {X : Cx} {pins : List (Addr × Obj)} {σ : L2.St} {H : Hp} {s : Shared}
theorem lam_tail {M : Addr → Prop} {c P : Addr} {params : Arguments} {body : Expr} {scope : Scope} {q : Str} {dV : Value} {fl : Nat} {pos : Pos} {E : Value → Shared → Prop} {Q : Value → Shared → Prop} (I : Inv X pins σ H s) (TB : TabB X.base X.mg c P) (hcode : X.env.code = .ref c)
    (hT : TabM M H P q) (hM : ∀ c, H c = none → ¬ M c) (hfree : ∀ y ∈ scope.names, y.2 = .free → ∃ c, X.env.cells.lookup y.1 = some c)
    (h : ∀ (f c' : Addr) (H1 : Hp) (s' : Shared), Inv X pins σ H1 s' → (∀ b o, b ≠ P → H b = some o → H1 b = some o) → TabM M H1 P q → ¬ M f → H1 f = some (FnD f ⟨q, params, body, scope, cloFrom X.env.cells scope.names [], c'⟩ dV) → H1 c' = some (CodeO c' q) → ¬ M c' → Q (.ref f) s') :
    wpAny (model X.prog X.w) X.A (makeTail "<lambda>" q params (.expr body) scope X.env dV .none none pos fl) Q E s := by
  obtain ⟨ps, hP, ht, ha⟩ := id hT
  have bP : s.heap.BuiltinsAt X.mg P := TB.bm.keeps I.bk
  have hP' : s.heap.get? P = some { cls := .none, data := .fields ps } := I.hok P _ hP
  have fin : ∀ {H1 : Hp} {h' : Heap} {c' : Addr} {pm ctv : Value} {t1 tk : Nat}, Inv X pins σ H1 { s with heap := h', toks := t1 } → (∀ b, h'.objs.size ≤ b → H b = none) → (∀ b o, b ≠ P → H b = some o → H1 b = some o) → TabM M H1 P q → H1 c' = some (CodeO c' q) → ¬ M c' →
      Q (.ref h'.objs.size) { s with heap := h'.push { cls := .type "function", data := .func (LF.fd ⟨q, params, body, scope, cloFrom X.env.cells scope.names [], c'⟩ dV pm ctv) }, toks := tk } := fun {H1 h' c' pm ctv t1 tk} I1 hn hE T1 hc nc => by
    have n1 : H1 h'.objs.size = none := I1.hok.fresh (Nat.le_refl _)
    have I2 : Inv X pins σ (upd H1 h'.objs.size (FnD h'.objs.size ⟨q, params, body, scope, cloFrom X.env.cells scope.names [], c'⟩ dV)) { s with heap := h'.push { cls := .type "function", data := .func (LF.fd ⟨q, params, body, scope, cloFrom X.env.cells scope.names [], c'⟩ dV pm ctv) }, toks := tk } :=
      I1.laid (t' := tk) (a := h'.objs.size) (fun b o e => Heap.get?_push_of_some _ e) (Nat.le_refl _) ⟨⟨pm, ctv, Heap.get?_push_size _ rfl⟩, ⟨_, Heap.get?_push_size _ rfl⟩, fun h1 h2 ⟨pm, ctv, e⟩ k => ⟨pm, ctv, k _ e⟩⟩
    have sub : ∀ b o, H1 b = some o → upd H1 h'.objs.size (FnD h'.objs.size ⟨q, params, body, scope, cloFrom X.env.cells scope.names [], c'⟩ dV) b = some o := fun b o e => by rw [upd_ne (ne_of_none e n1)]; exact e
    exact h _ c' _ _ I2 (fun b o n e => sub b o (hE b o n e)) (T1.sub sub) (hM _ (hn _ (Nat.le_refl _))) upd_same (sub _ _ hc) nc
  cases hc : codeAmong pos ps.toList with
  | none =>
    refine tail_new (mg := X.mg) (c := c) (P := P) (ps := ps) (closure_ok hfree) I.ok.glob (I.mod.glob.keeps I.bk) hcode (TB.code.keeps I.bk) hP' ht hc TB.gP bP fun c' pm ctv h' tk hx hge hlt hrec htb => ?_
    obtain ⟨c2, oc, vs, t, e2, hoc, hd, hv⟩ := hrec
    cases e2
    have hsz : s.heap.objs.size ≤ h'.objs.size := Nat.le_trans hge (Nat.le_of_lt hlt)
    have nC : H c' = none := I.hok.fresh hge
    have I1 := inv_table (t' := tk) (q := q) (more := #[rawInt pos.line, rawInt pos.col, .ref c']) (h' := h') I hP hx htb hge ⟨oc, vs, t, hoc, hd, hv⟩
    have hE : ∀ b o, b ≠ P → H b = some o → (upd (upd H P (.tbl (ps ++ #[rawInt pos.line, rawInt pos.col, .ref c']))) c' (CodeO c' q)) b = some o := fun b o n e => by
      rw [upd_ne (ne_of_none e nC), upd_ne n]
      exact e
    have eL : (ps ++ #[rawInt pos.line, rawInt pos.col, .ref c']).toList = ps.toList ++ [rawInt pos.line, rawInt pos.col, .ref c'] := by simp
    refine fin I1 (fun b hb => I.hok.fresh (Nat.le_trans hsz hb)) hE ⟨_, by rw [upd_ne (ne_of_none hP nC), upd_same], by rw [eL]; exact PySem.TriplesOk_snoc _ _ _ _ ht, fun p' cv hcv => ?_⟩ upd_same (hM c' nC)
    rw [eL] at hcv
    rcases among_app _ ht hcv with z | z
    · obtain ⟨c0, e1, n0, e2⟩ := ha p' cv z
      exact ⟨c0, e1, n0, hE _ _ (fun z => codeO_ne ps (Option.some.inj (e2.symm.trans (by rw [z]; exact hP)))) e2⟩
    · exact ⟨c', z, hM c' nC, upd_same⟩
  | some cv =>
    obtain ⟨c', e, n', hco⟩ := ha pos cv hc
    subst e
    refine tail_hit (mg := X.mg) (c := c) (P := P) (ps := ps) (closure_ok hfree) I.ok.glob (I.mod.glob.keeps I.bk) hcode (TB.code.keeps I.bk) hP' ht hc bP fun pm ctv h' tk hx hsz => ?_
    have I1 : Inv X pins σ H { s with heap := h', toks := tk } := I.kept hx
    exact fin I1 (fun b hb => I.hok.fresh (Nat.le_trans hsz hb)) (fun _ _ _ e => e) hT hco n'
/-- the lambda is made; nd: no default, or one number -/
theorem lam_makeD {M : Addr → Prop} {c P : Addr} {params : Arguments} {body : Expr} {scope : Scope} {nd : Nat} {pos : Pos} {E : Value → Shared → Prop} {Q : Value → Shared → Prop} (I : Inv X pins σ H s) (TB : TabB X.base X.mg c P) (hcode : X.env.code = .ref c)
    (hT : TabM M H P (X.env.qual ++ "<lambda>")) (hM : ∀ c, H c = none → ¬ M c) (hdef : (nd = 0 ∧ defaultsOf params X.env = ([], [])) ∨ (nd = 1 ∧ ∃ i j p, defaultsOf params X.env = ([eval (.Constant (.int i) j p) X.env], [])))
    (hfree : ∀ y ∈ scope.names, y.2 = .free → ∃ c, X.env.cells.lookup y.1 = some c)
    (h : ∀ (f c' : Addr) (dV : Value) (H1 : Hp) (s' : Shared), Inv X pins σ H1 s' → (∀ b o, b ≠ P → H b = some o → H1 b = some o) → TabM M H1 P (X.env.qual ++ "<lambda>") → ¬ M f → H1 f = some (FnD f ⟨X.env.qual ++ "<lambda>", params, body, scope, cloFrom X.env.cells scope.names [], c'⟩ dV) →
      DflN H1 dV nd → H1 c' = some (CodeO c' (X.env.qual ++ "<lambda>")) → ¬ M c' → Q (.ref f) s') :
    wpAny (model X.prog X.w) X.A (eval (.Lambda params body scope pos) X.env) Q E s := by
  rw [arm_eval_Lambda]
  rcases hdef with ⟨rfl, hdef⟩ | ⟨rfl, i, j, p, hdef⟩
  · rw [hdef]
    show wpAny _ _ (do let dv ← evalAll []; let kdv ← holding dv (evalAllOpt []); makeFunction "<lambda>" (X.env.qual ++ "<lambda>") params (.expr body) scope X.env dv kdv [] pos pos.line) Q E s
    refine wpAny_bind (wpAny_pure (wpAny_bind (wpAny_holding (wpAny_pure ?_))))
    rw [makeFunction_eq]
    simp only [List.zip_nil_right, List.filterMap_nil, List.isEmpty_nil, if_true, pure_bind]
    exact lam_tail I TB hcode hT hM hfree fun f c' H1 s' I1 hE T1 nf hf hc nc => h f c' .none H1 s' I1 hE T1 nf hf (.inl ⟨rfl, rfl⟩) hc nc
  · rw [hdef]
    show wpAny _ _ (do let dv ← evalAll [eval (.Constant (.int i) j p) X.env]; let kdv ← holding dv (evalAllOpt []); makeFunction "<lambda>" (X.env.qual ++ "<lambda>") params (.expr body) scope X.env dv kdv [] pos pos.line) Q E s
    refine wpAny_bind (wpAny_evalAll_cons (thn ((pe_int (i := i) (j := j) (pos := p)).run pins s σ H (fun v H1 => v = .int i ∧ H1 = H) I ⟨rfl, rfl⟩) fun u s1 ⟨v, H1, I1, r1, ev, eH⟩ => wpAny_evalAll_nil ?_))
    subst ev eH
    refine wpAny_bind (wpAny_holding (wpAny_pure ?_))
    rw [makeFunction_eq]
    simp only [List.zip_nil_right, List.filterMap_nil, List.isEmpty_nil, List.isEmpty_cons, Bool.false_eq_true, if_false, if_true, pure_bind]
    refine wpAny_bind (wpAny_newTextTuple ?_)
    have nT : H1 s1.heap.objs.size = none := I1.hok.fresh (Nat.le_refl _)
    have I2 : Inv X pins σ (upd H1 s1.heap.objs.size (.tup [.int i])) { s1 with heap := s1.heap.push { cls := .type "tuple", data := .seq [u].toArray } } :=
      I1.laid (t' := s1.toks) (a := s1.heap.objs.size) (fun b o e => Heap.get?_push_of_some _ e) (Nat.le_refl _) ⟨by rw [sizeLine_eq]; show 1 ≤ 16777216; decide, [u], .cons r1 .nil, _, Heap.get?_push_size _ rfl, rfl, 0, rfl⟩
    have sub : ∀ b o, H1 b = some o → upd H1 s1.heap.objs.size (.tup [.int i]) b = some o := fun b o e => by rw [upd_ne (ne_of_none e nT)]; exact e
    have nP : ∀ {b : Addr}, b ≠ P → True := fun _ => True.intro
    obtain ⟨ps, hP, _⟩ := id hT
    refine lam_tail I2 TB hcode (hT.sub sub) (fun b hb => hM b ?_) hfree fun f c' H3 s' I3 hE T3 nf hf hc nc => ?_
    · cases e : H1 b with
      | none => rfl
      | some o => rw [sub b o e] at hb; cases hb
    · exact h f c' _ H3 s' I3 (fun b o n e => hE b o n (sub b o e)) T3 nf hf (.inr ⟨_, _, rfl, hE _ _ (Ne.symm (ne_of_none hP nT)) upd_same, rfl⟩) hc nc
end
/-! ### over trees -/
def wLam (T : Addr) (F : Addr → LF) (q : Str) (nd : Nat) : DW := fun _ S P _ => (∃ i : Nat, S[i]? = some (D.tb T q)) ∧ ∀ c', P (.fn (F c') nd []) S
theorem wLam_ap {T : Addr} {F : Addr → LF} {q : Str} {nd : Nat} {ρ : Loc} {S : Sto} {P : DK} {E : Ex} : wLam T F q nd ρ S P E = ((∃ i : Nat, S[i]? = some (D.tb T q)) ∧ ∀ c', P (.fn (F c') nd []) S) := rfl
theorem de_lam {X : Cx} {W : WX} {c T : Addr} {q : Str} {F : Addr → LF} {params : Arguments} {body : Expr} {scope : Scope} {nd : Nat} {pos : Pos} (TB : TabB X.base X.mg c T) (hcode : X.env.code = .ref c) (hq : X.env.qual ++ "<lambda>" = q) (hF : ∀ c', F c' = ⟨q, params, body, scope, cloFrom X.env.cells scope.names [], c'⟩)
    (hdef : (nd = 0 ∧ defaultsOf params X.env = ([], [])) ∨ (nd = 1 ∧ ∃ i j p, defaultsOf params X.env = ([eval (.Constant (.int i) j p) X.env], [])))
    (hfree : ∀ y ∈ scope.names, y.2 = .free → X.env.scope.names.lookup y.1 = some .cell ∨ X.env.scope.names.lookup y.1 = some .free) : DE X W (.Lambda params body scope pos) (wLam T F q nd) := by
  subst hq
  refine ⟨fun σ H Q => ∃ M : Addr → Prop, TabM M H T (X.env.qual ++ "<lambda>") ∧ (∀ c, H c = none → ¬ M c) ∧ ∀ f c' dV H1, (∀ b o, b ≠ T → H b = some o → H1 b = some o) → TabM M H1 T (X.env.qual ++ "<lambda>") → ¬ M f → H1 f = some (FnD f (F c') dV) → DflN H1 dV nd → H1 (F c').c = some (CodeO (F c').c (F c').qual) → ¬ M (F c').c → Q (.ref f) H1,
    ⟨fun pins s σ H Q I h => ?_⟩, ⟨fun M mu σ ρ S H P E Q ok en hw n xx => ?_⟩⟩
  · obtain ⟨M, hT, hM, h⟩ := h
    refine lam_makeD I TB hcode hT hM hdef (fun y hy e => (hfree y hy e).elim (fun z => I.ok.has _ (.inl z)) fun z => I.ok.has _ (.inr z)) fun f c' dV H1 s' I1 hE T1 nf hf hd hc nc => ?_
    rw [← hF c'] at hf
    have ec : (F c').c = c' := by rw [hF c']
    have eq : (F c').qual = X.env.qual ++ "<lambda>" := by rw [hF c']
    exact ⟨.ref f, H1, I1, rfl, h f c' dV H1 hE T1 nf hf hd (by rw [ec, eq]; exact hc) (by rw [ec]; exact nc)⟩
  · obtain ⟨⟨i, hi⟩, h⟩ := hw
    have hil : i < mu.length := by rw [← ok.len]; exact (List.getElem?_eq_some_iff.mp hi).1
    obtain ⟨e0, ht⟩ : mu[i] = T ∧ TabM M H T (X.env.qual ++ "<lambda>") := ok.at_ i mu[i] _ (List.getElem?_eq_getElem hil) hi
    have hTm : T ∈ mu := by rw [← e0]; exact List.getElem_mem hil
    refine ⟨M, ht, fun c hc m => ok.tr c m hc, fun f c' dV H1 hE T1 nf hf hd hc nc => ?_⟩
    have k1 : Keep mu H H1 := fun b o hb nb => by
      by_cases hbT : b = T
      · obtain ⟨ps, hP, _⟩ := ht
        rw [hbT, hP] at hb
        cases hb
        rcases nb with nb | nb
        · exact absurd (hbT ▸ hTm) nb
        · rcases nb with ⟨od, u, z⟩ | ⟨xs, z⟩ <;> cases z
      · exact hE b o hbT hb
    have ok1 : Wok X.K M mu H1 S := by
      have ex := (Ext.of ok.sub k1).toExt0
      refine ⟨ok.len, ok.sub, ok.nd, fun b m => ?_, fun i' b d' h1' h2' => ?_⟩
      · by_cases hbT : b = T
        · obtain ⟨ps, hP, _⟩ := T1
          rw [hbT, hP]; simp
        · cases e : H b with
          | none => exact absurd e (ok.tr b m)
          | some o => rw [hE b o hbT e]; simp
      · have cl := ok.at_ i' b d' h1' h2'
        by_cases hbT : b = T
        · have ei : i' = i := nd_ix ok.nd (by rw [h1', hbT]) (by rw [List.getElem?_eq_getElem hil, e0])
          subst ei
          rw [hi] at h2'
          cases h2'
          exact ⟨hbT, T1⟩
        · cases d' with
          | lst ds => obtain ⟨vs, h1, h2⟩ := cl; exact ⟨vs, hE _ _ hbT h1, Rs.mono ex ds vs h2⟩
          | dk kvs => obtain ⟨es, h1, h2, h3⟩ := cl; exact ⟨es, hE _ _ hbT h1, h2, Rk.mono ex kvs _ h3⟩
          | dt kvs => obtain ⟨es, h1, h2, h3⟩ := cl; exact ⟨es, hE _ _ hbT h1, h2, Rt.mono ex kvs _ h3⟩
          | obj C fs => obtain ⟨dx, gs, h1, h2, h3⟩ := cl; exact ⟨dx, gs, hE _ _ hbT h1, h2, Rfs.mono ex fs _ h3⟩
          | tb P2 q2 =>
            obtain ⟨h0, ps, h1, h2, h3⟩ := cl
            exact ⟨h0, ps, hE P2 _ (fun z => hbT (h0.trans z)) h1, h2, fun pos cv hcv => let ⟨c, e1, n, e2⟩ := h3 pos cv hcv; ⟨c, e1, (ex.okM n e2).1, (ex.okM n e2).2⟩⟩
          | non => exact True.intro
          | _ => exact cl
    exact n (.ref f) H1 (.fn (F c') nd []) S k1 ok1 ⟨f, dV, [], rfl, nf, hf, nc, hc, hd, fun i v h => by simp at h, rfl⟩ (h c')
end DL
set_option maxRecDepth 100000
set_option maxHeartbeats 4000000
namespace DL
open PySem PySem.Spec PyProof.Rows L2 LamX NdefX
/-! f(.., lambdas of this frame): the frame's own cells are tracked for the call -/
/-- a function of this frame, with what its cells hold now -/
def AdF (N : List Str) (cells : List (Str × Addr)) (ρ : Loc) (d d' : D) : Prop := d = d' ∨ ∃ F nd ws, d = .fn F nd [] ∧ d' = .fn F nd ws ∧ ∀ (i : Nat) w, ws[i]? = some w → ∃ (y : Str) (c : Addr) (j : Nat), F.cl[i]? = some (y, c) ∧ cells.lookup y = some c ∧ N[j]? = some y ∧ ρ[j]? = some (some w)
def AdL (N : List Str) (cells : List (Str × Addr)) (ρ : Loc) : List D → List D → Prop
  | [], [] => True
  | d :: ds, d' :: ds' => AdF N cells ρ d d' ∧ AdL N cells ρ ds ds'
  | _, _ => False
/-- .. or a list of such -/
def Ad1 (N : List Str) (cells : List (Str × Addr)) (ρ : Loc) (d d' : D) : Prop := AdF N cells ρ d d' ∨ ∃ ds ds', d = .lst ds ∧ d' = .lst ds' ∧ AdL N cells ρ ds ds'
def wCalA (N : List Str) (cells : List (Str × Addr)) (sp : DSp) (we : DW) : DW := fun ρ S P E => we ρ S (fun d S1 => ∃ d', Ad1 N cells ρ d d' ∧ sp [d'] S1 (fun x S2 => nofn x = true ∧ S2.all nofn = true ∧ P x S2) EF) E
theorem wCalA_ap {N : List Str} {cells : List (Str × Addr)} {sp : DSp} {we : DW} {ρ : Loc} {S : Sto} {P : DK} {E : Ex} : wCalA N cells sp we ρ S P E = we ρ S (fun d S1 => ∃ d', Ad1 N cells ρ d d' ∧ sp [d'] S1 (fun x S2 => nofn x = true ∧ S2.all nofn = true ∧ P x S2) EF) E := rfl
open Classical in
/-- the frame's cells, tracked as they are -/
noncomputable def adopt (cells : List (Str × Addr)) (h : Heap) (H : Hp) : Hp := fun b => if ∃ y, cells.lookup y = some b then (h.get? b).map exC else H b
open Classical in
noncomputable def unadopt (cells : List (Str × Addr)) (H2 : Hp) : Hp := fun b => if ∃ y, cells.lookup y = some b then none else H2 b
section
variable {cells : List (Str × Addr)} {h : Heap} {H : Hp} {b : Addr}
theorem adopt_in {y : Str} (e : cells.lookup y = some b) : adopt cells h H b = (h.get? b).map exC := if_pos ⟨y, e⟩
theorem adopt_out (n : ∀ y, cells.lookup y ≠ some b) : adopt cells h H b = H b := if_neg fun ⟨y, e⟩ => n y e
theorem unadopt_in {y : Str} (e : cells.lookup y = some b) : unadopt cells H b = none := if_pos ⟨y, e⟩
theorem unadopt_out (n : ∀ y, cells.lookup y ≠ some b) : unadopt cells H b = H b := if_neg fun ⟨y, e⟩ => n y e
end
section
variable {X : Cx} {pins : List (Addr × Obj)} {σ : L2.St} {H : Hp} {s : Shared}
theorem own_out (I : Inv X pins σ H s) {b : Addr} {o : HO} (e : H b = some o) : ∀ y, X.env.cells.lookup y ≠ some b := fun y z => by
  rw [I.freeC y b z] at e
  cases e
theorem own_frs (I : Inv X pins σ H s) (hfn : ∀ y, X.fn y = true) {y : Str} {c : Addr} (z : X.env.cells.lookup y = some c) : c ∉ frs X.stack := fun m => by
  rcases List.mem_cons.mp (I.stkSub c m) with e | m
  · exact I.cne y c z e
  · obtain ⟨_, o, e, _⟩ := I.ok.funs.mem m
    exact absurd (Nat.lt_of_lt_of_le (Heap.lt_size e) (I.ok.cab y c (hfn y) z)) (Nat.lt_irrefl _)
theorem adopt_env0 (I : Inv X pins σ H s) (hfn : ∀ y, X.fn y = true) : Env0 X.prog X.w X.K X.mg X.base X.A X.stack s (adopt X.env.cells s.heap H) := by
  have e0 := I.env0
  refine ⟨e0.frames, e0.mod, fun b o q => ⟨(e0.bs b o q).1, ?_⟩, e0.bsz, e0.funs, fun b hb => ?_, fun b o e => ?_, e0.bare⟩
  · rw [adopt_out fun y z => ?_]
    · exact (e0.bs b o q).2
    · exact absurd (Nat.lt_of_lt_of_le (Heap.lt_size q) (Nat.le_trans I.ok.bsz (I.ok.cab y b (hfn y) z))) (Nat.lt_irrefl _)
  · rw [adopt_out fun y z => own_frs I hfn z hb]
    exact e0.frf b hb
  · by_cases hb : ∃ y, X.env.cells.lookup y = some b
    · obtain ⟨y, hy⟩ := hb
      rw [adopt_in hy] at e
      obtain ⟨ob, e1, rfl⟩ := Option.map_eq_some_iff.mp e
      exact ⟨e1, ob, e1⟩
    · have nb : ∀ y, X.env.cells.lookup y ≠ some b := fun y z => hb ⟨y, z⟩
      rw [adopt_out nb] at e
      exact (I.hok b o e).stay (fun _ _ _ z => z) (fun c q => by rw [adopt_out (own_out I q)]; exact q) fun c xs q => by rw [adopt_out (own_out I q)]; exact q
theorem adopt_after {Q : VK} {u : Value} {s' : Shared} (I : Inv X pins σ H s) (hfn : ∀ y, X.fn y = true) (h : CE X.stack X.prog X.w (adopt X.env.cells s.heap H) s (fun v H2 => (∀ y c, X.env.cells.lookup y = some c → ∃ o, H2 c = some (exC o)) → Q v (unadopt X.env.cells H2)) u s') : CE X.stack X.prog X.w H s Q u s' := by
  obtain ⟨v, H2, os, bare, un, hok, rv, q⟩ := h
  have at_ : ∀ y c, X.env.cells.lookup y = some c → ∃ o, s.heap.get? c = some o ∧ H2 c = some (exC o) ∧ s'.heap.get? c = some o := fun y c z => by
    obtain ⟨w', o, ho, _⟩ := I.cell y c z
    have e1 : adopt X.env.cells s.heap H c = some (exC o) := by rw [adopt_in z, ho]; rfl
    have e2 : H2 c = some (exC o) := un.frzs c _ _ e1
    obtain ⟨e3, _⟩ : s'.heap.get? c = some o ∧ ∃ o, s'.heap.get? c = some o := hok c _ e2
    exact ⟨o, ho, e2, e3⟩
  have outN : ∀ {b : Addr}, (¬ ∃ y, X.env.cells.lookup y = some b) → ∀ y, X.env.cells.lookup y ≠ some b := fun {b} h y z => h ⟨y, z⟩
  refine ⟨v, unadopt X.env.cells H2, os, bare, ⟨fun b o e n hf hx => ?_, fun b o e n hf hx => ?_, fun b o e n hx => ?_, un.there, fun b xs e => ?_, fun b o xs e => ?_, fun b ps e => ?_⟩, fun b o e => ?_, rv, q fun y c z => let ⟨o, _, e2, _⟩ := at_ y c z; ⟨o, e2⟩⟩
  · by_cases hb : ∃ y, X.env.cells.lookup y = some b
    · obtain ⟨y, hy⟩ := hb
      obtain ⟨o', e1, _, e3⟩ := at_ y b hy
      rw [e] at e1
      cases e1
      exact e3
    · exact un.keep b o e (by rw [adopt_out (outN hb)]; exact n) hf hx
  · exact un.slot b o e (by rw [adopt_out fun y z => own_frs I hfn z hf]; exact n) hf hx
  · by_cases hb : ∃ y, X.env.cells.lookup y = some b
    · obtain ⟨y, hy⟩ := hb
      exact unadopt_in hy
    · rw [unadopt_out (outN hb)]
      exact un.free b o e (by rw [adopt_out (outN hb)]; exact n) hx
  · have nb := own_out I e
    rw [unadopt_out nb]
    exact un.tups b xs (by rw [adopt_out nb]; exact e)
  · have nb := own_out I e
    rw [unadopt_out nb]
    exact un.frzs b o xs (by rw [adopt_out nb]; exact e)
  · have nb := own_out I e
    rw [unadopt_out nb]
    exact un.tbls b ps (by rw [adopt_out nb]; exact e)
  · by_cases hb : ∃ y, X.env.cells.lookup y = some b
    · obtain ⟨y, hy⟩ := hb
      rw [unadopt_in hy] at e
      cases e
    · rw [unadopt_out (outN hb)] at e
      have out : ∀ {c : Addr} {o' : HO}, H2 c = some o' → (∀ ob, o' ≠ exC ob) → ∀ y, X.env.cells.lookup y ≠ some c := fun {c o'} q no y z => by
        obtain ⟨o2, _, e2, _⟩ := at_ y c z
        rw [q] at e2
        exact no o2 (Option.some.inj e2)
      exact (hok b o e).stay (fun _ _ _ z => z) (fun c q => by rw [unadopt_out (out q fun _ z => by cases z)]; exact q) fun c xs q => by rw [unadopt_out (out q fun _ z => by cases z)]; exact q
end
section
variable {K : PySem.W.Frag} {M : Addr → Prop} {mu : List Addr} {H H' : Hp} {N : List Str} {cells : List (Str × Addr)} {ρ : Loc}
theorem adF_R (sub : ∀ b o, H b = some o → H' b = some o) (hv : ∀ (j : Nat) y c w, N[j]? = some y → cells.lookup y = some c → ρ[j]? = some (some w) → ∃ v o u, R K M mu H w v ∧ ¬ M c ∧ H' c = some (exC o) ∧ o.data = .cell (some u) ∧ RelV v u)
    {d d' : D} {v : V} (a : AdF N cells ρ d d') (r : R K M mu H d v) : R K M mu H' d' v := by
  rcases a with rfl | ⟨F, nd, ws, rfl, rfl, hw⟩
  · exact R.mono (ext0_sub sub) _ _ r
  · obtain ⟨f, dV, vals, rfl, h1, h2, h3, h4, h5, _, _⟩ := r
    have key : ∀ l : List D, (∀ w, w ∈ l → ∃ (y : Str) (c : Addr) (j : Nat), cells.lookup y = some c ∧ N[j]? = some y ∧ ρ[j]? = some (some w)) → ∃ vals, Rs K M mu H l vals := fun l => by
      induction l with
      | nil => exact fun _ => ⟨[], rfl⟩
      | cons d l ih =>
        intro hl
        obtain ⟨y, c, j, e1, e2, e3⟩ := hl d List.mem_cons_self
        obtain ⟨v, o, u, hr, _⟩ := hv j y c d e2 e1 e3
        obtain ⟨vals, hrs⟩ := ih fun w h => hl w (List.mem_cons_of_mem _ h)
        exact ⟨v :: vals, v, vals, rfl, hr, hrs⟩
    have pick : ∀ i : Nat, ∃ v : V, ∀ w, ws[i]? = some w → ∃ (y : Str) (c : Addr) (o : Obj) (u : Value), F.cl[i]? = some (y, c) ∧ R K M mu H w v ∧ ¬ M c ∧ H' c = some (exC o) ∧ o.data = .cell (some u) ∧ RelV v u := fun i => by
      cases e : ws[i]? with
      | none => exact ⟨.non, fun w h => by cases h⟩
      | some w =>
        obtain ⟨y, c, j, e0, e1, e2, e3⟩ := hw i w e
        obtain ⟨v, o, u, a1, a2, a3, a4, a5⟩ := hv j y c w e2 e1 e3
        exact ⟨v, fun w' h => by
          obtain rfl := Option.some.inj h
          exact ⟨y, c, o, u, e0, a1, a2, a3, a4, a5⟩⟩
    have rs_of' : ∀ (l : List D) (g : Nat → V), (∀ (i : Nat) w, l[i]? = some w → R K M mu H w (g i)) → Rs K M mu H l ((List.range l.length).map g) := fun l => by
      induction l with
      | nil => exact fun _ _ => rfl
      | cons d l ih =>
        intro g hg
        refine ⟨g 0, (List.range l.length).map fun i => g (i + 1), ?_, hg 0 d rfl, ih _ fun i w h => hg (i + 1) w (by simpa using h)⟩
        rw [List.length_cons, List.range_succ_eq_map, List.map_cons, List.map_map]
        rfl
    let g : Nat → V := fun i => (pick i).choose
    have hg : ∀ (i : Nat) w, ws[i]? = some w → ∃ (y : Str) (c : Addr) (o : Obj) (u : Value), F.cl[i]? = some (y, c) ∧ R K M mu H w (g i) ∧ ¬ M c ∧ H' c = some (exC o) ∧ o.data = .cell (some u) ∧ RelV (g i) u := fun i => (pick i).choose_spec
    have hrs : Rs K M mu H ws ((List.range ws.length).map g) := rs_of' ws g fun i w h => let ⟨_, _, _, _, _, q, _⟩ := hg i w h; q
    refine ⟨f, dV, (List.range ws.length).map g, rfl, h1, sub _ _ h2, h3, sub _ _ h4, h5.imp id fun ⟨T, vs, q1, q2, q3⟩ => ⟨T, vs, q1, sub _ _ q2, q3⟩, fun i v hi => ?_, Rs.mono (ext0_sub sub) _ _ hrs⟩
    rw [List.getElem?_map] at hi
    obtain ⟨i', hi', rfl⟩ := Option.map_eq_some_iff.mp hi
    obtain ⟨hlt, rfl⟩ := List.getElem?_eq_some_iff.mp hi'
    rw [List.length_range] at hlt
    rw [List.getElem_range]
    obtain ⟨y, c, o, u, e0, _, e2, e3, e4, e5⟩ := hg i _ (List.getElem?_eq_getElem hlt)
    exact ⟨y, c, o, u, e0, e2, e3, e4, e5⟩
theorem adL_R (sub : ∀ b o, H b = some o → H' b = some o) (hv : ∀ (j : Nat) y c w, N[j]? = some y → cells.lookup y = some c → ρ[j]? = some (some w) → ∃ v o u, R K M mu H w v ∧ ¬ M c ∧ H' c = some (exC o) ∧ o.data = .cell (some u) ∧ RelV v u) :
    ∀ {ds ds' : List D} {vs : List V}, AdL N cells ρ ds ds' → Rs K M mu H ds vs → Rs K M mu H' ds' vs
  | [], [], _, _, r => r
  | d :: ds, d' :: ds', _, ⟨a, b⟩, ⟨v, r, e, h1, h2⟩ => ⟨v, r, e, adF_R sub hv a h1, adL_R sub hv b h2⟩
  | [], _ :: _, _, a, _ => a.elim
  | _ :: _, [], _, a, _ => a.elim
theorem ad1_R (sub : ∀ b o, H b = some o → H' b = some o) (hv : ∀ (j : Nat) y c w, N[j]? = some y → cells.lookup y = some c → ρ[j]? = some (some w) → ∃ v o u, R K M mu H w v ∧ ¬ M c ∧ H' c = some (exC o) ∧ o.data = .cell (some u) ∧ RelV v u)
    {d d' : D} {v : V} (a : Ad1 N cells ρ d d') (r : R K M mu H d v) : R K M mu H' d' v := by
  rcases a with a | ⟨ds, ds', rfl, rfl, a⟩
  · exact adF_R sub hv a r
  · obtain ⟨x, vs, rfl, h1, h2, h3⟩ := r
    exact ⟨x, vs, rfl, h1, sub _ _ h2, adL_R sub hv a h3⟩
end
end DL
set_option maxRecDepth 100000
set_option maxHeartbeats 4000000
namespace DL
open PySem PySem.Spec PyProof.Rows L2 LamX NdefX
/-! .. the rule -/
/-- what the frame knows of its cells in the state with the heap h -/
def CellF (N : List Str) (cells : List (Str × Addr)) (σ : L2.St) (H : Hp) (h : Heap) : Prop := ∀ y c, cells.lookup y = some c → H c = none ∧ ∃ o, h.get? c = some o ∧ ∀ (j : Nat) v, N[j]? = some y → σ[j]? = some (some v) → ∃ u, o.data = .cell (some u) ∧ RelV v u
section
variable {X : Cx} {W : WX} {cells : List (Str × Addr)} {N : List Str} {j k : Nat} {ps : List Str} {sp : DSp} {x : Str} {e : Expr} {we : DW} {p pos : Pos}
theorem cellF_of {pins : List (Addr × Obj)} {σ : L2.St} {H : Hp} {s : Shared} (I : Inv X pins σ H s) (hk : ∀ y c, X.env.cells.lookup y = some c → X.env.kindOf y = some .cell) : CellF X.N X.env.cells σ H s.heap := fun y c z => by
  obtain ⟨w', o, ho, hd⟩ := I.cell y c z
  refine ⟨I.freeC y c z, o, ho, fun j v e1 e2 => ?_⟩
  obtain ⟨m, hn, hl⟩ := I.loc
  obtain ⟨u, ru, q⟩ := hl j y v e1 e2 (.inr (.inl (hk y c z)))
  rcases q with ⟨k', _⟩ | ⟨_, c', e', o', ho', hd'⟩
  · rw [hk y c z] at k'; cases k'
  · rw [z] at e'
    cases e'
    rw [ho] at ho'
    cases ho'
    exact ⟨u, hd', ru⟩
theorem de_calA (c : Cal X.prog X.w X.K X.mg X.base (L2.CX X.prog X.w) j x ps sp) (hr : Room k X.A) (he : DE X W e we) (hfn : ∀ y, X.fn y = true) (hcl : X.env.cells = cells) (hN : X.N = N) (hkc : ∀ y c, X.env.cells.lookup y = some c → X.env.kindOf y = some .cell)
    (hjk : j ≤ k := by first | decide | exact Nat.le_refl _ | omega) (hg : Gl X x := by rfl) (hdb : (x == ("__debug__" : Str)) = false := by decide) (hst : starEach [e] X.env = (false, eval e X.env) :: starEach [] X.env := by rfl) (hpl : (backTo pos (starEach [] X.env)).any (·.1) = false := by rfl) :
    DE X W (.Call (.Name x p) [e] [] pos) (wCalA N cells sp we) := by
  subst hcl hN
  obtain ⟨f, fd, c⟩ := c
  obtain ⟨te, pe, re⟩ := he.ex
  refine ⟨fun σ H Q => te σ H fun v H1 => ∀ h : Heap, CellF X.N X.env.cells σ H1 h → toSp X.K sp [v] (adopt X.env.cells h H1) (fun v' H2 => (∀ y c, X.env.cells.lookup y = some c → ∃ o, H2 c = some (exC o)) → Q v' (unadopt X.env.cells H2)) fun _ _ _ => False,
    ⟨fun pins s σ H Q I h => ?_⟩, ⟨fun M mu σ ρ S H P E Q ok en hw n xx => ?_⟩⟩
  · refine wpAny_Call_Name_kw (ld_glob I hg c.mg ?_ hdb)
    refine PySem.W.callWith_K (h₀ := X.base) I.ok.mod.kin c.kp ?_ hst hpl
    have pa : PA X [e] (tCons te tNil) := pa_cons pe pa_nil hst
    refine thn (pa.run pos pins s σ H (fun vs H1 => match vs with
      | [v] => ∀ h : Heap, CellF X.N X.env.cells σ H1 h → toSp X.K sp [v] (adopt X.env.cells h H1) (fun v' H2 => (∀ y c, X.env.cells.lookup y = some c → ∃ o, H2 c = some (exC o)) → Q v' (unadopt X.env.cells H2)) fun _ _ _ => False
      | _ => False) I ?_) fun us s1 hh => ?_
    · exact h
    · obtain ⟨vs, H1, I1, r1, q⟩ := hh
      obtain ⟨v, rfl, q⟩ : ∃ v, vs = [v] ∧ ∀ h : Heap, CellF X.N X.env.cells σ H1 h → toSp X.K sp [v] (adopt X.env.cells h H1) (fun v' H2 => (∀ y c, X.env.cells.lookup y = some c → ∃ o, H2 c = some (exC o)) → Q v' (unadopt X.env.cells H2)) fun _ _ _ => False := by
        match vs, q with
        | [v], q => exact ⟨v, rfl, q⟩
      refine ⟨I1.kIn, ?_⟩
      have q1 := q s1.heap (cellF_of I1 hkc)
      have hl : us.length = ps.length := by rw [← r1.length]; exact c.ok.len _ _ _ _ q1
      have hb := c.b s1 us I1.kIn (by rw [List.append_nil]; exact hl)
      rw [List.append_nil] at hb
      refine wpAny_call (codeAny_mono (c.ok.run X.A X.stack s1 _ ⟨us, []⟩ us [v] _ _ (hr.mono hjk) (adopt_env0 I1 hfn) hb r1 q1) fun r s' hq => ?_)
      cases r with
      | error e =>
        obtain ⟨_, _, _, _, _, _, _, _, _, _, _, _, z⟩ := (show L2.CX X.prog X.w X.stack _ s1 _ e s' from hq)
        exact z.elim
      | ok fl =>
        cases fl with
        | ret u => exact I1.after (adopt_after I1 hfn hq)
        | next => exact False.elim hq
        | brk => exact False.elim hq
        | cont => exact False.elim hq
  · refine re.run M mu σ ρ S H _ E _ ok en hw (fun v H1 d S1 k1 ok1 r1 h1 h cf => ?_) xx
    obtain ⟨d', ad, hsp⟩ := h1
    have out : ∀ {b : Addr} {o : HO}, H1 b = some o → ∀ y, X.env.cells.lookup y ≠ some b := fun {b o} hb y z => by
      rw [(cf y b z).1] at hb
      cases hb
    have sub : ∀ b o, H1 b = some o → adopt X.env.cells h H1 b = some o := fun b o hb => by rw [adopt_out (out hb)]; exact hb
    have en1 := en.keep ok k1
    have hv : ∀ (j : Nat) y c w, X.N[j]? = some y → X.env.cells.lookup y = some c → ρ[j]? = some (some w) → ∃ v o u, R X.K M mu H1 w v ∧ ¬ M c ∧ adopt X.env.cells h H1 c = some (exC o) ∧ o.data = .cell (some u) ∧ RelV v u := fun j y c w e1 e2 e3 => by
      obtain ⟨v, hσ, hr⟩ := en1.get j w e3
      obtain ⟨hn, o, ho, hj⟩ := cf y c e2
      obtain ⟨u, hd, ru⟩ := hj j v e1 hσ
      exact ⟨v, o, u, hr, fun m => ok1.tr c m hn, by rw [adopt_in e2, ho]; rfl, hd, ru⟩
    refine ⟨M, mu, S1, [d'], _, EF, ok1.grow sub, ⟨v, [], rfl, ad1_R sub hv ad r1, rfl⟩, hsp, fun v' H2 x2 S2 k2 ok2 r2 p2 hx => ?_, fun _ _ _ _ _ _ _ _ _ q => q.elim⟩
    obtain ⟨nx, nS, p2⟩ := p2
    have kc : KeepC H2 (unadopt X.env.cells H2) := fun b o hb no => by
      rw [unadopt_out fun y z => ?_]
      · exact hb
      · obtain ⟨ob, q⟩ := hx y b z
        rw [hb] at q
        exact no ob (Option.some.inj q)
    have outM : ∀ b, M b → ∀ y, X.env.cells.lookup y ≠ some b := fun b m y z => ok1.tr b m (cf y b z).1
    refine n v' _ x2 S2 (k1.trans fun b o hb nb => ?_) (ok2.strip kc (fun b m => by rw [unadopt_out (outM b m)]; exact ok2.tr b m) nS) (R.strip kc _ _ nx r2) p2
    rw [unadopt_out (out hb)]
    exact k2 b o (sub b o hb) nb
end
end DL
set_option maxRecDepth 100000
set_option maxHeartbeats 2000000
namespace DL
open PySem PySem.Spec PyProof.Rows L2 LamX NdefX
/-! a def that raises nothing is one that may raise -/
theorem cr_up {P : Program} {w : World} {outer : List PySem.Env} {H : Hp} {s : Shared} {Q : VK} {E : XK} {r : Result} {s' : Shared} (h : CR CX0 outer P w H s Q E r s') : CR (L2.CX P w) outer P w H s Q E r s' := by
  cases r with
  | error e => exact False.elim h
  | ok fl =>
    cases fl with
    | ret u => exact h
    | next => exact False.elim h
    | brk => exact False.elim h
    | cont => exact False.elim h
section
variable {P : Program} {w : World} {K : PySem.W.Frag} {mg : Str → Option Value} {base : Heap} {k : Nat} {x : Str} {ps ks : List Str} {sp : DSp}
theorem fnOk_up {f : Addr} {fd : FuncData} {sp : Sp} (F : FnOk P w K mg base CX0 k f fd ps sp) : FnOk P w K mg base (L2.CX P w) k f fd ps sp :=
  ⟨F.len, fun A outer s H args us vs Q E hr e0 hb r h => codeAny_mono (F.run A outer s H args us vs Q E hr e0 hb r h) fun _ _ q => cr_up q⟩
theorem cal_up (c : Cal P w K mg base CX0 k x ps sp) : Cal P w K mg base (L2.CX P w) k x ps sp := let ⟨f, fd, c⟩ := c; ⟨f, fd, ⟨fnOk_up c.ok, c.mg, c.kp, c.b, c.lk⟩⟩
theorem calK_up {n : Nat} (c : CalK P w K mg base CX0 k x ps n ks sp) : CalK P w K mg base (L2.CX P w) k x ps n ks sp := let ⟨f, fd, c, b⟩ := c; ⟨f, fd, ⟨fnOk_up c.ok, c.mg, c.kp, c.b, c.lk⟩, b⟩
/-- nothing is let out where nothing is wished -/
theorem fnOk_down {f : Addr} {fd : FuncData} {sp : Sp} (F : FnOk P w K mg base (L2.CX P w) k f fd ps sp) (h : ∀ vs H Q E, sp vs H Q E → sp vs H Q fun _ _ _ => False) : FnOk P w K mg base CX0 k f fd ps sp :=
  ⟨F.len, fun A outer s H args us vs Q E hr e0 hb r q => codeAny_mono (F.run A outer s H args us vs Q _ hr e0 hb r (h _ _ _ _ q)) fun r s' z => by
    cases r with
    | error e =>
      obtain ⟨_, _, _, _, _, _, _, _, _, _, _, _, f⟩ := (show L2.CX P w outer H s (fun _ _ _ => False) e s' from z)
      exact f.elim
    | ok fl =>
      cases fl with
      | ret u => exact z
      | next => exact False.elim z
      | brk => exact False.elim z
      | cont => exact False.elim z⟩
theorem toSp_down (h : ∀ ds S P E, sp ds S P E → sp ds S P EF) : ∀ vs H Q E, toSp K sp vs H Q E → toSp K sp vs H Q fun _ _ _ => False := fun _ _ _ _ ⟨M, mu, S, ds, P, _, ok, r, q, n, _⟩ => ⟨M, mu, S, ds, P, EF, ok, r, h _ _ _ _ q, n, fun _ _ _ _ _ _ _ _ _ z => z.elim⟩
theorem cal_down (c : Cal P w K mg base (L2.CX P w) k x ps sp) (h : ∀ ds S P E, sp ds S P E → sp ds S P EF) : Cal P w K mg base CX0 k x ps sp := let ⟨f, fd, c⟩ := c; ⟨f, fd, ⟨fnOk_down c.ok (toSp_down h), c.mg, c.kp, c.b, c.lk⟩⟩
end
/-- what passes in the body of a def that may raise -/
theorem passW {X : Cx} {W : WX} (tk : Takes X W) : ∀ σ, PassesAt (L2.CX X.prog X.w) X σ (WE W σ) := fun σ => passAt tk σ
section
variable {P : Program} {w : World} {K : PySem.W.Frag} {mg : Str → Option Value} {base : Heap} {x nm : Str} {st : Stmt} {c : Addr}
/-- a def of the top with a known code object -/
def DefInC (K : PySem.W.Frag) (mg : Str → Option Value) (x nm : Str) (st : Stmt) (c : Addr) : Prop := ∃ (f : Addr) (fd : FuncData), FunD K nm nm (defArgs st) (defBody st) (defScope st) [] [] f fd ∧ mg x = some (.ref f) ∧ CodeIs K f c
/-- THE RULE for a def whose reading speaks of its own cells: n is the place of the first -/
theorem calN_def {CX : CXT} {N ps : List Str} {k : Nat} {sp : DSp} {wb : Nat → DWS} (I : DefInC K mg x nm st c) (sc : FnScope N ps (defScope st))
    (hbd : ∀ (kV doc pm : Value) (an : Option Addr) (cdv ct : Value) (us : List Value), us.length = ps.length → bindArgs (PySem.W.fnOf nm nm (defArgs st) (defBody st) (defScope st) .none kV doc pm an cdv ct) ⟨us, []⟩ = pure (ps.zip us))
    (len : ∀ ds S P E, sp ds S P E → ds.length = ps.length)
    (hb : ∀ (n : Nat) (f : Addr) (A : Around) (outer : List PySem.Env) (s : Shared) (H : Hp) (E : XK), s.heap.objs.size + 1 = n → Room k (A.deeper (envOfC nm (defScope st) s.heap.objs.size f (.ref c))) → DSs (cxOf CX P w K mg base N nm (defScope st) f (.ref c) A outer s H E) (fun C d _ H' => E C d H') (defBody st) (wb n))
    (hw : ∀ n ds S P E, S.all (lo S.length) = true → sp ds S P E → wb n (endsOf S.length P E) (startD N.length ds) S) : Cal P w K mg base CX (k + 1) x ps sp := by
  obtain ⟨f, fd, F, hm, hci⟩ := I
  refine ⟨f, fd, ⟨?_, hm, F.kp, F.bindsN hbd, let ⟨oc, od, _, _, _, _, _, _, _, osl, _, lk, _⟩ := F.ex; ⟨oc, od, osl, lk⟩⟩⟩
  obtain ⟨oc, od, dV, kV, doc, pm, an, cdv, ct, osl, rfl, lk, hcd, _, _⟩ := F.ex
  obtain ⟨c', rfl⟩ := He.codeIn_ref hcd
  obtain rfl : c' = c := hci _ _ _ _ _ lk rfl
  refine fn_of lk hcd sc (fun vs H Q E h => ?_) fun A outer s H vs Q E hr h => ?_
  · obtain ⟨M, mu, S, ds, P, Ex, ok, r, q, _⟩ := h
    rw [← r.len]
    exact len _ _ _ _ q
  · obtain ⟨M, mu, S, ds, P, Ex, ok, r, q, n, xx⟩ := h
    obtain ⟨t, p, rb⟩ := (hb _ f A outer s H E rfl hr).ex
    exact ⟨t, p, rb.run M mu _ _ S H _ _ ok (env_start r) (hw _ ds S P Ex ok.scoped q) (eok_def ok n xx)⟩
end
end DL
namespace L2H
theorem RoomH.units {k : Nat} {A : PySem.Around} (r : RoomH k A) : A.units + 64 < PySem.cLine := by have := r.un; omega
end L2H
set_option maxRecDepth 100000
namespace DL
open PySem PySem.Spec PyProof.Rows L2
theorem roomM {k : Nat} {A : Around} {hd : Option Value} (r : Room k A) : L2H.RoomH k (A.mark hd) := ⟨r.dp, r.un⟩
/-! the row's steps for exceptions and functions -/
def xfD (K : PySem.W.Frag) (f : Str) (x : D) (S : Sto) (P : DK) : Prop := match x with
  | .exn C fs => XfK K C f ∧ (match fs.lookup f with
    | some d => P d S
    | none => False)
  | _ => False
theorem wXfld_ap {K : PySem.W.Frag} {f : Str} {wo : DW} {ρ : Loc} {S : Sto} {P : DK} {E : Ex} : wXfld K f wo ρ S P E = wo ρ S (fun x S1 => xfD K f x S1 P) E := rfl
theorem xfD_exn {K : PySem.W.Frag} {f : Str} {C : Addr} {fs : List (Str × D)} {S : Sto} {P : DK} : xfD K f (.exn C fs) S P = (XfK K C f ∧ (match fs.lookup f with
    | some d => P d S
    | none => False)) := rfl
theorem wCalT_ap {sp : DSp} {w : DWA} {ρ : Loc} {S : Sto} {P : DK} {E : Ex} : wCalT sp w ρ S P E = w ρ S (fun ds S1 => sp ds S1 P EF) E := rfl
section
variable {P : Program} {w : World} {K : PySem.W.Frag} {mg : Str → Option Value} {base : Heap} {k i : Nat} {ρ : Loc} {S : Sto} {P' : DK} {E : Ex}
def fnCallD (P : Program) (w : World) (K : PySem.W.Frag) (mg : Str → Option Value) (base : Heap) (k : Nat) (x : D) (S : Sto) (P' : DK) (E : Ex) : Prop := match x with
  | .fn F nd ws => ∃ sp, FnIn P w K mg base k F nd ws.length sp ∧ nofns ws = true ∧ S.all nofn = true ∧ sp ws S P' E
  | _ => False
theorem wFnCall_v : wFnCall P w K mg base k i ρ S P' E = wVar i ρ S (fun x S1 => fnCallD P w K mg base k x S1 P' E) E := by
  unfold wFnCall wVar
  cases ρ.getD i none with
  | none => rfl
  | some d => cases d <;> rfl
theorem fnCallD_fn {F : LF} {nd : Nat} {ws : List D} : fnCallD P w K mg base k (.fn F nd ws) S P' E = ∃ sp, FnIn P w K mg base k F nd ws.length sp ∧ nofns ws = true ∧ S.all nofn = true ∧ sp ws S P' E := rfl
theorem wsTry_ap {cs : List Value} {i n : Nat} {wb ws : DWS} {Y : DEnds} : wsTry K cs i n wb ws Y ρ S = wb { Y with ex := fun C fs S1 => ∃ b, PySem.W.exmAny K (.ref C) cs = some b ∧
  (b = true → ws { nx := fun ρ' S' => Y.nx (ρ'.set i none) S', rt := Y.rt, bk := fun ρ' S' => Y.bk (ρ'.set i none) S', ct := fun ρ' S' => Y.ct (ρ'.set i none) S', ex := EF, rf := Y.rf } ((List.replicate n none).set i (some (.exn C fs))) S1) ∧ (b = false → Y.ex C fs S1) } ρ S := rfl
end
/-- a weaker promise -/
def upS (sp : DSp) : DSp := fun ds S P E => ∃ P0 E0, sp ds S P0 E0 ∧ (∀ d S', P0 d S' → P d S') ∧ ∀ C fs S', E0 C fs S' → E C fs S'
theorem fnIn_up {P : Program} {w : World} {K : PySem.W.Frag} {mg : Str → Option Value} {base : Heap} {k nd n : Nat} {F : LF} {sp : DSp} (h : FnIn P w K mg base k F nd n sp) : FnIn P w K mg base k F nd n (upS sp) :=
  ⟨fun f A outer s H vals Q E hr e0 hf hc C ⟨M, mu, S, ds, P', Ex, ok, r, ⟨P0, E0, hs, hp, he⟩, n, x⟩ => h.1 f A outer s H vals Q E hr e0 hf hc C
    ⟨M, mu, S, ds, P0, E0, ok, r, hs, fun v H' d S' k o r p => n v H' d S' k o r (hp d S' p), fun C d H' c fs S' k o xr e => x C d H' c fs S' k o xr (he c fs S' e)⟩, h.2⟩
end DL
set_option maxRecDepth 100000
set_option maxHeartbeats 2000000
/-! min and max over data: of a list, of two values -/
namespace PySem
section
variable {prog : Program} {w : World} {A : Around} {E : Value → Shared → Prop} {s : Shared}
theorem call_min_twoH {a b : Value} {Q : Value → Shared → Prop}
    (h : wpAny (model prog w) A.in1 (pyIter (.ref s.heap.objs.size)) (fun it s₂ => ∃ I fp wr G n P St H bt, it = .ref I ∧ WalksS prog w A.in1 I fp wr G n P St ∧ St 0 s₂ ∧ (∀ b ∈ fp, b < s₂.heap.objs.size) ∧ 0 < n ∧
      (∀ b o, H.get? b = some o → b ∉ wr) ∧ (∀ b o, H.get? b = some o → s₂.heap.get? b = some o) ∧ CmpIn prog w A.in1 .Lt H P bt ∧ ∀ v s', P (argBest bt (n - 1)) v → Moved wr G s₂ s' → Q v s') E
      { s with heap := s.heap.push { cls := .type "tuple", data := .seq #[a, b] } }) :
    wpAny (model prog w) A (call (.builtin "min") [a, b]) Q E s := by
  have hname : (toString "min" ++ toString ".loop" : String) = "min.loop" := by decide
  refine call_function_tree F.kind_min F.plain_min F.entry_min (F.args_min2 _ _) ?_
  show wpAny _ A.in1 (Builtin.Builtins.bindParams "min" ["key", "default"] 0 ⟨[], []⟩ >>= _) _ _ s
  refine wpAny_bind (wpAny_of_eq (show Builtin.Builtins.bindParams "min" ["key", "default"] 0 ⟨[], []⟩ = pure [none, none] from rfl) ?_)
  show wpAny _ A.in1 (newTuple [a, b] >>= _) _ _ s
  refine wpAny_bind (wpAny_newObj_type ?_)
  refine wpAny_bind (wpAny_mono h (fun it s₂ h₂ => ?_) fun _ _ e => e)
  obtain ⟨I, fp, wr, G, n, P, St, H, bt, rfl, W, hst, hfp, hn, hw, hkeep, hcmp, hQ⟩ := h₂
  refine wpAny_bind (wpAny_newObj_type ?_)
  have hSf : s₂.heap.objs.size ∉ fp := fun hm => Nat.lt_irrefl _ (hfp _ hm)
  rw [hname]
  refine wpAny_pure ⟨plainId_quiet F.plain_min_loop _, codeAny_min_loop_firstH W H hw bt hcmp s₂.heap.objs.size hSf (fresh_in hkeep) _ hn (fun b o e => Heap.get?_push_of_some _ (hkeep b o e)) (W.frame 0 s₂ _ s₂.toks hst (Nat.le_refl _) fun b _ o e => Heap.get?_push_of_some _ e) (Heap.get?_push_size _ rfl) fun v s' hP hm => ?_⟩
  exact hQ v s' hP (Moved.drop_new (tk := s₂.toks) hm (Nat.le_refl _))
/-- the place of the best, the first of equal ones -/
def bestIx (lt : PyData → PyData → Bool) (ps : List PyData) : Nat := argBest (fun i j => lt (ps.getD i .none) (ps.getD j .none)) (ps.length - 1)
abbrev gtPy (a b : PyData) : Bool := PySem.W.dataLt b a
theorem argBest_le (bt : Nat → Nat → Bool) : ∀ n, argBest bt n ≤ n
  | 0 => Nat.le_refl _
  | n + 1 => by
    unfold argBest
    split
    · exact Nat.le_refl _
    · exact Nat.le_succ_of_le (argBest_le bt n)
theorem bestIx_lt {lt : PyData → PyData → Bool} {p : PyData} {ps : List PyData} : bestIx lt (p :: ps) < (p :: ps).length := Nat.lt_succ_of_le (argBest_le _ _)
end
end PySem
namespace PySem.W
section
variable {prog : Program} {w : World} {A : Around} {E : Value → Shared → Prop} {s : Shared}
theorem min_list_ix {l : Addr} {vs : Array Value} {x : PyData} {xs : List PyData} {as : List Addr} {Q : Value → Shared → Prop} (hh : A.handled = none) (hl : s.heap.IsList l vs) (hr : ReadsAll s.heap vs.toList (x :: xs) as) (ha : AlikeAll (x :: xs)) (hu : A.units + 1 + PyData.depthAll (x :: xs) < cLine)
    (h : ∀ v h' tk, vs[bestIx dataLt (x :: xs)]? = some v → (∀ b o, s.heap.get? b = some o → h'.get? b = some o) → Q v { s with heap := h', toks := tk }) :
    wpAny (model prog w) A (call (.builtin "min") [.ref l]) Q E s := by
  have hn : vs.size = xs.length + 1 := readsAll_len hr
  refine call_min_walkH (iter_listW (A := A.in1) hh hl fun s₂ e W st hfp hw hk => ?_)
  refine ⟨_, _, _, _, _, _, _, s.heap, _, rfl, W, st, hfp, by omega, hw, hk, cmpIn_lt (A := A.in1) hr ha (by show A.units + 1 + _ < _; exact hu), fun v s' hP m => ?_⟩
  obtain ⟨h', tk, rfl, hk'⟩ := moved_old e rfl m
  have e1 : vs.size - 1 = xs.length := by omega
  rw [e1] at hP
  exact h v h' tk hP hk'
theorem max_list_ix {l : Addr} {vs : Array Value} {x : PyData} {xs : List PyData} {as : List Addr} {Q : Value → Shared → Prop} (hh : A.handled = none) (hl : s.heap.IsList l vs) (hr : ReadsAll s.heap vs.toList (x :: xs) as) (ha : AlikeAll (x :: xs)) (hu : A.units + 1 + PyData.depthAll (x :: xs) < cLine)
    (h : ∀ v h' tk, vs[bestIx gtPy (x :: xs)]? = some v → (∀ b o, s.heap.get? b = some o → h'.get? b = some o) → Q v { s with heap := h', toks := tk }) :
    wpAny (model prog w) A (call (.builtin "max") [.ref l]) Q E s := by
  have hn : vs.size = xs.length + 1 := readsAll_len hr
  refine call_max_walkH (iter_listW (A := A.in1) hh hl fun s₂ e W st hfp hw hk => ?_)
  refine ⟨_, _, _, _, _, _, _, s.heap, _, rfl, W, st, hfp, by omega, hw, hk, cmpIn_gt (A := A.in1) hr ha (by show A.units + 1 + _ < _; exact hu), fun v s' hP m => ?_⟩
  obtain ⟨h', tk, rfl, hk'⟩ := moved_old e rfl m
  have e1 : vs.size - 1 = xs.length := by omega
  rw [e1] at hP
  exact h v h' tk hP hk'
theorem min_two_ix {a b : Value} {x y : PyData} {as : List Addr} {Q : Value → Shared → Prop} (hh : A.handled = none) (hr : ReadsAll s.heap [a, b] [x, y] as) (ha : AlikeAll [x, y]) (hu : A.units + 1 + PyData.depthAll [x, y] < cLine)
    (h : ∀ v h' tk, #[a, b][bestIx dataLt [x, y]]? = some v → (∀ b o, s.heap.get? b = some o → h'.get? b = some o) → Q v { s with heap := h', toks := tk }) :
    wpAny (model prog w) A (call (.builtin "min") [a, b]) Q E s := by
  have hk0 : ∀ b' o, s.heap.get? b' = some o → (s.heap.push { cls := .type "tuple", data := .seq #[a, b] }).get? b' = some o := fun _ _ e => Heap.get?_push_of_some _ e
  have hT : (s.heap.push { cls := .type "tuple", data := .seq #[a, b] }).IsTuple s.heap.objs.size #[a, b] := ⟨_, Heap.get?_push_size _ rfl, rfl, 0, rfl⟩
  refine call_min_twoH (iter_tupleW (A := A.in1) (s := { s with heap := s.heap.push { cls := .type "tuple", data := .seq #[a, b] } }) hh hT fun s₂ e W st hfp hw hk => ?_)
  refine ⟨_, _, _, _, _, _, _, s.heap, _, rfl, W, st, hfp, Nat.zero_lt_two, fun b' o e' => hw b' o (hk0 b' o e'), fun b' o e' => hk b' o (hk0 b' o e'), cmpIn_lt (A := A.in1) (vs := #[a, b]) hr ha (by show A.units + 1 + _ < _; exact hu), fun v s' hP m => ?_⟩
  obtain ⟨h', tk, rfl, hk'⟩ := moved_old e rfl m
  exact h v h' tk hP fun b' o e' => hk' b' o (hk0 b' o e')
end
end PySem.W
namespace DL
open PySem PySem.Spec PyProof.Rows L2
/-- .. as a rule: one argument a list of data, or two data -/
def rBestL (K : PySem.W.Frag) (lt : PyData → PyData → Bool) : List V → Hp → VK → Prop := fun vs H Q => ∃ a xs p ps x, vs = [V.ref a] ∧ SqL K H a xs ∧ DpAll K H xs (p :: ps) ∧ PySem.W.AlikeAll (p :: ps) ∧ PyData.depthAll (p :: ps) ≤ 50 ∧ xs[bestIx lt (p :: ps)]? = some x ∧ Q x H
def rBest2 (K : PySem.W.Frag) (lt : PyData → PyData → Bool) : List V → Hp → VK → Prop := fun vs H Q => ∃ v u p q x, vs = [v, u] ∧ DpAll K H [v, u] [p, q] ∧ PySem.W.AlikeAll [p, q] ∧ PyData.depthAll [p, q] ≤ 50 ∧ [v, u][bestIx lt [p, q]]? = some x ∧ Q x H
theorem vals_ix {xs : List V} {vs : List Value} (r : Vals xs vs) {j : Nat} {x : V} (h : xs[j]? = some x) : ∃ v, vs[j]? = some v ∧ RelV x v := by
  induction r generalizing j with
  | nil => simp at h
  | cons a r ih =>
    cases j with
    | zero =>
      rw [List.getElem?_cons_zero] at h
      obtain rfl := Option.some.inj h
      exact ⟨_, rfl, a⟩
    | succ j =>
      rw [List.getElem?_cons_succ] at h
      exact ih h
section
variable {X : Cx}
theorem cr_minL (hc : X.calm = true) (hu : X.A.units + 64 < cLine) : CallR X (.builtin "min") (rBestL X.K PySem.W.dataLt) := by
  intro pins s σ H vs us Q I r h
  obtain ⟨a, xs, p, ps, x, rfl, hs, hd, hal, hdp, hx, q⟩ := h
  obtain ⟨its, rv, hl, _⟩ := I.list hs
  rw [Vals.ref1 r]
  obtain ⟨as, rs⟩ := Dp.readsAll I _ _ _ hd rv
  obtain ⟨v, hv, rx⟩ := vals_ix rv hx
  refine PySem.W.min_list_ix (I.ok.hd hc) hl.isList rs hal (by omega) fun v' h' tk hv' hk => ⟨x, H, I.kept hk, ?_, q⟩
  rw [← Array.getElem?_toList, hv] at hv'
  rw [← Option.some.inj hv']
  exact rx
theorem cr_maxL (hc : X.calm = true) (hu : X.A.units + 64 < cLine) : CallR X (.builtin "max") (rBestL X.K gtPy) := by
  intro pins s σ H vs us Q I r h
  obtain ⟨a, xs, p, ps, x, rfl, hs, hd, hal, hdp, hx, q⟩ := h
  obtain ⟨its, rv, hl, _⟩ := I.list hs
  rw [Vals.ref1 r]
  obtain ⟨as, rs⟩ := Dp.readsAll I _ _ _ hd rv
  obtain ⟨v, hv, rx⟩ := vals_ix rv hx
  refine PySem.W.max_list_ix (I.ok.hd hc) hl.isList rs hal (by omega) fun v' h' tk hv' hk => ⟨x, H, I.kept hk, ?_, q⟩
  rw [← Array.getElem?_toList, hv] at hv'
  rw [← Option.some.inj hv']
  exact rx
theorem cr_min2D (hc : X.calm = true) (hu : X.A.units + 64 < cLine) : CallR X (.builtin "min") (rBest2 X.K PySem.W.dataLt) := by
  intro pins s σ H vs us Q I r h
  obtain ⟨v, u, p, q', x, rfl, hd, hal, hdp, hx, q⟩ := h
  obtain ⟨v', u', rfl, r1, r2⟩ := vals2 r
  obtain ⟨as, rs⟩ := Dp.readsAll I _ _ _ hd r
  obtain ⟨y, hy, rx⟩ := vals_ix r hx
  refine PySem.W.min_two_ix (I.ok.hd hc) rs hal (by omega) fun y' h' tk hv' hk => ⟨x, H, I.kept hk, ?_, q⟩
  rw [← Array.getElem?_toList] at hv'
  rw [hy] at hv'
  rw [← Option.some.inj hv']
  exact rx
end
/-- the best of a list's items, or of two -/
def bestL (lt : PyData → PyData → Bool) (ds : List D) (S : Sto) (P : DK) : Prop := match toPys ds with
  | some (p :: ps) => PySem.W.AlikeAll (p :: ps) ∧ PyData.depthAll (p :: ps) ≤ 50 ∧ P (ds.getD (bestIx lt (p :: ps)) .non) S
  | _ => False
def bestLD (lt : PyData → PyData → Bool) : DFn := fun xs S P => match xs with
  | [x] => (match val S x with
    | .lst ds => bestL lt ds S P
    | _ => False)
  | _ => False
def best2D (lt : PyData → PyData → Bool) : DFn := fun xs S P => match xs with
  | [x, y] => bestL lt [x, y] S P
  | _ => False
section
variable {K : PySem.W.Frag} {M : Addr → Prop} {mu : List Addr} {H : Hp} {S : Sto}
theorem toPys_len : ∀ {ds : List D} {ps : List PyData}, toPys ds = some ps → ds.length = ps.length
  | [], ps, h => by obtain rfl := Option.some.inj (show some [] = some ps from h); rfl
  | d :: ds, ps, h => by
    have h' : (match toPy d, toPys ds with
      | some p, some ps => some (p :: ps)
      | _, _ => none) = some ps := h
    cases e1 : toPy d with
    | none => rw [e1] at h'; cases h'
    | some p =>
      cases e2 : toPys ds with
      | none => rw [e1, e2] at h'; cases h'
      | some qs =>
        rw [e1, e2] at h'
        obtain rfl := Option.some.inj h'
        rw [List.length_cons, List.length_cons, toPys_len e2]
theorem best_at {lt : PyData → PyData → Bool} {ds : List D} {vs : List V} {p : PyData} {ps : List PyData} (e : toPys ds = some (p :: ps)) (r : Rs K M mu H ds vs) : ∃ x, vs[bestIx lt (p :: ps)]? = some x ∧ R K M mu H (ds.getD (bestIx lt (p :: ps)) .non) x := by
  have hl : bestIx lt (p :: ps) < ds.length := by rw [toPys_len e]; exact bestIx_lt
  obtain ⟨v, h1, h2⟩ := r.get (List.getElem?_eq_getElem hl)
  refine ⟨v, h1, ?_⟩
  rw [List.getD_eq_getElem?_getD, List.getElem?_eq_getElem hl]
  exact h2
end
theorem calld_bestL {K : PySem.W.Frag} {lt : PyData → PyData → Bool} : CallD K (rBestL K lt) (bestLD lt) := by
  intro M mu H S xs vs P Q ok r h n
  unfold bestLD at h
  split at h
  · rename_i x
    obtain ⟨v, rfl, rv⟩ := r.one
    cases e : val S x with
    | lst l =>
      simp only [e] at h
      unfold bestL at h
      obtain ⟨a, ys, rfl, ha, ry⟩ := seq_lst ok rv e
      split at h
      · rename_i p ps hp
        obtain ⟨h1, h2, h3⟩ := h
        obtain ⟨y, hy, ry'⟩ := best_at (lt := lt) hp ry
        exact ⟨a, ys, p, ps, y, rfl, SqL.of ha, Rs.dp _ _ _ ry hp, h1, h2, hy, n y H _ S (.refl _ _) ok ry' h3⟩
      · exact h.elim
    | _ => simp only [e] at h
  · exact h.elim
theorem calld_best2 {K : PySem.W.Frag} {lt : PyData → PyData → Bool} : CallD K (rBest2 K lt) (best2D lt) := by
  intro M mu H S xs vs P Q ok r h n
  unfold best2D at h
  split at h
  · rename_i x y
    obtain ⟨v, u, rfl, rv, ru⟩ := r.two
    unfold bestL at h
    have rr : Rs K M mu H [x, y] [v, u] := ⟨v, [u], rfl, rv, u, [], rfl, ru, rfl⟩
    split at h
    · rename_i p ps hp
      obtain ⟨h1, h2, h3⟩ := h
      have hl := toPys_len hp
      match ps, hl with
      | [q], _ =>
        obtain ⟨z, hz, rz⟩ := best_at (lt := lt) hp rr
        exact ⟨v, u, p, q, z, rfl, Rs.dp _ _ _ rr hp, h1, h2, hz, n z H _ S (.refl _ _) ok rz h3⟩
    · exact h.elim
  · exact h.elim
/-- one statement ahead of the rest; the rest stays closed -/
theorem ws_step {a b : DWS} {Y : DEnds} {ρ : Loc} {S : Sto} (h : ∀ nx : Loc → Sto → Prop, (∀ ρ' S', b Y ρ' S' → nx ρ' S') → a { Y with nx := nx } ρ S) : wsSeq a b Y ρ S := h _ fun _ _ h => h
/-! the least of two places -/
def ltP (p q : Pl) : Bool := decide (p.1 < q.1 ∨ (p.1 = q.1 ∧ p.2 < q.2))
def minP (p q : Pl) : Pl := if ltP q p then q else p
theorem alike_pl (p q : Pl) : PySem.W.AlikeAll [pyP p, pyP q] := ⟨fun x hx y hy => by
  simp only [List.mem_cons, List.not_mem_nil, or_false] at hx hy
  rcases hx with rfl | rfl <;> rcases hy with rfl | rfl <;> simp [pyP, PySem.W.alike, PySem.W.alikeAll], fun x hx => by
  simp only [List.mem_cons, List.not_mem_nil, or_false] at hx
  rcases hx with rfl | rfl <;> simp [pyP]⟩
theorem best_pl {p q : Pl} {S : Sto} {P : DK} (h : P (plD (minP p q)) S) : bestL PySem.W.dataLt [plD p, plD q] S P := by
  unfold bestL
  rw [show toPys [plD p, plD q] = some [pyP p, pyP q] from rfl]
  refine ⟨alike_pl p q, by simp [pyP, PyData.depth, PyData.depthAll], ?_⟩
  have e : bestIx PySem.W.dataLt [pyP p, pyP q] = if ltP q p then 1 else 0 := by
    show argBest _ 1 = _
    unfold argBest argBest
    show (if PySem.W.dataLt (pyP q) (pyP p) = true then 1 else 0) = _
    unfold pyP
    rw [PySem.W.dataLt_ii]
    rfl
  rw [e]
  unfold minP at h
  split at h
  · rename_i hq; rw [if_pos hq]; exact h
  · rename_i hq; rw [if_neg hq]; exact h
theorem best2_pl {p q : Pl} {S : Sto} {P : DK} (h : P (plD (minP p q)) S) : best2D PySem.W.dataLt [plD p, plD q] S P := by
  unfold best2D
  exact best_pl h
theorem bestL_pl {x : D} {p q : Pl} {S : Sto} {P : DK} (hx : val S x = .lst [plD p, plD q]) (h : P (plD (minP p q)) S) : bestLD PySem.W.dataLt [x] S P := by
  unfold bestLD
  dsimp only
  rw [hx]
  exact best_pl h
theorem at1_0 {a : D} : atI [a] 0 = some a := rfl
theorem at4_0 {a b c d : D} : atI [a, b, c, d] 0 = some a := rfl
theorem at4_1 {a b c d : D} : atI [a, b, c, d] 1 = some b := rfl
theorem at4_2 {a b c d : D} : atI [a, b, c, d] 2 = some c := rfl
theorem at4_3 {a b c d : D} : atI [a, b, c, d] 3 = some d := rfl
end DL
set_option maxRecDepth 100000
set_option maxHeartbeats 2000000
/-! own exceptions in a head: __init__s with a cell __class__ are observed too -/
namespace He
open PySem PySem.Spec PyProof.Rows L2
/-- a method with one captured cell: where it stands, its qualified name, parameters, body, scope -/
structure XDef where
  at_ : Str × Option Str
  qual : Str
  params : Arguments
  body : List Stmt
  scope : Scope
abbrev FnY : Type := Option (Str × Str × Arguments × FuncBody × Scope × Addr × List Str × Addr)
def fnY (K : PySem.W.Frag) (p : Str × Option Str) : FnY := match K.lookup (fAd K p) with
  | some ⟨_, _, .func fd, _⟩ => some (fd.name, fd.qualname, fd.params, fd.body, fd.scope, fd.globals, fd.closure.map (·.1), fd.builtins)
  | _ => none
def XDef.val (d : XDef) : FnY := some ("__init__", d.qual, d.params, .stmts d.body, d.scope, mainGlobals, ["__class__"], builtinsNs)
abbrev AlY : Type := (AlT × Bool) × List FnY
/-- the objects that are looked at: from the globals on, and the statics -/
def asY (g : Addr → Option Obj) (n : Nat) : List Addr := cStatics :: asD g n
def obsY (n : Nat) (fa : List Fa) (fn : List DefD) (tf : List Defn) (xs : List XDef) (ex : PySem.W.Frag → Bool) (g : Addr → Option Obj) : AlY :=
  let K := frT g (asY g n)
  ((obsT fa fn [] K, ex K && tabsB g tf K), xs.map fun d => fnY K d.at_)
structure SaysY (fa : List Fa) (fn : List DefD) (tf : List Defn) (xs : List XDef) (ex : PySem.W.Frag → Bool) (w : World) (h : Heap) (K : PySem.W.Frag) : Prop where
  x : SaysX fa fn [] tf ex w h K
  v : xs.map (fun d => fnY K d.at_) = xs.map XDef.val
theorem tab_at {g : Addr → Option Obj} {tf : List Defn} {K : PySem.W.Frag} (t : tabsB g tf K = true) {p : Defn} (hp : p ∈ tf) : PySem.W.codeHdIn K (cT K p).1 (cT K p).2 = true ∧ ∃ o, g (cT K p).2 = some o ∧ emptyTab o = true := by
  have z := List.all_eq_true.mp t p hp
  cases q : g (cT K p).2 with
  | none => rw [q] at z; exact absurd (ba z).2 Bool.false_ne_true
  | some o => rw [q] at z; exact ⟨(ba z).1, o, rfl, (ba z).2⟩
theorem saysY_of {n : Nat} {fa : List Fa} {fn : List DefD} {tf : List Defn} {xs : List XDef} {ex : PySem.W.Frag → Bool} {w : World} {h : Heap} (e : obsY n fa fn tf xs ex h.get? = ((valT fn [] w, true), xs.map XDef.val)) : SaysY fa fn tf xs ex w h (frT h.get? (asY h.get? n)) := by
  generalize hK : frT h.get? (asY h.get? n) = K
  have e' : ((obsT fa fn [] K, ex K && tabsB h.get? tf K), xs.map fun d => fnY K d.at_) = ((valT fn [] w, true), xs.map XDef.val) := by rw [← hK]; exact e
  have e1 := congrArg (fun z : AlY => z.1.1) e'
  have e2 := congrArg (fun z : AlY => z.1.2) e'
  have t := (ba e2).2
  refine ⟨⟨e1, (ba e2).1, fun p hp => (tab_at t hp).1, fun p hp => ?_, fun p hp => ?_⟩, congrArg (fun z : AlY => z.2) e'⟩
  · have ⟨_, o, q, z⟩ := tab_at t hp
    subst hK
    exact frT_none q z
  · have ⟨_, o, q, z⟩ := tab_at t hp
    rw [q, emptyTab_eq z]
def hookY (n : Nat) (fa : List Fa) (fn : List DefD) (tf : List Defn) (xs : List XDef) (ex : PySem.W.Frag → Bool) : PySem.W.Hook where
  α := AlY
  obs := fun s => obsY n fa fn tf xs ex s.heap.get?
  val := fun w => ((valT fn [] w, true), xs.map XDef.val)
  says := fun w h => ∃ K : PySem.W.Frag, K.In h ∧ SaysY fa fn tf xs ex w h K
  of := fun _ _ e => ⟨_, frT_in, saysY_of e⟩
  keeps := fun _ _ _ ⟨K, hK, c⟩ k => ⟨K, PySem.W.Frag.In.keeps hK k, ⟨⟨c.x.t, c.x.more, c.x.hd, c.x.out, fun p hp => k _ _ (c.x.empty p hp)⟩, c.v⟩⟩
theorem obsY_eq {n : Nat} {fa : List Fa} {fn : List DefD} {tf : List Defn} {xs : List XDef} {ex : PySem.W.Frag → Bool} {g : Addr → Option Obj} {s : Shared} (h : ∀ a, g a = s.heap.get? a) : obsY n fa fn tf xs ex g = (hookY n fa fn tf xs ex).obs s := by
  rw [show g = s.heap.get? from funext h]
  rfl
theorem SaysY.at {fa : List Fa} {fn : List DefD} {tf : List Defn} {xs : List XDef} {ex : PySem.W.Frag → Bool} {w : World} {h : Heap} {K : PySem.W.Frag} (c : SaysY fa fn tf xs ex w h K) (i : Nat) {d : XDef} (hd : xs[i]? = some d) : fnY K d.at_ = d.val := by
  have e2 : (xs.map fun d => fnY K d.at_)[i]? = (xs.map XDef.val)[i]? := by rw [c.v]
  rw [List.getElem?_map, List.getElem?_map, hd] at e2
  exact Option.some.inj e2
end He
namespace DL
open PySem PySem.Spec PyProof.Rows L2 LamX NdefX
def oexClsB (K : PySem.W.Frag) (C : Addr) : Bool := match K.lookup C with
  | some ⟨.type "type", _, .cls cd, sl⟩ => (match cd.mro, sl.toList with
    | .ref C' :: bm, [_, _, _, _, some (.builtin n), _] => C' == C && n == "ValueError.__new__" && !cd.hasDel && cd.hasDict && PySem.HandSPX.refsVE bm
    | _, _ => false)
  | _ => false
theorem oexCls_ok {K : PySem.W.Frag} {C : Addr} (q : oexClsB K C = true) : ∃ nm q N bs bm sn sub ab col dd k0 k1 k2 k3 k5, K.lookup C = some (excClassObj nm q C N bs bm true sn sub ab col dd k0 k1 k2 k3 k5 "ValueError.__new__") ∧ PySem.HandSPX.refsVE bm = true := by
  unfold oexClsB at q
  split at q
  · rename_i dd cd sl ho
    split at q
    · rename_i C' bm k0 k1 k2 k3 n k5 hm hs
      simp only [Bool.and_eq_true, beq_iff_eq, Bool.not_eq_true'] at q
      obtain ⟨⟨⟨⟨rfl, rfl⟩, hdel⟩, hdc⟩, ht⟩ := q
      obtain ⟨nm, bs, mro, ns, qn, hd, sn, sub, ab, col, del⟩ := cd
      dsimp only at hm hdel hdc
      subst hm hdel hdc
      have hsl : sl = #[k0, k1, k2, k3, some (.builtin "ValueError.__new__"), k5] := by
        obtain ⟨l⟩ := sl
        simp only at hs
        rw [hs]
      subst hsl
      exact ⟨nm, qn, ns, bs, bm, sn, sub, ab, col, dd, k0, k1, k2, k3, k5, ho, ht⟩
    · cases q
  · cases q
def bB (a b : Option Bool) : Bool := decide (a = b)
def vB (a b : Option Value) : Bool := decide (a = b)
def oexB (K : PySem.W.Frag) (C : Addr) : Bool := oexClsB K C && (He.eqO (PySem.W.findIn K (.ref C) "__setattr__") (some (some (.builtin "object.__setattr__"))) && (bB (PySem.W.subIn K (.ref C) (.type "BaseException")) (some true) && (vB (PySem.W.typeIn K (.ref C)) (some (.type "type")) && PySem.W.keepIn K (.ref C))))
theorem oex_ok {K : PySem.W.Frag} {C : Addr} (q : oexB K C = true) : OexC K C := by
  obtain ⟨h1, q⟩ := Bool.and_eq_true_iff.mp q
  obtain ⟨h2, q⟩ := Bool.and_eq_true_iff.mp q
  obtain ⟨h3, q⟩ := Bool.and_eq_true_iff.mp q
  obtain ⟨h4, h5⟩ := Bool.and_eq_true_iff.mp q
  exact ⟨oexCls_ok h1, of_decide_eq_true h2, of_decide_eq_true h3, of_decide_eq_true h4, h5⟩
def cellB (K : PySem.W.Frag) (cc C : Addr) : Bool := match K.lookup cc with
  | some o => (match o.data with
    | .cell (some (.ref C')) => C' == C
    | _ => false)
  | _ => false
theorem cell_ok {K : PySem.W.Frag} {cc C : Addr} (q : cellB K cc C = true) : ∃ o, K.lookup cc = some o ∧ o.data = .cell (some (.ref C)) := by
  unfold cellB at q
  split at q
  · rename_i o ho
    split at q
    · rename_i C' hc
      rw [beq_iff_eq.mp q] at hc
      exact ⟨o, ho, hc⟩
    · cases q
  · cases q
def fileB (P : Program) (K : PySem.W.Frag) (c : Addr) : Bool := match K.lookup c with
  | some o => (match o.data with
    | .fields vs => (match (vs[2]? : Option Value) with
      | some (Value.str file _) => (P.main.file : Str) == file
      | _ => false)
    | _ => false)
  | _ => false
theorem file_ok {P : Program} {K : PySem.W.Frag} {c : Addr} (q : fileB P K c = true) : ∃ (oc : Obj) (vs : Array Value) (file : Str) (tf : Tok), K.lookup c = some oc ∧ oc.data = .fields vs ∧ vs[2]? = some (.str file tf) ∧ ((P.main.file : Str) == file) = true := by
  unfold fileB at q
  split at q
  · rename_i o ho
    split at q
    · rename_i vs hc
      split at q
      · rename_i file tf hv
        exact ⟨o, vs, file, tf, ho, hc, hv, q⟩
      · cases q
    · cases q
  · cases q
def noneB : Value → Bool
  | .none => true
  | _ => false
def exiB (P : Program) (K : PySem.W.Frag) (C f : Addr) (q : Str) : Bool := match K.lookup f with
  | some ⟨_, _, .func fd, _⟩ => (match fd.closure, fd.code with
    | [(_, cc)], .ref c => cellB K cc C && (fileB P K c && (PySem.W.codeIn K (.ref c) q && noneB fd.defaults))
    | _, _ => false)
  | _ => false
def exnB (P : Program) (K : PySem.W.Frag) (x : Str) (q : Str) (l : List Str) : Bool :=
  oexB K (He.ga K x) && (He.eqO (PySem.W.findIn K (.ref (He.ga K x)) "__init__") (some (some (.ref (He.fAd K (x, some ("__init__" : Str)))))) && (vB (PySem.W.typeIn K (.ref (He.fAd K (x, some ("__init__" : Str))))) (some (.type "function")) && (He.eqO (PySem.W.nsIn K cStatics "thirdparty.any") (some none) &&
    (He.eqO (PySem.W.ks_superIn K (He.ga K x) (He.ga K x) "__init__") (some (some (.builtin "ValueError.__init__"))) && (bB (PySem.W.subIn K (.ref (He.ga K x)) (.type "ValueError")) (some true) && (bB (PySem.W.mroIn K (He.ga K x) (.ref (He.ga K x))) (some true) && (exiB P K (He.ga K x) (He.fAd K (x, some ("__init__" : Str))) q && l.all fun y => He.eqO (PySem.W.findIn K (.ref (He.ga K x)) y) (some none))))))))
/-- THE RULE: what a raise of the class x knows -/
theorem exn_of {P : Program} {w : World} {K : PySem.W.Frag} {mg : Str → Option Value} {base : Heap} {n j : Nat} {N ps : List Str} {x : Str} {d : He.XDef} {ar : Arg} {m : Str} {rest : List Stmt} {l : Fls} {p0 p1 p2 p3 p4 p5 : Pos} {pl : Sem Bool}
    (hd : d.at_ = (x, some ("__init__" : Str))) (hv : He.fnY K d.at_ = d.val) (hb : exnB P K x d.qual (l.map (·.1)) = true) (hg : mg x = some (.ref (He.ga K x))) (hm : mg "super" = none) (top : (P.main.scope.names.lookup ("super" : Str)).isSome = false)
    (S : NScope N ps ["__class__"] d.scope) (hn : ps.length = n + 1)
    (har : (d.params.posonlyargs ++ d.params.args).head? = some ar) (h0 : N[0]? = some ar.arg) (hal : d.scope.names.lookup ar.arg = some .local) (hks : d.scope.names.lookup ("super" : Str) = some .globalImplicit)
    (hbo : d.body = .Expr (.Call (.Attribute (.Call (.Name "super" p0) [] [] p1) "__init__" p2) [.Constant (.str m) j p3] [] p4) p5 :: rest)
    (hev : ∀ (cl : List (Str × Addr)) (c f L : Addr), eval (.Call (.Attribute (.Call (.Name "super" p0) [] [] p1) "__init__" p2) [.Constant (.str m) j p3] [] p4) (envF ⟨"__init__", d.qual, d.params, d.body, d.scope, cl, c⟩ f L) = (do
      let ov ← attributeBase (.Call (.Name "super" p0) [] [] p1) "__init__" (envF ⟨"__init__", d.qual, d.params, d.body, d.scope, cl, c⟩ f L) (eval (.Call (.Name "super" p0) [] [] p1) (envF ⟨"__init__", d.qual, d.params, d.body, d.scope, cl, c⟩ f L))
      standAt p2.atName
      let (g, first) ← holding [ov] (getMethod ov "__init__" pl)
      callWith p4 g first (backTo p4 (starEach [.Constant (.str m) j p3] (envF ⟨"__init__", d.qual, d.params, d.body, d.scope, cl, c⟩ f L))) []))
    (hset : Sets N d.scope ar.arg rest l) (hl : l ≠ []) (hl9 : l.length ≤ 900) (hdb : (ar.arg == ("__debug__" : Str)) = false) (hcdd : (ar.arg == ("__classdict__" : Str)) = false)
    (hi : ∀ f i, (f, Sum.inl i) ∈ l → i < n)
    (hbd : ∀ (kV doc pm ct cdv : Value) (an : Option Addr) (cl : List (Str × Addr)) (us : List Value), us.length = ps.length → bindArgs (PySem.W.fnX "__init__" d.qual d.params d.body d.scope cl .none kV doc pm an cdv ct) ⟨us, []⟩ = pure (ps.zip us)) :
    Exn P w K mg base x (He.ga K x) n l := by
  obtain ⟨h1, hb⟩ := Bool.and_eq_true_iff.mp hb
  obtain ⟨h2, hb⟩ := Bool.and_eq_true_iff.mp hb
  obtain ⟨h3, hb⟩ := Bool.and_eq_true_iff.mp hb
  obtain ⟨h4, hb⟩ := Bool.and_eq_true_iff.mp hb
  obtain ⟨h5, hb⟩ := Bool.and_eq_true_iff.mp hb
  obtain ⟨h6, hb⟩ := Bool.and_eq_true_iff.mp hb
  obtain ⟨h7, hb⟩ := Bool.and_eq_true_iff.mp hb
  obtain ⟨h8, h9⟩ := Bool.and_eq_true_iff.mp hb
  rw [hd] at hv
  unfold He.fnY at hv
  unfold exiB at h8
  cases q : K.lookup (He.fAd K (x, some ("__init__" : Str))) with
  | none => rw [q] at hv; cases hv
  | some o =>
    obtain ⟨oc, od, dat, osl⟩ := o
    cases dat with
    | func fd =>
      rw [q] at hv
      simp only [q] at h8
      obtain ⟨nm, qual, pa, bo, sc, gl, clo, dfs, kwd, doc, pm, an, co, clt, bi⟩ := fd
      have hv2 : (some (nm, qual, pa, bo, sc, gl, clo.map (·.1), bi) : He.FnY) = d.val := hv
      unfold He.XDef.val at hv2
      simp only [Option.some.injEq, Prod.mk.injEq] at hv2
      obtain ⟨rfl, rfl, rfl, rfl, rfl, rfl, hcl, rfl⟩ := hv2
      dsimp only at h8
      cases clo with
      | nil => cases hcl
      | cons y r =>
        cases r with
        | cons _ _ => simp at hcl
        | nil =>
          obtain ⟨y, cc⟩ := y
          obtain rfl : y = ("__class__" : Str) := by simpa using hcl
          cases co with
          | ref c =>
            obtain ⟨g1, h8⟩ := Bool.and_eq_true_iff.mp (show (cellB K cc (He.ga K x) && (fileB P K c && (PySem.W.codeIn K (.ref c) d.qual && noneB dfs))) = true from h8)
            obtain ⟨g2, h8⟩ := Bool.and_eq_true_iff.mp h8
            obtain ⟨g3, g4⟩ := Bool.and_eq_true_iff.mp h8
            obtain rfl : dfs = .none := by cases dfs <;> first | rfl | cases g4
            have B : SupK P K (He.ga K x) cc c := ⟨oex_ok h1, of_decide_eq_true h4, of_decide_eq_true h5, of_decide_eq_true h6, of_decide_eq_true h7, cell_ok g1, file_ok g2, top⟩
            have hfi : ∀ f z, (f, z) ∈ l → PySem.W.findIn K (.ref (He.ga K x)) f = some none := fun f z hz => of_decide_eq_true (List.all_eq_true.mp h9 f (List.mem_map.mpr ⟨_, hz, rfl⟩))
            exact ⟨He.fAd K (x, some ("__init__" : Str)), _, ps, oex_ok h1, of_decide_eq_true h2, of_decide_eq_true h3,
              exi_ok (F := ⟨"__init__", d.qual, d.params, d.body, d.scope, [("__class__", cc)], c⟩) (k := 0) q g3 S hn rfl B hm har h0 hal hks hbo (hev _ _ _) hset hl hl9 hdb hcdd hfi hi,
              Binds.all fun us hu => hbd _ _ _ _ _ _ _ us hu, hg⟩
          | _ => cases h8
    | _ => rw [q] at hv; cases hv
/-- an exception's attribute -/
def xfkB (K : PySem.W.Frag) (C : Addr) (fs : List Str) : Bool := xfB K C && fs.all fun f => He.eqO (PySem.W.findIn K (.ref C) f) (some none)
theorem xfk_ok {K : PySem.W.Frag} {C : Addr} {fs : List Str} (h : xfkB K C fs = true) {f : Str} (hf : f ∈ fs) : XfK K C f := let ⟨h1, h2⟩ := Bool.and_eq_true_iff.mp h; ⟨xfB_ok h1, of_decide_eq_true (List.all_eq_true.mp h2 f hf)⟩
def exmB (K : PySem.W.Frag) (C : Addr) (cs : List Value) (b : Bool) : Bool := bB (PySem.W.exmAny K (.ref C) cs) (some b)
theorem exm_ok {K : PySem.W.Frag} {C : Addr} {cs : List Value} {b : Bool} (h : exmB K C cs b = true) : PySem.W.exmAny K (.ref C) cs = some b := of_decide_eq_true h
end DL
set_option maxRecDepth 100000
set_option maxHeartbeats 2000000
namespace DL
open PySem PySem.Spec PyProof.Rows L2 LamX NdefX
/-! a law that makes lambdas: its frame's cells -/
theorem cells_kind : ∀ {names : List (Str × NameKind)} {n : Nat} {acc : List (Str × Addr)} {y : Str} {c : Addr}, (names.map (·.1)).Nodup → (cellsFrom n names acc).lookup y = some c → names.lookup y = some .cell ∨ acc.lookup y = some c
  | [], n, acc, y, c, _, h => .inr h
  | (x, k) :: r, n, acc, y, c, nd, h => by
    have nd' := List.nodup_cons.mp (show (x :: r.map (·.1)).Nodup from nd)
    unfold cellsFrom at h
    have keep : r.lookup y = some .cell → List.lookup y ((x, k) :: r) = some .cell := fun q => by
      rw [List.lookup_cons]
      cases e : y == x with
      | true =>
        obtain rfl := beq_iff_eq.mp e
        exact absurd (List.mem_map.mpr ⟨_, PySem.mem_of_lookup q, rfl⟩) nd'.1
      | false => exact q
    cases hk : (k == NameKind.cell) with
    | true =>
      rw [hk, if_pos rfl] at h
      obtain rfl : k = .cell := by cases k <;> first | rfl | cases hk
      rcases cells_kind nd'.2 h with q | q
      · exact .inl (keep q)
      · rw [List.lookup_cons] at q ⊢
        cases e : y == x with
        | true => exact .inl rfl
        | false => rw [e] at q; exact .inr q
    | false =>
      rw [hk, if_neg Bool.false_ne_true] at h
      rcases cells_kind nd'.2 h with q | q
      · exact .inl (keep q)
      · exact .inr q
theorem cells_kind0 {names : List (Str × NameKind)} {n : Nat} {y : Str} {c : Addr} (nd : (names.map (·.1)).Nodup) (h : (cellsFrom n names []).lookup y = some c) : names.lookup y = some .cell := (cells_kind nd h).elim id fun q => by cases q
section
variable {P : Program} {w : World} {K : PySem.W.Frag} {mg : Str → Option Value} {base : Heap} {x qual : Str} {params : Arguments} {body : List Stmt} {scope : Scope} {dvs : List V} {kws : List (Str × V)} {f c : Addr} {fd : FuncData}
/-- okC_def for a def whose reading speaks of its own cells -/
theorem okN_def {CX : CXT} {N ps : List Str} {k : Nat} {sp : DSp} {wb : Nat → DWS} (F : FunD K x qual params body scope dvs kws f fd) (hc : CodeIs K f c) (sc : FnScope N ps scope) (len : ∀ ds S P E, sp ds S P E → ds.length = ps.length)
    (hb : ∀ (n : Nat) (A : Around) (outer : List PySem.Env) (s : Shared) (H : Hp) (E : XK), s.heap.objs.size + 1 = n → Room k (A.deeper (envOfC qual scope s.heap.objs.size f (.ref c))) → DSs (cxOf CX P w K mg base N qual scope f (.ref c) A outer s H E) (fun C d _ H' => E C d H') body (wb n))
    (hw : ∀ n ds S P E, S.all (lo S.length) = true → sp ds S P E → wb n (endsOf S.length P E) (startD N.length ds) S) : FnOk P w K mg base CX (k + 1) f fd ps (toSp K sp) := by
  obtain ⟨oc, od, dV, kV, doc, pm, an, cdv, ct, osl, rfl, lk, hcd, _, _⟩ := F.ex
  obtain ⟨c', rfl⟩ := He.codeIn_ref hcd
  obtain rfl : c' = c := hc _ _ _ _ _ lk rfl
  refine fn_of lk hcd sc (fun vs H Q E h => ?_) fun A outer s H vs Q E hr h => ?_
  · obtain ⟨M, mu, S, ds, P, Ex, ok, r, q, _⟩ := h
    rw [← r.len]
    exact len _ _ _ _ q
  · obtain ⟨M, mu, S, ds, P, Ex, ok, r, q, n, xx⟩ := h
    obtain ⟨t, p, rb⟩ := (hb _ A outer s H E rfl hr).ex
    exact ⟨t, p, rb.run M mu _ _ S H _ _ ok (env_start r) (hw _ ds S P Ex ok.scoped q) (eok_def ok n xx)⟩
end
/-! the parts of a text -/
def xBody : Stmt → List Stmt
  | .FunctionDef (body := b) .. => b
  | .For (body := b) .. => b
  | .While (body := b) .. => b
  | .If (body := b) .. => b
  | .Try (body := b) .. => b
  | _ => []
def xElse : Stmt → List Stmt
  | .If (orelse := b) .. => b
  | _ => []
def xVal : Stmt → Expr
  | .Assign (value := e) .. => e
  | .Return (value := some e) .. => e
  | .Expr (value := e) .. => e
  | _ => .Constant .none 0 ⟨0, 0, 0, 0⟩
def xTest : Stmt → Expr
  | .If (test := e) .. => e
  | .While (test := e) .. => e
  | _ => .Constant .none 0 ⟨0, 0, 0, 0⟩
def xN (i : Nat) (l : List Stmt) : Stmt := l.getD i (.Pass ⟨0, 0, 0, 0⟩)
def eNon : Expr := .Constant .none 0 ⟨0, 0, 0, 0⟩
def eElt (i : Nat) : Expr → Expr
  | .List (elts := l) .. => l.getD i eNon
  | .Tuple (elts := l) .. => l.getD i eNon
  | _ => eNon
def eArg (i : Nat) : Expr → Expr
  | .Call (args := l) .. => l.getD i eNon
  | _ => eNon
def eOpnd : Expr → Expr
  | .UnaryOp (operand := e) .. => e
  | _ => eNon
def eLeft : Expr → Expr
  | .Compare (left := e) .. => e
  | .BinOp (left := e) .. => e
  | _ => eNon
def eVals (i : Nat) : Expr → Expr
  | .BoolOp (values := l) .. => l.getD i eNon
  | _ => eNon
def lamP : Expr → Arguments
  | .Lambda p _ _ _ => p
  | _ => default
def lamB : Expr → Expr
  | .Lambda _ b _ _ => b
  | _ => eNon
def lamS : Expr → Scope
  | .Lambda _ _ s _ => s
  | _ => default
/-- the function that the lambda at e makes in the frame of st, whose first cell stands at n -/
def lamF (st : Stmt) (n : Nat) (e : Expr) (q : Str) (c' : Addr) : LF := ⟨q, lamP e, lamB e, lamS e, cloFrom (cellsFrom n (defScope st).names []) (lamS e).names [], c'⟩
end DL
set_option maxRecDepth 100000
set_option maxHeartbeats 2000000
namespace DL
open PySem PySem.Spec PyProof.Rows L2 LamX NdefX
/-! ### calls in general: any order of the parameters, defaults, exceptions -/
/-- where each parameter comes from: by position, a default, a keyword-only default, by keyword -/
inductive Pk where
  | p (i : Nat)
  | d (i : Nat)
  | m (i : Nat)
  | w (i : Nat)
def nth1 {α : Type} : List α → Nat → List α
  | [], _ => []
  | a :: _, 0 => [a]
  | _ :: r, i + 1 => nth1 r i
theorem nth1_0 {α : Type} {a : α} {r : List α} : nth1 (a :: r) 0 = [a] := rfl
theorem nth1_s {α : Type} {a : α} {r : List α} {i : Nat} : nth1 (a :: r) (i + 1) = nth1 r i := rfl
def pick {α : Type} (a b c d : List α) : List Pk → List α
  | [] => []
  | .p i :: r => nth1 a i ++ pick a b c d r
  | .d i :: r => nth1 b i ++ pick a b c d r
  | .m i :: r => nth1 c i ++ pick a b c d r
  | .w i :: r => nth1 d i ++ pick a b c d r
section
variable {α : Type} {a b c d : List α} {i : Nat} {r : List Pk}
theorem pick_nil : pick a b c d [] = [] := rfl
theorem pick_p : pick a b c d (.p i :: r) = nth1 a i ++ pick a b c d r := rfl
theorem pick_d : pick a b c d (.d i :: r) = nth1 b i ++ pick a b c d r := rfl
theorem pick_m : pick a b c d (.m i :: r) = nth1 c i ++ pick a b c d r := rfl
theorem pick_w : pick a b c d (.w i :: r) = nth1 d i ++ pick a b c d r := rfl
end
theorem vals_nth1 : ∀ {vs : List V} {us : List Value} (i : Nat), Vals vs us → Vals (nth1 vs i) (nth1 us i)
  | _, _, _, .nil => .nil
  | _, _, 0, .cons a _ => .cons a .nil
  | _, _, i + 1, .cons _ h => vals_nth1 i h
theorem pick_vals {a b c d : List V} {a' b' c' d' : List Value} (h1 : Vals a a') (h2 : Vals b b') (h3 : Vals c c') (h4 : Vals d d') : ∀ sel : List Pk, Vals (pick a b c d sel) (pick a' b' c' d' sel)
  | [] => .nil
  | .p i :: r => Vals.append (vals_nth1 i h1) (pick_vals h1 h2 h3 h4 r)
  | .d i :: r => Vals.append (vals_nth1 i h2) (pick_vals h1 h2 h3 h4 r)
  | .m i :: r => Vals.append (vals_nth1 i h3) (pick_vals h1 h2 h3 h4 r)
  | .w i :: r => Vals.append (vals_nth1 i h4) (pick_vals h1 h2 h3 h4 r)
section
variable {K : PySem.W.Frag} {M : Addr → Prop} {mu : List Addr} {H : Hp}
theorem rs_nth1 : ∀ {ds : List D} {vs : List V} (i : Nat), Rs K M mu H ds vs → Rs K M mu H (nth1 ds i) (nth1 vs i)
  | [], _, i, h => by rw [show _ = [] from h]; rfl
  | _ :: _, _, 0, ⟨v, r, e, a, t⟩ => by rw [e]; exact ⟨v, [], rfl, a, rfl⟩
  | _ :: _, _, i + 1, ⟨v, r, e, a, t⟩ => by rw [e]; exact rs_nth1 i t
theorem pick_rs {a b c d : List D} {a' b' c' d' : List V} (h1 : Rs K M mu H a a') (h2 : Rs K M mu H b b') (h3 : Rs K M mu H c c') (h4 : Rs K M mu H d d') : ∀ sel : List Pk, Rs K M mu H (pick a b c d sel) (pick a' b' c' d' sel)
  | [] => rfl
  | .p i :: r => Rs.app (rs_nth1 i h1) (pick_rs h1 h2 h3 h4 r)
  | .d i :: r => Rs.app (rs_nth1 i h2) (pick_rs h1 h2 h3 h4 r)
  | .m i :: r => Rs.app (rs_nth1 i h3) (pick_rs h1 h2 h3 h4 r)
  | .w i :: r => Rs.app (rs_nth1 i h4) (pick_rs h1 h2 h3 h4 r)
end
abbrev GD := List D → List D → List D → List D
def gdP (sel : List Pk) (dD mD : List D) : GD := fun s ds es => pick (s ++ ds) dD mD es sel
theorem gdP_ap {sel : List Pk} {dD mD s ds es : List D} : gdP sel dD mD s ds es = pick (s ++ ds) dD mD es sel := rfl
/-- how a call binds: n values by position (self among them), the keywords ks -/
def KB (K : PySem.W.Frag) (fd : FuncData) (ps : List Str) (n : Nat) (ks : List Str) (gD : GD) : Prop := ∃ g gV, KBn K fd ps n ks g gV ∧ GRel K gD gV
/-- constants as defaults -/
def Cons (K : PySem.W.Frag) (dD : List D) (dvs : List V) : Prop := ∀ M mu H, Rs K M mu H dD dvs
section
variable {K : PySem.W.Frag} {x qual : Str} {params : Arguments} {body : List Stmt} {scope : Scope} {dvs : List V} {kws ms : List (Str × V)} {f : Addr} {fd : FuncData} {ps ks : List Str} {n : Nat} {dD mD : List D}
theorem grel_pick (sel : List Pk) {dvs mvs : List V} (rd : Cons K dD dvs) (rm : Cons K mD mvs) : GRel K (gdP sel dD mD) (fun vs zs => pick vs dvs mvs zs sel) := fun M mu H s ds es u us ws r1 r2 r3 => pick_rs (r1.app r2) (rd M mu H) (rm M mu H) r3 sel
theorem kb_A (F : FunD K x qual params body scope [] [] f fd) (sel : List Pk)
    (h : ∀ (kV doc pm : Value) (an : Option Addr) (cdv ct : Value) (us ws : List Value), us.length = n → ws.length = ks.length → bindArgs (PySem.W.fnOf x qual params body scope .none kV doc pm an cdv ct) ⟨us, ks.zip ws⟩ = pure (ps.zip (pick us [] [] ws sel))) : KB K fd ps n ks (gdP sel [] []) := by
  obtain ⟨oc, od, dV, kV, doc, pm, an, cdv, ct, osl, rfl, lk, hcd, hD, hK⟩ := F.ex
  rcases hD with ⟨_, rfl⟩ | ⟨e, _⟩
  · exact ⟨fun us ws => pick us [] [] ws sel, fun vs zs => pick vs [] [] zs sel, ⟨fun s us ws X l1 l2 => BindsTo.of_eq (h kV doc pm an cdv ct us ws l1 l2), fun r1 r2 => pick_vals r1 .nil .nil r2 sel⟩, grel_pick sel (fun _ _ _ => rfl) (fun _ _ _ => rfl)⟩
  · exact absurd rfl e
theorem kb_B (F : FunD K x qual params body scope dvs kws f fd) (sel : List Pk) (hd : dvs ≠ []) (rd : Cons K dD dvs)
    (h : ∀ (T : Addr) (kV doc pm : Value) (an : Option Addr) (cdv ct : Value) (us its ws : List Value), us.length = n → its.length = dvs.length → ws.length = ks.length →
      ∃ k, bindArgs (PySem.W.fnOf x qual params body scope (.ref T) kV doc pm an cdv ct) ⟨us, ks.zip ws⟩ = seqItems? (.ref T) >>= k ∧ k (some its.toArray) = pure (ps.zip (pick us its [] ws sel))) : KB K fd ps n ks (gdP sel dD []) := by
  obtain ⟨its, hb⟩ := FunD.kbindsD (ps := ps) F n ks (fun us its ws => pick us its [] ws sel) hd (fun r1 r2 r3 => pick_vals r1 r2 .nil r3 sel) h
  exact ⟨_, _, hb, grel_pick sel rd (fun _ _ _ => rfl)⟩
theorem kb_C (F : FunD K x qual params body scope [] kws f fd) (sel : List Pk) (ms : List (Str × V)) (hk : kws ≠ []) (hms : ∀ q ∈ ms, q ∈ kws) (rm : Cons K mD (ms.map (·.2)))
    (h : ∀ (D : Addr) (doc pm : Value) (an : Option Addr) (cdv ct : Value) (us mv ws : List Value), us.length = n → mv.length = ms.length → ws.length = ks.length →
      KwChain D ((ms.map (·.1)).zip mv) (bindArgs (PySem.W.fnOf x qual params body scope .none (.ref D) doc pm an cdv ct) ⟨us, ks.zip ws⟩) (ps.zip (pick us [] mv ws sel))) : KB K fd ps n ks (gdP sel [] mD) := by
  obtain ⟨mv, hb⟩ := FunD.kbinds0 (ps := ps) F n ks ms (fun us mv ws => pick us [] mv ws sel) hk hms (fun r1 r2 r3 => pick_vals r1 .nil r2 r3 sel) h
  exact ⟨_, _, hb, grel_pick sel (fun _ _ _ => rfl) rm⟩
theorem kb_D (F : FunD K x qual params body scope dvs kws f fd) (sel : List Pk) (ms : List (Str × V)) (hd : dvs ≠ []) (hk : kws ≠ []) (hms : ∀ q ∈ ms, q ∈ kws) (rd : Cons K dD dvs) (rm : Cons K mD (ms.map (·.2)))
    (h : ∀ (T D : Addr) (doc pm : Value) (an : Option Addr) (cdv ct : Value) (us its mv ws : List Value), us.length = n → its.length = dvs.length → mv.length = ms.length → ws.length = ks.length →
      ∃ k, bindArgs (PySem.W.fnOf x qual params body scope (.ref T) (.ref D) doc pm an cdv ct) ⟨us, ks.zip ws⟩ = seqItems? (.ref T) >>= k ∧ KwChain D ((ms.map (·.1)).zip mv) (k (some its.toArray)) (ps.zip (pick us its mv ws sel))) : KB K fd ps n ks (gdP sel dD mD) := by
  obtain ⟨its, mv, hb⟩ := FunD.kbinds (ps := ps) F n ks ms (fun us its mv ws => pick us its mv ws sel) hd hk hms (fun r1 r2 r3 r4 => pick_vals r1 r2 r3 r4 sel) h
  exact ⟨_, _, hb, grel_pick sel rd rm⟩
end
/-! what passes -/
structure PassE (X : Cx) (W : WX) (CX : CXT) (Es : L2.St → XK) (m : Ex → Ex) : Prop where
  at_ : ∀ σ, PassesAt CX X σ (Es σ)
  rd : ∀ {M : Addr → Prop} {mu : List Addr} {H : Hp} (σ : L2.St) {E : Ex}, Exc X.K M mu H E (fun C d H' => W C d σ H') → Exc X.K M mu H (m E) (Es σ)
abbrev sameE : Ex → Ex := fun E => E
abbrev quietE : Ex → Ex := fun _ => EF
theorem passE0 {X : Cx} {W : WX} : PassE X W CX0 (WE W) sameE := ⟨fun σ => pass00 σ, fun _ _ h => h⟩
theorem passEW {X : Cx} {W : WX} (tk : Takes X W) : PassE X W (L2.CX X.prog X.w) (WE W) sameE := ⟨fun σ => passAt tk σ, fun _ _ h => h⟩
theorem passEQ {X : Cx} {W : WX} : PassE X W (L2.CX X.prog X.w) (fun _ _ _ _ => False) quietE := ⟨fun σ pins H s e s' I h => by
  obtain ⟨_, _, _, _, _, _, _, _, _, _, _, _, z⟩ := h
  exact z.elim, fun _ _ _ _ _ _ _ _ _ _ _ _ q => q.elim⟩
section
variable {X : Cx} {W : WX} {CX : CXT} {j k n mm : Nat} {ps ks : List Str} {sp : DSp} {x m : Str} {p pos apos : Pos} {e o : Expr} {es : List Expr} {kws : List Keyword} {w wk : DWA} {wo : DW} {C : Addr} {gD : GD} {Es : L2.St → XK} {me : Ex → Ex} {pl : Sem Bool}
/-- a def by its name -/
def CalG (P : Program) (w : World) (K : PySem.W.Frag) (mg : Str → Option Value) (base : Heap) (CX : CXT) (k : Nat) (x : Str) (n : Nat) (ks : List Str) (sp : DSp) (gD : GD) : Prop :=
  ∃ f fd ps g gV, FnOk P w K mg base CX k f fd ps (toSp K sp) ∧ mg x = some (.ref f) ∧ PySem.W.keepIn K (.ref f) = true ∧ KBn K fd ps n ks g gV ∧ GRel K gD gV
/-- a method -/
def MtG (P : Program) (w : World) (K : PySem.W.Frag) (mg : Str → Option Value) (base : Heap) (CX : CXT) (k : Nat) (C : Addr) (m : Str) (n : Nat) (ks : List Str) (sp : DSp) (gD : GD) : Prop :=
  ∃ f fd ps g gV, FnOk P w K mg base CX k f fd ps (toSp K sp) ∧ Cls K C ∧ Meth K C m f ∧ KBn K fd ps (n + 1) ks g gV ∧ GRel K gD gV
/-- a new instance -/
def NewG (P : Program) (w : World) (K : PySem.W.Frag) (mg : Str → Option Value) (base : Heap) (CX : CXT) (k : Nat) (x : Str) (C : Addr) (n : Nat) (ks : List Str) (sp : DSp) (gD : GD) : Prop :=
  ∃ f fd ps g gV, Mk K C f ∧ FnOk P w K mg base CX k f fd ps (toSp K sp) ∧ mg x = some (.ref C) ∧ KBn K fd ps (n + 1) ks g gV ∧ GRel K gD gV
def wCallG (me : Ex → Ex) (sp : DSp) (n mm : Nat) (gD : GD) (w wk : DWA) : DW := fun ρ S P E => w ρ S (fun ds S1 => wk ρ S1 (fun es S2 => ds.length = n ∧ es.length = mm ∧ sp (gD [] ds es) S2 P (me E)) E) E
def wMethG (me : Ex → Ex) (C : Addr) (m : Str) (sp : DSp) (n mm : Nat) (gD : GD) (wo : DW) (w wk : DWA) : DW := fun ρ S P E => wo ρ S (fun x S1 => recvD C m x S1 ∧ w ρ S1 (fun ds S2 => wk ρ S2 (fun es S3 => ds.length = n ∧ es.length = mm ∧ sp (gD [x] ds es) S3 P (me E)) E) E) E
def makeG (C : Addr) (sp : DSp) (args : List D → List D) (S : Sto) (P : DK) (E : Ex) : Prop := sp (args [.loc S.length]) (S ++ [.obj C []]) (fun d S' => d = .non ∧ (match S'[S.length]? with
  | some (.obj C' fs) => C' = C ∧ S'.length = S.length + 1 ∧ lofs S.length fs = true ∧ (S'.take S.length).all (lo S.length) = true ∧ P (.obj C fs) (S'.take S.length)
  | _ => False)) (fun c fs S' => lofs S.length fs = true ∧ (S'.take S.length).all (lo S.length) = true ∧ E c fs (S'.take S.length))
def wMakeG (me : Ex → Ex) (C : Addr) (sp : DSp) (n mm : Nat) (gD : GD) (w wk : DWA) : DW := fun ρ S P E => w ρ S (fun ds S1 => wk ρ S1 (fun es S2 => ds.length = n ∧ es.length = mm ∧ makeG C sp (fun self => gD self ds es) S2 P (me E)) E) E
theorem run_fnAt {sp : Sp} {E : XK} {g : List Value → List Value → List Value} {gV : List V → List V → List V} {f : Addr} {fd : FuncData} {pins : List (Addr × Obj)} {σ : L2.St} {H : Hp} {s : Shared} {Q : VK} {us ws : List Value} {vs zs : List V} (F : FnOk X.prog X.w X.K X.mg X.base CX k f fd ps sp) (hr : Room k X.A) (hb : KBn X.K fd ps n ks g gV) (hx : PassesAt CX X σ E)
    (I : Inv X pins σ H s) (r : Vals vs us) (rz : Vals zs ws) (l1 : vs.length = n) (l2 : zs.length = ks.length) (h : sp (gV vs zs) H Q E) : wpAny (model X.prog X.w) X.A (call (.ref f) us (ks.zip ws)) (EP X pins σ Q) X.xe s := by
  have r2 := hb.rel r rz
  refine wpAny_call (codeAny_mono (F.run X.A X.stack s H ⟨us, ks.zip ws⟩ (g us ws) (gV vs zs) Q E hr I.env0 (hb.to s us ws I.kIn (r.length.symm.trans l1) (rz.length.symm.trans l2)) r2 h) fun r s' hq => ?_)
  cases r with
  | error e => exact hx pins H s e s' I hq
  | ok fl =>
    cases fl with
    | ret u => exact I.after hq
    | next => exact False.elim hq
    | brk => exact False.elim hq
    | cont => exact False.elim hq
theorem run_makeAt {sp : Sp} {E : XK} {g : List Value → List Value → List Value} {gV : List V → List V → List V} {f : Addr} {fd : FuncData} {pins : List (Addr × Obj)} {σ : L2.St} {H : Hp} {s : Shared} {Q : VK} {us ws : List Value} {vs zs : List V} (M : Mk X.K C f) (F : FnOk X.prog X.w X.K X.mg X.base CX k f fd ps sp) (hr : Room (k + 1) X.A) (hb : KBn X.K fd ps (n + 1) ks g gV) (hx : PassesAt CX X σ E)
    (I : Inv X pins σ H s) (r : Vals vs us) (rz : Vals zs ws) (l1 : vs.length = n) (l2 : zs.length = ks.length)
    (h : ∀ x dx, H x = none → H dx = none → dx ≠ x → sp (gV (.ref x :: vs) zs) (upd (upd H dx (.own x)) x (.ins C dx [])) (fun v H2 => v = .non ∧ Q (.ref x) H2) E) :
    wpAny (model X.prog X.w) X.A (call (.ref C) us (ks.zip ws)) (EP X pins σ Q) X.xe s := by
  have hq := h (s.heap.objs.size + 1) s.heap.objs.size (I.hok.fresh (Nat.le_succ _)) (I.hok.fresh (Nat.le_refl _)) (Nat.ne_of_lt (Nat.lt_succ_self _))
  have I2 := Inv.made (C := C) I
  have r1 : Vals (V.ref (s.heap.objs.size + 1) :: vs) (Value.ref (s.heap.objs.size + 1) :: us) := .cons rfl r
  have r2 := hb.rel r1 rz
  have n1 : (Value.ref (s.heap.objs.size + 1) :: us).length = n + 1 := by
    rw [List.length_cons, ← r.length, l1]
  refine wpAny_call (make_map (f := f) I.kIn M.makes M.init (beq_iff_eq.mp M.fn) (codeAny_mono (F.run _ X.stack _ _ ⟨Value.ref (s.heap.objs.size + 1) :: us, ks.zip ws⟩ (g (Value.ref (s.heap.objs.size + 1) :: us) ws) _ _ E (hr.make C us (ks.zip ws))
    (I2.env0.make C us (ks.zip ws)) (hb.to _ (Value.ref (s.heap.objs.size + 1) :: us) ws I2.kIn n1 (rz.length.symm.trans l2)) r2 hq) fun r s' hq' => ?_))
  cases r with
  | error e => exact hx pins _ _ e s' I2 hq'
  | ok fl =>
    cases fl with
    | ret u =>
      obtain ⟨v, H', I3, rv, ev, q3⟩ := I2.after hq'
      subst ev
      exact ⟨rv, ⟨V.ref (s.heap.objs.size + 1), H', I3, rfl, q3⟩⟩
    | next => exact False.elim hq'
    | brk => exact False.elim hq'
    | cont => exact False.elim hq'
theorem makeG_run {M : Addr → Prop} {mu : List Addr} {H : Hp} {S : Sto} {P : DK} {Q : VK} {Ee : Ex} {E : XK} {K : PySem.W.Frag} (ok : Wok K M mu H S) {args : List D → List D} {vargs : List V → List V}
    (ha : ∀ M' mu' H' ds vs, Ext0 M mu H M' mu' H' → Rs K M' mu' H' ds vs → Rs K M' mu' H' (args ds) (vargs vs)) (h : makeG C sp args S P Ee) (n : Nrm K M mu H P Q) (xx : Exc K M mu H Ee E) :
    ∀ x dx, H x = none → H dx = none → dx ≠ x → toSp K sp (vargs [.ref x]) (upd (upd H dx (.own x)) x (.ins C dx [])) (fun v H3 => v = .non ∧ Q (.ref x) H3) E := by
  intro x dx hx hdx hne
  obtain ⟨ok1, k1, _⟩ := ok.alloc hdx (.own x)
  have hx1 : (upd H dx (.own x)) x = none := by rw [upd_ne (Ne.symm hne)]; exact hx
  obtain ⟨ex2, oka⟩ := ok1.aside hx1 (.ins C dx [])
  have np : x ∉ mu := fun m => ok.tr x (ok.sub x m) hx
  have nM : ¬ M x := fun m => ok.tr x m hx
  obtain ⟨ok3, ex3⟩ := oka.pushC (c := .obj C []) np ⟨dx, [], upd_same, rfl, rfl⟩
  have e03 : Ext0 M mu H (fun a => M a ∨ a = x) (mu ++ [x]) (upd (upd H dx (.own x)) x (.ins C dx [])) := ⟨fun b q hb nb => ex2.keepM b q (k1 b q hb (nb.imp (fun nb m => nb (ok.sub b m)) id)) nb, ⟨[x], rfl⟩, fun a h => h.imp id fun e => by rw [e]; exact hx⟩
  have keep : ∀ {H3 : Hp}, Keep (mu ++ [x]) (upd (upd H dx (.own x)) x (.ins C dx [])) H3 → Keep mu H H3 := fun k3 b q hb nb => by
    have nbx : b ≠ x := ne_of_none hb hx
    refine k3 b q ?_ (nb.imp (fun nb m => (List.mem_append.mp m).elim nb fun z => nbx (List.mem_singleton.mp z)) id)
    rw [upd_ne nbx]
    exact k1 b q hb nb
  refine ⟨_, mu ++ [x], _, args [.loc S.length], _, _, ok3, ha _ _ _ _ _ e03 ⟨.ref x, [], rfl, ⟨x, rfl, by rw [ok.len]; simp⟩, rfl⟩, h, fun v H3 d S3 k3 ok4 r4 h4 => ?_, fun c d H3 cc fs S3 k3 ok4 xr h4 => ?_⟩
  · obtain ⟨rfl, h4⟩ := h4
    refine ⟨r4, ?_⟩
    split at h4
    · rename_i C' fs e1
      obtain ⟨rfl, hl, h5, h6, h7⟩ := h4
      have hx3 : (mu ++ [x])[S.length]? = some x := by rw [ok.len]; simp
      obtain ⟨dx', gs, hv, hk, rv⟩ : Cl K (fun a => M a ∨ a = x) (mu ++ [x]) H3 (.obj C' fs) x := ok4.at_ S.length x _ hx3 e1
      rw [ok.len] at h5 h6 h7
      exact n (.ref x) H3 (.obj C' fs) _ (keep k3) (ok4.low (fun a h => .inl h) ok.sub h6) ⟨x, dx', gs, rfl, nM, hv, hk, Rfs.low (fun a h => .inl h) _ _ h5 rv⟩ h7
    · exact h4.elim
  · obtain ⟨h5, h6, h7⟩ := h4
    rw [ok.len] at h5 h6 h7
    obtain ⟨rfl, a, gs, rfl, g1, g2, g3, g4⟩ := xr
    exact xx _ _ _ cc fs _ (keep k3) (ok4.low (fun a h => .inl h) ok.sub h6) ⟨rfl, a, gs, rfl, fun m => g1 (.inl m), g2, g3, Rfs.low (fun a h => .inl h) _ _ h5 g4⟩ h7
def tG (n mm : Nat) (sp : Sp) (gV : List V → List V → List V) (Es : L2.St → XK) (t tk : TA) : TE := fun σ H Q => t σ H fun vs H1 => tk σ H1 fun zs H2 => vs.length = n ∧ zs.length = mm ∧ sp (gV vs zs) H2 Q (Es σ)
def tMG (C : Addr) (m : Str) (n mm : Nat) (sp : Sp) (gV : List V → List V → List V) (Es : L2.St → XK) (to : TE) (t tk : TA) : TE := fun σ H Q => to σ H fun x H0 => ∃ a dx fs, x = V.ref a ∧ H0 a = some (.ins C dx fs) ∧ fs.lookup m = none ∧ t σ H0 fun vs H1 => tk σ H1 fun zs H2 => vs.length = n ∧ zs.length = mm ∧ sp (gV (.ref a :: vs) zs) H2 Q (Es σ)
def tNG (C : Addr) (n mm : Nat) (sp : Sp) (gV : List V → List V → List V) (Es : L2.St → XK) (t tk : TA) : TE := fun σ H Q => t σ H fun vs H1 => tk σ H1 fun zs H2 => vs.length = n ∧ zs.length = mm ∧ ∀ x dx, H2 x = none → H2 dx = none → dx ≠ x →
  sp (gV (.ref x :: vs) zs) (upd (upd H2 dx (.own x)) x (.ins C dx [])) (fun v H3 => v = .non ∧ Q (.ref x) H3) (Es σ)
theorem rd_G {t tk : TA} {gV : List V → List V → List V} (ra : RdA X.K W t w) (rk : RdA X.K W tk wk) (hg : GRel X.K gD gV) (pe : PassE X W CX Es me) : Rd X.K W (tG n mm (toSp X.K sp) gV Es t tk) (wCallG me sp n mm gD w wk) := by
  refine ⟨fun M mu σ ρ S H P E Q ok en hw nn x => ?_⟩
  refine ra.run M mu σ ρ S H _ E _ ok en hw (fun vs H1 ds S1 k1 ok1 r1 h1 => ?_) x
  refine rk.run M mu σ ρ S1 H1 _ E _ ok1 (en.keep ok k1) h1 (fun us H2 es S2 k2 ok2 r2 h2 => ?_) (x.mono k1)
  exact ⟨by rw [← r1.len]; exact h2.1, by rw [← r2.len]; exact h2.2.1, M, mu, S2, gD [] ds es, P, me E, ok2, hg M mu H2 [] ds es [] vs us rfl (r1.keep ok1 k2) r2, h2.2.2, nn.mono (k1.trans k2), pe.rd σ (x.mono (k1.trans k2))⟩
theorem rd_MG {to : TE} {t tk : TA} {gV : List V → List V → List V} (ro : Rd X.K W to wo) (ra : RdA X.K W t w) (rk : RdA X.K W tk wk) (hg : GRel X.K gD gV) (pe : PassE X W CX Es me) : Rd X.K W (tMG C m n mm (toSp X.K sp) gV Es to t tk) (wMethG me C m sp n mm gD wo w wk) := by
  refine ⟨fun M mu σ ρ S H P E Q ok en hw nn x => ?_⟩
  refine ro.run M mu σ ρ S H _ E _ ok en hw (fun v H0 d S0 k0 ok0 r0 h0 => ?_) x
  obtain ⟨hr, h0⟩ := h0
  unfold recvD at hr
  cases e1 : val S0 d with
  | obj C' fs =>
    simp only [e1] at hr
    obtain ⟨rfl, hn⟩ := hr
    obtain ⟨a, dx, gs, rfl, ha, hk, rv⟩ := obj_at ok0 r0 e1
    refine ⟨a, dx, gs, rfl, ha, rfs_no (K := X.K) (M := M) (mu := mu) (H := H0) m hk hn, ?_⟩
    refine ra.run M mu σ ρ S0 H0 _ E _ ok0 (en.keep ok k0) h0 (fun vs H1 ds S1 k1 ok1 r1 h1 => ?_) (x.mono k0)
    refine rk.run M mu σ ρ S1 H1 _ E _ ok1 ((en.keep ok k0).keep ok0 k1) h1 (fun us H2 es S2 k2 ok2 r2 h2 => ?_) (x.mono (k0.trans k1))
    exact ⟨by rw [← r1.len]; exact h2.1, by rw [← r2.len]; exact h2.2.1, M, mu, S2, gD [d] ds es, P, me E, ok2, hg M mu H2 [d] ds es [.ref a] vs us ⟨_, [], rfl, r0.keep ok0 (k1.trans k2), rfl⟩ (r1.keep ok1 k2) r2, h2.2.2, nn.mono (k0.trans (k1.trans k2)), pe.rd σ (x.mono (k0.trans (k1.trans k2)))⟩
  | _ => simp only [e1] at hr
theorem rd_NG {t tk : TA} {gV : List V → List V → List V} (ra : RdA X.K W t w) (rk : RdA X.K W tk wk) (hg : GRel X.K gD gV) (pe : PassE X W CX Es me) : Rd X.K W (tNG C n mm (toSp X.K sp) gV Es t tk) (wMakeG me C sp n mm gD w wk) := by
  refine ⟨fun M mu σ ρ S H P E Q ok en hw nn x => ?_⟩
  refine ra.run M mu σ ρ S H _ E _ ok en hw (fun us H1 ds S1 k1 ok1 r1 h1 => ?_) x
  refine rk.run M mu σ ρ S1 H1 _ E _ ok1 (en.keep ok k1) h1 (fun ws H2 es S2 k2 ok2 r2 h2 => ?_) (x.mono k1)
  obtain ⟨l1, l2, h2⟩ := h2
  have r1' := r1.keep ok1 k2
  refine ⟨by rw [← r1.len]; exact l1, by rw [← r2.len]; exact l2, ?_⟩
  exact makeG_run ok2 (vargs := fun u => gV (u ++ us) ws) (fun M' mu' H' s u e0 r => hg M' mu' H' s ds es u us ws r (Rs.mono e0 _ _ r1') (Rs.mono e0 _ _ r2)) h2 (nn.mono (k1.trans k2)) (pe.rd σ (x.mono (k1.trans k2)))
theorem rd_nil : RdA X.K W tNil wNil := ⟨fun M mu σ ρ S H P E Q ok en hw n x => n [] H [] S (.refl _ _) ok rfl hw⟩
theorem de_callG (c : CalG X.prog X.w X.K X.mg X.base CX j x n ks sp gD) (hr : Room k X.A) (pe : PassE X W CX Es me) (ha : DA X W (e :: es) w) (hk : DKw X W kws wk) (hjk : j ≤ k := by first | decide | exact Nat.le_refl _ | omega) (hg : Gl X x := by rfl) (hall : (backToKw pos (keywordEach kws X.env)).all (·.1.isSome) = true := by rfl)
    (hks : (backToKw pos (keywordEach kws X.env)).filterMap (·.1) = ks := by rfl) (hdb : (x == ("__debug__" : Str)) = false := by decide) (he : starEach (e :: es) X.env = (false, eval e X.env) :: starEach es X.env := by rfl)
    (hpl : ((backTo pos (starEach (e :: es) X.env)).any (·.1) || (backToKw pos (keywordEach kws X.env)).any (·.1.isNone)) = false := by rfl) :
    DE X W (.Call (.Name x p) (e :: es) kws pos) (wCallG me sp n ks.length gD w wk) := by
  obtain ⟨f, fd, ps, g, gV, F, hm, hkp, hb, hgr⟩ := c
  obtain ⟨t, pa, ra⟩ := ha.ex
  obtain ⟨tk, pk, rk⟩ := hk.ex
  refine ⟨tG n ks.length (toSp X.K sp) gV Es t tk, ⟨fun pins s σ H Q I h => ?_⟩, rd_G ra rk hgr pe⟩
  refine wpAny_Call_Name_kw (ld_glob I hg hm ?_ hdb)
  refine PySem.W.callWith_KW (h₀ := X.base) I.ok.mod.kin hkp hall (thn (pa.run pos pins s σ H _ I h) fun us s1 ⟨vs, H1, I1, r, q⟩ => ?_) hpl he
  refine thn (pk.run pos pins s1 σ H1 _ I1 q) fun ws s2 ⟨zs, H2, I2, rz, l1, l2, q2⟩ => ⟨I2.kIn, ?_⟩
  rw [hks]
  exact run_fnAt F (hr.mono hjk) hb (pe.at_ σ) I2 r rz l1 l2 q2
theorem de_callG0 (c : CalG X.prog X.w X.K X.mg X.base CX j x 0 ks sp gD) (hr : Room k X.A) (pe : PassE X W CX Es me) (hk : DKw X W kws wk) (hjk : j ≤ k := by first | decide | exact Nat.le_refl _ | omega) (hg : Gl X x := by rfl) (hall : (backToKw pos (keywordEach kws X.env)).all (·.1.isSome) = true := by rfl)
    (hks : (backToKw pos (keywordEach kws X.env)).filterMap (·.1) = ks := by rfl) (hdb : (x == ("__debug__" : Str)) = false := by decide) (hpl : ((backTo pos (starEach [] X.env)).any (·.1) || (backToKw pos (keywordEach kws X.env)).any (·.1.isNone)) = false := by rfl) :
    DE X W (.Call (.Name x p) [] kws pos) (wCallG me sp 0 ks.length gD wNil wk) := by
  obtain ⟨f, fd, ps, g, gV, F, hm, hkp, hb, hgr⟩ := c
  obtain ⟨tk, pk, rk⟩ := hk.ex
  refine ⟨tG 0 ks.length (toSp X.K sp) gV Es tNil tk, ⟨fun pins s σ H Q I h => ?_⟩, rd_G rd_nil rk hgr pe⟩
  refine wpAny_Call_Name_kw (ld_glob I hg hm ?_ hdb)
  refine PySem.W.callWith_KW0 (h₀ := X.base) I.ok.mod.kin hkp hall ?_ hpl
  refine thn (pk.run pos pins s σ H _ I h) fun ws s2 ⟨zs, H2, I2, rz, l1, l2, q2⟩ => ⟨I2.kIn, ?_⟩
  rw [hks]
  exact run_fnAt (us := []) (vs := []) F (hr.mono hjk) hb (pe.at_ σ) I2 .nil rz rfl l2 q2
theorem de_methG (c : MtG X.prog X.w X.K X.mg X.base CX j C m n ks sp gD) (hr : Room k X.A) (pe : PassE X W CX Es me) (ho : DE X W o wo) (ha : DA X W (e :: es) w) (hk : DKw X W kws wk) (hjk : j ≤ k := by first | decide | exact Nat.le_refl _ | omega) (hall : (backToKw pos (keywordEach kws X.env)).all (·.1.isSome) = true := by rfl)
    (hks : (backToKw pos (keywordEach kws X.env)).filterMap (·.1) = ks := by rfl) (he : starEach (e :: es) X.env = (false, eval e X.env) :: starEach es X.env := by rfl)
    (hpl : ((backTo pos (starEach (e :: es) X.env)).any (·.1) || (backToKw pos (keywordEach kws X.env)).any (·.1.isNone)) = false := by rfl)
    (ht : eval (.Call (.Attribute o m apos) (e :: es) kws pos) X.env = (do
      let ov ← eval o X.env
      standAt apos.atName
      let (f, first) ← holding [ov] (getMethod ov m pl)
      callWith pos f first (backTo pos (starEach (e :: es) X.env)) (backToKw pos (keywordEach kws X.env))) := by rfl) : DE X W (.Call (.Attribute o m apos) (e :: es) kws pos) (wMethG me C m sp n ks.length gD wo w wk) := by
  obtain ⟨f, fd, ps, g, gV, F, c, hm, hb, hgr⟩ := c
  obtain ⟨to, po, ro⟩ := ho.ex
  obtain ⟨t, pa, ra⟩ := ha.ex
  obtain ⟨tk, pk, rk⟩ := hk.ex
  refine ⟨tMG C m n ks.length (toSp X.K sp) gV Es to t tk, ⟨fun pins s σ H Q I h => ?_⟩, rd_MG ro ra rk hgr pe⟩
  refine PySem.W.methodCall_KW (pl := pl) (thn (po.run pins s σ H _ I h) fun u s1 ⟨x, H1, I1, rx, a, dx, fs, ex, ea, l, q⟩ => ?_) ht
  subst ex
  obtain rfl : u = Value.ref a := rx
  refine getmeth_ok I1 ea c hm l ?_
  refine PySem.W.callWith_KW (first := [.ref a]) (h₀ := X.base) I.ok.mod.kin hm.kp hall (thn (pa.run pos pins s1 σ H1 _ I1 q) fun us s2 ⟨vs, H2, I2, r, q2⟩ => ?_) hpl he
  refine thn (pk.run pos pins s2 σ H2 _ I2 q2) fun ws s3 ⟨zs, H3, I3, rz, l1, l2, q3⟩ => ⟨I3.kIn, ?_⟩
  rw [hks]
  exact run_fnAt (us := .ref a :: us) (vs := .ref a :: vs) F (hr.mono hjk) hb (pe.at_ σ) I3 (.cons rfl r) rz (by rw [List.length_cons, l1]) l2 q3
theorem de_methG0 (c : MtG X.prog X.w X.K X.mg X.base CX j C m 0 ks sp gD) (hr : Room k X.A) (pe : PassE X W CX Es me) (ho : DE X W o wo) (hk : DKw X W kws wk) (hjk : j ≤ k := by first | decide | exact Nat.le_refl _ | omega) (hall : (backToKw pos (keywordEach kws X.env)).all (·.1.isSome) = true := by rfl)
    (hks : (backToKw pos (keywordEach kws X.env)).filterMap (·.1) = ks := by rfl) (hpl : ((backTo pos (starEach [] X.env)).any (·.1) || (backToKw pos (keywordEach kws X.env)).any (·.1.isNone)) = false := by rfl)
    (ht : eval (.Call (.Attribute o m apos) [] kws pos) X.env = (do
      let ov ← eval o X.env
      standAt apos.atName
      let (f, first) ← holding [ov] (getMethod ov m pl)
      callWith pos f first (backTo pos (starEach [] X.env)) (backToKw pos (keywordEach kws X.env))) := by rfl) : DE X W (.Call (.Attribute o m apos) [] kws pos) (wMethG me C m sp 0 ks.length gD wo wNil wk) := by
  obtain ⟨f, fd, ps, g, gV, F, c, hm, hb, hgr⟩ := c
  obtain ⟨to, po, ro⟩ := ho.ex
  obtain ⟨tk, pk, rk⟩ := hk.ex
  refine ⟨tMG C m 0 ks.length (toSp X.K sp) gV Es to tNil tk, ⟨fun pins s σ H Q I h => ?_⟩, rd_MG ro rd_nil rk hgr pe⟩
  refine PySem.W.methodCall_KW (pl := pl) (thn (po.run pins s σ H _ I h) fun u s1 ⟨x, H1, I1, rx, a, dx, fs, ex, ea, l, q⟩ => ?_) ht
  subst ex
  obtain rfl : u = Value.ref a := rx
  refine getmeth_ok I1 ea c hm l ?_
  refine PySem.W.callWith_KW0 (first := [.ref a]) (h₀ := X.base) I.ok.mod.kin hm.kp hall (thn (pk.run pos pins s1 σ H1 _ I1 q) fun ws s2 ⟨zs, H2, I2, rz, l1, l2, q2⟩ => ⟨I2.kIn, ?_⟩) hpl
  rw [hks]
  exact run_fnAt (us := [.ref a]) (vs := [.ref a]) F (hr.mono hjk) hb (pe.at_ σ) I2 (.cons rfl .nil) rz rfl l2 q2
theorem de_newG (c : NewG X.prog X.w X.K X.mg X.base CX j x C n ks sp gD) (hr : Room k X.A) (pe : PassE X W CX Es me) (ha : DA X W (e :: es) w) (hk : DKw X W kws wk) (hjk : j + 1 ≤ k := by first | decide | exact Nat.le_refl _ | omega) (hg : Gl X x := by rfl) (hall : (backToKw pos (keywordEach kws X.env)).all (·.1.isSome) = true := by rfl)
    (hks : (backToKw pos (keywordEach kws X.env)).filterMap (·.1) = ks := by rfl) (hdb : (x == ("__debug__" : Str)) = false := by decide) (he : starEach (e :: es) X.env = (false, eval e X.env) :: starEach es X.env := by rfl)
    (hpl : ((backTo pos (starEach (e :: es) X.env)).any (·.1) || (backToKw pos (keywordEach kws X.env)).any (·.1.isNone)) = false := by rfl) :
    DE X W (.Call (.Name x p) (e :: es) kws pos) (wMakeG me C sp n ks.length gD w wk) := by
  obtain ⟨f, fd, ps, g, gV, M, F, hm, hb, hgr⟩ := c
  obtain ⟨t, pa, ra⟩ := ha.ex
  obtain ⟨tk, pk, rk⟩ := hk.ex
  refine ⟨tNG C n ks.length (toSp X.K sp) gV Es t tk, ⟨fun pins s σ H Q I h => ?_⟩, rd_NG ra rk hgr pe⟩
  refine wpAny_Call_Name_kw (ld_glob I hg hm ?_ hdb)
  refine PySem.W.callWith_KW (h₀ := X.base) I.ok.mod.kin M.kp hall (thn (pa.run pos pins s σ H _ I h) fun us s1 ⟨vs, H1, I1, r, q⟩ => ?_) hpl he
  refine thn (pk.run pos pins s1 σ H1 _ I1 q) fun ws s2 ⟨zs, H2, I2, rz, l1, l2, q2⟩ => ⟨I2.kIn, ?_⟩
  rw [hks]
  exact run_makeAt M F (hr.mono hjk) hb (pe.at_ σ) I2 r rz l1 l2 q2
theorem de_newG0 (c : NewG X.prog X.w X.K X.mg X.base CX j x C 0 ks sp gD) (hr : Room k X.A) (pe : PassE X W CX Es me) (hk : DKw X W kws wk) (hjk : j + 1 ≤ k := by first | decide | exact Nat.le_refl _ | omega) (hg : Gl X x := by rfl) (hall : (backToKw pos (keywordEach kws X.env)).all (·.1.isSome) = true := by rfl)
    (hks : (backToKw pos (keywordEach kws X.env)).filterMap (·.1) = ks := by rfl) (hdb : (x == ("__debug__" : Str)) = false := by decide) (hpl : ((backTo pos (starEach [] X.env)).any (·.1) || (backToKw pos (keywordEach kws X.env)).any (·.1.isNone)) = false := by rfl) :
    DE X W (.Call (.Name x p) [] kws pos) (wMakeG me C sp 0 ks.length gD wNil wk) := by
  obtain ⟨f, fd, ps, g, gV, M, F, hm, hb, hgr⟩ := c
  obtain ⟨tk, pk, rk⟩ := hk.ex
  refine ⟨tNG C 0 ks.length (toSp X.K sp) gV Es tNil tk, ⟨fun pins s σ H Q I h => ?_⟩, rd_NG rd_nil rk hgr pe⟩
  refine wpAny_Call_Name_kw (ld_glob I hg hm ?_ hdb)
  refine PySem.W.callWith_KW0 (h₀ := X.base) I.ok.mod.kin M.kp hall ?_ hpl
  refine thn (pk.run pos pins s σ H _ I h) fun ws s2 ⟨zs, H2, I2, rz, l1, l2, q2⟩ => ⟨I2.kIn, ?_⟩
  rw [hks]
  exact run_makeAt (us := []) (vs := []) M F (hr.mono hjk) hb (pe.at_ σ) I2 .nil rz rfl l2 q2
end
/-! defs and methods with defaults, which may raise -/
def DefInD (K : PySem.W.Frag) (mg : Str → Option Value) (x nm : Str) (st : Stmt) (dvs : List V) (kws : List (Str × V)) : Prop := ∃ (f : Addr) (fd : FuncData), FunD K nm nm (defArgs st) (defBody st) (defScope st) dvs kws f fd ∧ mg x = some (.ref f)
section
variable {P : Program} {w : World} {K : PySem.W.Frag} {mg : Str → Option Value} {base : Heap} {x m nm qual : Str} {st : Stmt} {dvs : List V} {kws : List (Str × V)} {C c : Addr} {N ps ks : List Str} {k n : Nat} {CX : CXT} {sp : DSp} {gD : GD}
def CalD (P : Program) (w : World) (K : PySem.W.Frag) (mg : Str → Option Value) (base : Heap) (CX : CXT) (k : Nat) (x nm : Str) (st : Stmt) (dvs : List V) (kws : List (Str × V)) (ps : List Str) (sp : DSp) : Prop :=
  ∃ f fd, FnOk P w K mg base CX k f fd ps (toSp K sp) ∧ mg x = some (.ref f) ∧ FunD K nm nm (defArgs st) (defBody st) (defScope st) dvs kws f fd
def MtE (P : Program) (w : World) (K : PySem.W.Frag) (mg : Str → Option Value) (base : Heap) (CX : CXT) (k : Nat) (C : Addr) (m nm qual : Str) (st : Stmt) (dvs : List V) (kws : List (Str × V)) (ps : List Str) (sp : DSp) : Prop :=
  ∃ f fd, FnOk P w K mg base CX k f fd ps (toSp K sp) ∧ Cls K C ∧ Meth K C m f ∧ FunD K nm qual (defArgs st) (defBody st) (defScope st) dvs kws f fd
theorem calD_def {wb : DWS} (I : DefInD K mg x nm st dvs kws) (sc : FnScope N ps (defScope st)) (len : ∀ ds S P E, sp ds S P E → ds.length = ps.length)
    (hb : ∀ (f : Addr) (cdv : Value) (A : Around) (outer : List PySem.Env) (s : Shared) (H : Hp) (E : XK), Room k (A.deeper (envOfC nm (defScope st) s.heap.objs.size f cdv)) → DSs (cxOf CX P w K mg base N nm (defScope st) f cdv A outer s H E) (fun C d _ H' => E C d H') (defBody st) wb)
    (hw : ∀ ds S P E, S.all (lo S.length) = true → sp ds S P E → wb (endsOf S.length P E) (startD N.length ds) S) : CalD P w K mg base CX (k + 1) x nm st dvs kws ps sp := by
  obtain ⟨f, fd, F, hm⟩ := I
  exact ⟨f, fd, ok_def F sc len (fun cdv A outer s H E hr => hb f cdv A outer s H E hr) hw, hm, F⟩
theorem CalD.g (c : CalD P w K mg base CX k x nm st dvs kws ps sp) (kb : ∀ f fd, FunD K nm nm (defArgs st) (defBody st) (defScope st) dvs kws f fd → KB K fd ps n ks gD) : CalG P w K mg base CX k x n ks sp gD := by
  obtain ⟨f, fd, F, hm, D⟩ := c
  obtain ⟨g, gV, hb, hg⟩ := kb f fd D
  exact ⟨f, fd, ps, g, gV, F, hm, D.kp, hb, hg⟩
theorem mtD_def {wb : DWS} (I : MIn K C m nm qual st dvs kws) (sc : FnScope N ps (defScope st)) (len : ∀ ds S P E, sp ds S P E → ds.length = ps.length)
    (hb : ∀ (f : Addr) (cdv : Value) (A : Around) (outer : List PySem.Env) (s : Shared) (H : Hp) (E : XK), Room k (A.deeper (envOfC qual (defScope st) s.heap.objs.size f cdv)) → DSs (cxOf CX P w K mg base N qual (defScope st) f cdv A outer s H E) (fun C d _ H' => E C d H') (defBody st) wb)
    (hw : ∀ ds S P E, S.all (lo S.length) = true → sp ds S P E → wb (endsOf S.length P E) (startD N.length ds) S) : MtE P w K mg base CX (k + 1) C m nm qual st dvs kws ps sp := by
  obtain ⟨f, fd, F, hC, hm⟩ := I
  exact ⟨f, fd, ok_def F sc len (fun cdv A outer s H E hr => hb f cdv A outer s H E hr) hw, hC, hm, F⟩
/-- .. that makes lambdas -/
theorem mtDC_def {wb : DWS} (I : MInC K C m nm qual st dvs kws c) (sc : FnScope N ps (defScope st)) (len : ∀ ds S P E, sp ds S P E → ds.length = ps.length)
    (hb : ∀ (f : Addr) (A : Around) (outer : List PySem.Env) (s : Shared) (H : Hp) (E : XK), Room k (A.deeper (envOfC qual (defScope st) s.heap.objs.size f (.ref c))) → DSs (cxOf CX P w K mg base N qual (defScope st) f (.ref c) A outer s H E) (fun C d _ H' => E C d H') (defBody st) wb)
    (hw : ∀ ds S P E, S.all (lo S.length) = true → sp ds S P E → wb (endsOf S.length P E) (startD N.length ds) S) : MtE P w K mg base CX (k + 1) C m nm qual st dvs kws ps sp := by
  obtain ⟨f, fd, F, hC, hm, hc⟩ := I
  exact ⟨f, fd, okC_def F hc sc len (fun A outer s H E hr => hb f A outer s H E hr) hw, hC, hm, F⟩
theorem MtE.g (c : MtE P w K mg base CX k C m nm qual st dvs kws ps sp) (kb : ∀ f fd, FunD K nm qual (defArgs st) (defBody st) (defScope st) dvs kws f fd → KB K fd ps (n + 1) ks gD) : MtG P w K mg base CX k C m n ks sp gD := by
  obtain ⟨f, fd, F, hC, hm, D⟩ := c
  obtain ⟨g, gV, hb, hg⟩ := kb f fd D
  exact ⟨f, fd, ps, g, gV, F, hC, hm, hb, hg⟩
theorem MtE.new {f0 : Addr} (c : MtE P w K mg base CX k C "__init__" nm qual st dvs kws ps sp) (M : Mk K C f0) (hx : mg x = some (.ref C)) (kb : ∀ f fd, FunD K nm qual (defArgs st) (defBody st) (defScope st) dvs kws f fd → KB K fd ps (n + 1) ks gD) : NewG P w K mg base CX k x C n ks sp gD := by
  obtain ⟨f, fd, F, hC, hm, D⟩ := c
  obtain rfl : f = f0 := by
    have e := hm.at_.symm.trans M.init
    injection e with e
    injection e with e
    injection e
  obtain ⟨g, gV, hb, hg⟩ := kb f fd D
  exact ⟨f, fd, ps, g, gV, M, F, hx, hb, hg⟩
/-- hiding, weakening -/
theorem CalG.hide (c : CalG P w K mg base CX k x n ks sp gD) : ∃ sp' : DSp, CalG P w K mg base CX k x n ks sp' gD ∧ ∀ ds S P E, sp ds S P E → sp' ds S P E := ⟨sp, c, fun _ _ _ _ h => h⟩
theorem MtG.hide (c : MtG P w K mg base CX k C m n ks sp gD) : ∃ sp' : DSp, MtG P w K mg base CX k C m n ks sp' gD ∧ ∀ ds S P E, sp ds S P E → sp' ds S P E := ⟨sp, c, fun _ _ _ _ h => h⟩
theorem NewG.hide (c : NewG P w K mg base CX k x C n ks sp gD) : ∃ sp' : DSp, NewG P w K mg base CX k x C n ks sp' gD ∧ ∀ ds S P E, sp ds S P E → sp' ds S P E := ⟨sp, c, fun _ _ _ _ h => h⟩
/-- a promise without exceptions -/
theorem fnOk_good {f : Addr} {fd : FuncData} {sp' : DSp} (F : FnOk P w K mg base (L2.CX P w) k f fd ps (toSp K sp)) (h : ∀ ds S P E, sp' ds S P E → sp ds S P EF) : FnOk P w K mg base CX0 k f fd ps (toSp K sp') := by
  refine ⟨fun vs H Q E ⟨M, mu, S, ds, P, _, ok, r, q, n, _⟩ => F.len vs H Q (fun _ _ _ => False) ⟨M, mu, S, ds, P, EF, ok, r, h _ _ _ _ q, n, fun _ _ _ _ _ _ _ _ _ z => z.elim⟩,
    fun A outer s H args us vs Q E hr e0 hb r ⟨M, mu, S, ds, P, _, ok, r', q, n, _⟩ => codeAny_mono (F.run A outer s H args us vs Q (fun _ _ _ => False) hr e0 hb r ⟨M, mu, S, ds, P, EF, ok, r', h _ _ _ _ q, n, fun _ _ _ _ _ _ _ _ _ z => z.elim⟩) fun r s' z => ?_⟩
  cases r with
  | error e =>
    obtain ⟨_, _, _, _, _, _, _, _, _, _, _, _, f⟩ := (show L2.CX _ w outer H s (fun _ _ _ => False) e s' from z)
    exact f.elim
  | ok fl =>
    cases fl with
    | ret u => exact z
    | next => exact False.elim z
    | brk => exact False.elim z
    | cont => exact False.elim z
theorem CalG.good {sp' : DSp} (c : CalG P w K mg base (L2.CX P w) k x n ks sp gD) (h : ∀ ds S P E, sp' ds S P E → sp ds S P EF) : CalG P w K mg base CX0 k x n ks sp' gD := let ⟨f, fd, ps, g, gV, F, r⟩ := c; ⟨f, fd, ps, g, gV, fnOk_good F h, r⟩
theorem MtG.good {sp' : DSp} (c : MtG P w K mg base (L2.CX P w) k C m n ks sp gD) (h : ∀ ds S P E, sp' ds S P E → sp ds S P EF) : MtG P w K mg base CX0 k C m n ks sp' gD := let ⟨f, fd, ps, g, gV, F, r⟩ := c; ⟨f, fd, ps, g, gV, fnOk_good F h, r⟩
theorem NewG.good {sp' : DSp} (c : NewG P w K mg base (L2.CX P w) k x C n ks sp gD) (h : ∀ ds S P E, sp' ds S P E → sp ds S P EF) : NewG P w K mg base CX0 k x C n ks sp' gD := let ⟨f, fd, ps, g, gV, M, F, r⟩ := c; ⟨f, fd, ps, g, gV, M, fnOk_good F h, r⟩
theorem cal_good {sp' : DSp} (c : Cal P w K mg base (L2.CX P w) k x ps sp) (h : ∀ ds S P E, sp' ds S P E → sp ds S P EF) : Cal P w K mg base CX0 k x ps sp' := let ⟨f, fd, c⟩ := c; ⟨f, fd, ⟨fnOk_good c.ok h, c.mg, c.kp, c.b, c.lk⟩⟩
/-- a plain def, called by keywords -/
theorem Cal.toD (c : Cal P w K mg base CX k x ps sp) (I : DefIn K mg x nm st) : CalD P w K mg base CX k x nm st [] [] ps sp := by
  obtain ⟨f, fd, c⟩ := c
  obtain ⟨f', fd', D, hm⟩ := I
  obtain rfl : f = f' := by
    have e := c.mg.symm.trans hm
    injection e with e
    injection e
  obtain ⟨oc, od, osl, lk⟩ := c.lk
  obtain ⟨oc', od', dV, kV, doc, pm, an, cdv, ct, osl', rfl, lk', _⟩ := D.ex
  rw [lk] at lk'
  obtain rfl : fd = _ := by
    injection lk' with e
    injection e with _ _ e
    injection e
  exact ⟨f, _, c.ok, hm, D⟩
end
end DL
set_option maxRecDepth 100000
set_option maxHeartbeats 2000000
namespace DL
open PySem PySem.Spec PyProof.Rows L2 LamX NdefX
/-! the row's steps for the general calls -/
theorem wCallG_ap {me : Ex → Ex} {sp : DSp} {n mm : Nat} {gD : GD} {w wk : DWA} {ρ : Loc} {S : Sto} {P : DK} {E : Ex} : wCallG me sp n mm gD w wk ρ S P E = w ρ S (fun ds S1 => wk ρ S1 (fun es S2 => ds.length = n ∧ es.length = mm ∧ sp (gD [] ds es) S2 P (me E)) E) E := rfl
theorem wMethG_ap {me : Ex → Ex} {C : Addr} {m : Str} {sp : DSp} {n mm : Nat} {gD : GD} {wo : DW} {w wk : DWA} {ρ : Loc} {S : Sto} {P : DK} {E : Ex} : wMethG me C m sp n mm gD wo w wk ρ S P E = wo ρ S (fun x S1 => recvD C m x S1 ∧ w ρ S1 (fun ds S2 => wk ρ S2 (fun es S3 => ds.length = n ∧ es.length = mm ∧ sp (gD [x] ds es) S3 P (me E)) E) E) E := rfl
theorem wMakeG_ap {me : Ex → Ex} {C : Addr} {sp : DSp} {n mm : Nat} {gD : GD} {w wk : DWA} {ρ : Loc} {S : Sto} {P : DK} {E : Ex} : wMakeG me C sp n mm gD w wk ρ S P E = w ρ S (fun ds S1 => wk ρ S1 (fun es S2 => ds.length = n ∧ es.length = mm ∧ makeG C sp (fun self => gD self ds es) S2 P (me E)) E) E := rfl
/-! own special methods by their bundle -/
def MtO (P : Program) (w : World) (K : PySem.W.Frag) (mg : Str → Option Value) (base : Heap) (CX : CXT) (k : Nat) (C : Addr) (m : Str) (ps : List Str) (sp : DSp) : Prop := ∃ f fd, FnOk P w K mg base CX k f fd ps (toSp K sp) ∧ Cls K C ∧ Meth K C m f ∧ Binds K fd ps []
section
variable {P : Program} {w : World} {K : PySem.W.Frag} {mg : Str → Option Value} {base : Heap} {m nm qual : Str} {st : Stmt} {C : Addr} {ps : List Str} {k : Nat} {CX : CXT} {sp : DSp}
theorem MtE.o (c : MtE P w K mg base CX k C m nm qual st [] [] ps sp) (hbd : ∀ (kV doc pm : Value) (an : Option Addr) (cdv ct : Value) (us : List Value), us.length = ps.length → bindArgs (PySem.W.fnOf nm qual (defArgs st) (defBody st) (defScope st) .none kV doc pm an cdv ct) ⟨us, []⟩ = pure (ps.zip us)) : MtO P w K mg base CX k C m ps sp := by
  obtain ⟨f, fd, F, hC, hm, D⟩ := c
  exact ⟨f, fd, F, hC, hm, D.bindsN hbd⟩
theorem hideO (c : MtO P w K mg base CX k C m ps sp) : ∃ sp' : DSp, MtO P w K mg base CX k C m ps sp' ∧ ∀ ds S P E, sp ds S P E → sp' ds S P E := ⟨sp, c, fun _ _ _ _ h => h⟩
end
/-! what _law_same may be asked -/
def OkD (n : Nat) (d : D) : Prop := deep d = true ∧ dep d ≤ n
theorem deeps_of : ∀ {l : List D}, (∀ d ∈ l, deep d = true) → deeps l = true
  | [], _ => rfl
  | d :: l, h => by
    show (deep d && deeps l) = true
    rw [h d (List.mem_cons_self ..), deeps_of fun x hx => h x (List.mem_cons_of_mem _ hx)]
    rfl
theorem deps_of {n : Nat} : ∀ {l : List D}, (∀ d ∈ l, dep d ≤ n) → deps l ≤ n
  | [], _ => Nat.zero_le _
  | d :: l, h => Nat.max_le.mpr ⟨h d (List.mem_cons_self ..), deps_of fun x hx => h x (List.mem_cons_of_mem _ hx)⟩
theorem okD_lst {n : Nat} {l : List D} (hl : l.length ≤ 1000000) (h : ∀ d ∈ l, OkD n d) : OkD (n + 1) (.lst l) :=
  ⟨by show (decide (l.length ≤ 1000000) && deeps l) = true; rw [decide_eq_true hl, deeps_of fun d hd => (h d hd).1]; rfl, Nat.succ_le_succ (deps_of fun d hd => (h d hd).2)⟩
theorem okD_tup {n : Nat} {l : List D} (hl : l.length ≤ 1000000) (h : ∀ d ∈ l, OkD n d) : OkD (n + 1) (.tup l) :=
  ⟨by show (decide (l.length ≤ 1000000) && deeps l) = true; rw [decide_eq_true hl, deeps_of fun d hd => (h d hd).1]; rfl, Nat.succ_le_succ (deps_of fun d hd => (h d hd).2)⟩
theorem okD_int {n : Nat} {i : Int} : OkD n (.int i) := ⟨rfl, Nat.zero_le _⟩
theorem okD_str {n : Nat} {s : Str} : OkD n (.str s) := ⟨rfl, Nat.zero_le _⟩
theorem okD_bl {n : Nat} {b : Bool} : OkD n (.bl b) := ⟨rfl, Nat.zero_le _⟩
theorem okD_non {n : Nat} : OkD n .non := ⟨rfl, Nat.zero_le _⟩
theorem OkD.mono {n m : Nat} {d : D} (h : OkD n d) (hm : n ≤ m) : OkD m d := ⟨h.1, Nat.le_trans h.2 hm⟩
theorem sp_same_ok {n : Nat} {x y : D} {S : Sto} {P : DK} {E : Ex} (e : x = y) (h : OkD n y) (hp : P (.bl true) S) : sp_same n [x, y] S P E := sp_same_rf e h.1 h.2 hp
theorem mem2 {α : Type} {p : α → Prop} {a b : α} (ha : p a) (hb : p b) : ∀ d ∈ [a, b], p d := fun d h => by
  simp only [List.mem_cons, List.not_mem_nil, or_false] at h
  rcases h with rfl | rfl <;> assumption
theorem mem1 {α : Type} {p : α → Prop} {a : α} (ha : p a) : ∀ d ∈ [a], p d := fun d h => by
  obtain rfl := List.mem_singleton.mp h
  exact ha
theorem memC {α : Type} {p : α → Prop} {a : α} {l : List α} (ha : p a) (hl : ∀ d ∈ l, p d) : ∀ d ∈ a :: l, p d := fun d h => by
  rcases List.mem_cons.mp h with e | h
  · rw [e]; exact ha
  · exact hl d h
theorem memN {α : Type} {p : α → Prop} : ∀ d ∈ ([] : List α), p d := fun _ h => nomatch h
end DL
set_option maxRecDepth 100000
set_option maxHeartbeats 4000000
namespace LW
open PySem PySem.Spec PyProof.Rows L2 DL
def top (i : Nat) : Stmt := PySem.Challenge.pw_inkfractions_k02_edges_turned.main.body.getD i (.Pass ⟨0, 0, 0, 0⟩)
abbrev s_InvalidEdge_init : Stmt := inClass (top 3) 0
abbrev s_NothingLeft_init : Stmt := inClass (top 4) 0
abbrev s_is_number : Stmt := top 7
abbrev s_is_place : Stmt := top 8
abbrev s_is_way : Stmt := top 9
abbrev s_is_edge : Stmt := top 10
abbrev s_need_edge : Stmt := top 11
abbrev s_turned_place : Stmt := top 12
abbrev s_turned_edge : Stmt := top 13
abbrev s_mirrored_edge : Stmt := top 14
abbrev s_law_bag : Stmt := top 16
abbrev s_law_pull : Stmt := top 17
abbrev s_law_of : Stmt := top 18
abbrev s_law_same : Stmt := top 19
abbrev s_law_field : Stmt := top 20
abbrev s_law_got : Stmt := top 21
abbrev s_law_all_got : Stmt := top 22
abbrev s_law_near : Stmt := top 23
abbrev s_law_any : Stmt := top 24
abbrev s_law_turned : Stmt := top 25
abbrev s_law_flipped : Stmt := top 26
abbrev s_law : Stmt := top 27
abbrev N_is_number : List Str := ["value"]
theorem sc_is_number : FnScope N_is_number ["value"] (defScope s_is_number) := ⟨rfl, rfl, rfl, by decide +kernel, rfl, by decide +kernel, by decide +kernel⟩
abbrev N_is_place : List Str := ["value", "one"]
theorem sc_is_place : FnScope N_is_place ["value"] (defScope s_is_place) := ⟨rfl, rfl, rfl, by decide +kernel, rfl, by decide +kernel, by decide +kernel⟩
abbrev N_is_way : List Str := ["value"]
theorem sc_is_way : FnScope N_is_way ["value"] (defScope s_is_way) := ⟨rfl, rfl, rfl, by decide +kernel, rfl, by decide +kernel, by decide +kernel⟩
abbrev N_is_edge : List Str := ["value"]
theorem sc_is_edge : FnScope N_is_edge ["value"] (defScope s_is_edge) := ⟨rfl, rfl, rfl, by decide +kernel, rfl, by decide +kernel, by decide +kernel⟩
abbrev N_need_edge : List Str := ["value"]
theorem sc_need_edge : FnScope N_need_edge ["value"] (defScope s_need_edge) := ⟨rfl, rfl, rfl, by decide +kernel, rfl, by decide +kernel, by decide +kernel⟩
abbrev N_turned_place : List Str := ["place", "quarters", "x", "y", "turn"]
theorem sc_turned_place : FnScope N_turned_place ["place", "quarters"] (defScope s_turned_place) := ⟨rfl, rfl, rfl, by decide +kernel, rfl, by decide +kernel, by decide +kernel⟩
abbrev N_turned_edge : List Str := ["edge", "quarters", "x", "y", "way", "far", "one", "other", "low"]
theorem sc_turned_edge : FnScope N_turned_edge ["edge", "quarters"] (defScope s_turned_edge) := ⟨rfl, rfl, rfl, by decide +kernel, rfl, by decide +kernel, by decide +kernel⟩
abbrev N_mirrored_edge : List Str := ["edge", "x", "y", "way"]
theorem sc_mirrored_edge : FnScope N_mirrored_edge ["edge"] (defScope s_mirrored_edge) := ⟨rfl, rfl, rfl, by decide +kernel, rfl, by decide +kernel, by decide +kernel⟩
abbrev N_law_bag : List Str := ["_law_script", "_law_mixed", "_law_cell"]
theorem sc_law_bag : FnScope N_law_bag ["_law_script"] (defScope s_law_bag) := ⟨rfl, rfl, rfl, by decide +kernel, rfl, by decide +kernel, by decide +kernel⟩
abbrev N_law_pull : List Str := ["_law_bag_here", "_law_many", "_law_cell", "_law_digit", "_law_twice"]
theorem sc_law_pull : FnScope N_law_pull ["_law_bag_here", "_law_many"] (defScope s_law_pull) := ⟨rfl, rfl, rfl, by decide +kernel, rfl, by decide +kernel, by decide +kernel⟩
abbrev N_law_of : List Str := ["_law_bag_here", "_law_some"]
theorem sc_law_of : FnScope N_law_of ["_law_bag_here", "_law_some"] (defScope s_law_of) := ⟨rfl, rfl, rfl, by decide +kernel, rfl, by decide +kernel, by decide +kernel⟩
abbrev N_law_same : List Str := ["_law_found", "_law_due", "_law_a", "_law_b"]
theorem sc_law_same : FnScope N_law_same ["_law_found", "_law_due"] (defScope s_law_same) := ⟨rfl, rfl, rfl, by decide +kernel, rfl, by decide +kernel, by decide +kernel⟩
abbrev N_law_field : List Str := ["_law_e"]
theorem sc_law_field : FnScope N_law_field ["_law_e"] (defScope s_law_field) := ⟨rfl, rfl, rfl, by decide +kernel, rfl, by decide +kernel, by decide +kernel⟩
abbrev N_law_got : List Str := ["_law_ask", "_law_said", "_law_e"]
theorem sc_law_got : FnScope N_law_got ["_law_ask"] (defScope s_law_got) := ⟨rfl, rfl, rfl, by decide +kernel, rfl, by decide +kernel, by decide +kernel⟩
abbrev N_law_all_got : List Str := ["_law_asks", "_law_ask"]
theorem sc_law_all_got : FnScope N_law_all_got ["_law_asks"] (defScope s_law_all_got) := ⟨rfl, rfl, rfl, by decide +kernel, rfl, by decide +kernel, by decide +kernel⟩
abbrev N_law_near : List Str := ["_law_bag_here", "_law_far"]
theorem sc_law_near : FnScope N_law_near ["_law_bag_here", "_law_far"] (defScope s_law_near) := ⟨rfl, rfl, rfl, by decide +kernel, rfl, by decide +kernel, by decide +kernel⟩
abbrev N_law_any : List Str := ["_law_bag_here"]
theorem sc_law_any : FnScope N_law_any ["_law_bag_here"] (defScope s_law_any) := ⟨rfl, rfl, rfl, by decide +kernel, rfl, by decide +kernel, by decide +kernel⟩
abbrev N_law_turned : List Str := ["_law_edge_z", "_law_quarters_z", "_law_x", "_law_y", "_law_way_z", "_law_ends", "_law_k", "_law_a", "_law_b", "_law_low"]
theorem sc_law_turned : FnScope N_law_turned ["_law_edge_z", "_law_quarters_z"] (defScope s_law_turned) := ⟨rfl, rfl, rfl, by decide +kernel, rfl, by decide +kernel, by decide +kernel⟩
abbrev N_law_flipped : List Str := ["_law_edge_z", "_law_x", "_law_y", "_law_way_z"]
theorem sc_law_flipped : FnScope N_law_flipped ["_law_edge_z"] (defScope s_law_flipped) := ⟨rfl, rfl, rfl, by decide +kernel, rfl, by decide +kernel, by decide +kernel⟩
abbrev N_law : List Str := ["_law_script", "_law_bag_here", "_law_turn", "_law_spot", "_law_many", "_law_due", "_law_flip", "_law_found", "_law_odd", "_law_asks"]
theorem sc_law : FnScope N_law ["_law_script"] (defScope s_law) := ⟨rfl, rfl, rfl, by decide +kernel, rfl, by decide +kernel, by decide +kernel⟩
local macro_rules | `(tactic| walk_at "dl") => `(tactic| simp only [↓wC_ap, ↓wNil_ap, ↓wCons_ap, ↓wLst_ap, ↓wTup_ap, ↓wOp_ap, ↓wB_ap, ↓wUn_ap, ↓wCB_ap, ↓wCall_ap, ↓wCallK_ap, ↓wSl_ap, ↓wPart_ap, ↓wNoPart_ap, ↓wAndT_ap, ↓wOrT_ap, ↓wNotT_ap, ↓wAndV_ap, ↓wOrV_ap, ↓wIf_ap, ↓wTru_ap, ↓wLc_ap, ↓wiSeq_ap, ↓wiRng1_ap, ↓wiRng2_ap, ↓wiZip_ap, ↓wLstRg_ap, ↓wTYes_ap, ↓wsNext_ap, ↓wsSeq_ap, ↓wsRet_ap, ↓wsRetN_ap, ↓wsRetF_ap, ↓wsDrop_ap, ↓wsIf_ap, ↓wsAsg_ap, ↓wsSet_ap, ↓wsSetF_ap, ↓wsPar_ap, ↓wsStore_ap, ↓wsFor_ap, ↓wsBreak_ap, ↓wsCont_ap, ↓wgName_ap, ↓wgNil_ap, ↓wgCons_ap, ↓wgTup_ap, ↓wVar_0, ↓wVar_s, ↓addD, ↓subD, ↓mulD, ↓modD, ↓fdivD, ↓powD, ↓negD, ↓notD, ↓eqD, ↓scalD, ↓inD, ↓isD, ↓ixD, ↓cmpD, ↓leD, ↓geD, ↓gtD, ↓ltD, ↓ordD, ↓lenD, ↓absD, ↓DL.intOfD, ↓listD, ↓allD, ↓isiD, ↓sliceD, ↓truD_non, ↓truD_bl, ↓truD_int, ↓truD_str, ↓truD_lst, ↓truD_tup, List.map_cons, List.map_nil, List.length_cons, List.length_nil, List.replicate, List.cons_append, List.nil_append, List.set_cons_zero, List.set_cons_succ, List.append_nil, List.zip_cons_cons, List.zip_nil_right, List.foldl_cons, List.foldl_nil, Nat.zero_add, Nat.add_zero, Nat.reduceAdd, Nat.reduceSub, Nat.reduceMul, if_true, if_false, Bool.false_eq_true, ite_true, ite_false, v_non, v_bl, v_int, v_str, v_ty, v_cst, v_lst, v_tup, v_dk, v_dt, v_ktp, v_obj, v_scr, startD_ap, wD_nil, wD_cons, wVar_0, wVar_s, ↓is_non_int, ↓is_bl_int, ↓is_int_int, ↓is_str_int, ↓is_lst_int, ↓is_tup_int, ↓is_dk_int, ↓is_non_bool, ↓is_bl_bool, ↓is_int_bool, ↓is_str_bool, ↓is_lst_bool, ↓is_tup_bool, ↓is_dk_bool, ↓is_non_str, ↓is_bl_str, ↓is_int_str, ↓is_str_str, ↓is_lst_str, ↓is_tup_str, ↓is_dk_str, ↓is_non_list, ↓is_bl_list, ↓is_int_list, ↓is_str_list, ↓is_lst_list, ↓is_tup_list, ↓is_dk_list, ↓is_non_tuple, ↓is_bl_tuple, ↓is_int_tuple, ↓is_str_tuple, ↓is_lst_tuple, ↓is_tup_tuple, ↓is_dk_tuple, ↓wsNever_ap, ↓wNever_ap, ↓wFr_ap, ↓wFLst_ap, ↓wFList_ap, ↓wFAdd_ap, ↓wBM_ap, ↓wBM0_ap, ↓wDGet_ap, ↓wDGet2_ap, ↓wsDPut_ap, ↓wNewT_ap, ↓wsRetire_ap, ↓wiKeysT_ap, ↓wDcT_ap, ↓wFld_ap, ↓wsFld_ap, ↓wMake_ap, ↓wMeth_ap, ↓wDictPT_ap, ↓wTruOwn_ap, ↓wFmt_ap, ↓wFs_ap, ↓wiEnum_ap, ↓wJs_nil, ↓wJs_cons, ↓wiEnumA_ap, ↓wNotOwn_ap, ↓wMethX0_ap, ↓wMethF0_ap, ↓wsBMX_ap, ↓wLcF_ap, ↓appendD, ↓popD, ↓entT, ↓dflT, ↓inT, ↓getT, ↓isDt, ↓fldD, ↓recvD, ↓isObjD, ↓isEqR, ↓eqOwnD, ↓inOwnD, ↓lenOwnD, ↓reprOwnD, ↓blP, ↓lenP, ↓strP, ↓truP, ↓lenDt, ↓listDt, ↓tupOf, ↓DL.strOf, ↓fmtD, ↓sortedT, ↓eqDt, ↓rcv, ↓empD, ↓boolOwnD, ↓isCD, ↓isCDof, isK_tup, List.lookup_cons, Option.getD_some, Option.getD_none, Option.isSome_some, Option.isSome_none, ↓wXfld_ap, ↓xfD_exn, ↓wCalT_ap, ↓wFnCall_v, ↓fnCallD_fn, ↓wsTry_ap, ↓wsRaise_ap, ↓wLam_ap, ↓wCalA_ap, List.replicate_succ, List.replicate_zero, ↓at1_0, ↓at2_0, ↓at2_1, ↓at3_0, ↓at3_1, ↓at3_2, ↓at4_0, ↓at4_1, ↓at4_2, ↓at4_3, ↓wCallG_ap, ↓wMethG_ap, ↓wMakeG_ap, gdP_ap, pick_nil, pick_p, pick_d, pick_m, pick_w, nth1_0, nth1_s])
local macro_rules | `(tactic| walk_at "sd") => `(tactic| repeat (first | refine ⟨True.intro, ?_⟩ | refine ⟨(by decide), ?_⟩))
local macro_rules | `(tactic| walk_at "len") => `(tactic| first | (rintro _ _ _ _ ⟨e, _⟩; rw [e]; rfl) | (rintro _ _ _ _ ⟨_, e, _⟩; rw [e]; rfl) | (rintro _ _ _ _ ⟨_, _, e, _⟩; rw [e]; rfl) | (rintro _ _ _ _ ⟨_, _, _, e, _⟩; rw [e]; rfl) | (rintro _ _ _ _ ⟨_, _, _, _, e, _⟩; rw [e]; rfl) | (rintro _ _ _ _ ⟨_, _, _, _, _, e, _⟩; rw [e]; rfl) | (rintro _ _ _ _ ⟨_, _, _, _, _, _, e, _⟩; rw [e]; rfl) | (rintro _ _ _ _ ⟨_, _, _, _, _, _, _, e, _⟩; rw [e]; rfl) | (rintro _ _ _ _ ⟨_, _, _, _, _, _, _, _, e, _⟩; rw [e]; rfl))
section
variable {P : Program} {w : World} {K : PySem.W.Frag} {mg : Str → Option Value} {base : Heap}
/-! ### the law's own helpers -/
theorem cal_bag (B : Bn mg) (I : DefIn K mg "_law_bag" "_law_bag" s_law_bag) : CalFr P w K mg base CX0 1 "_law_bag" ["_law_script"] sp_bag := by
  refine cal_defF I sc_law_bag (fun _ _ _ _ _ _ us hl => match us, hl with | [_], _ => rfl) (fun ds S P E h => ?_) (fun f cdv A outer s H E hr => (dss_cons (ds_set (i := 1) sc_law_bag.nd rfl (by first | exact .inl rfl | exact .inr rfl) de_int)
  (dss_cons (ds_for (passes_of rfl) rfl (di_list (de_slice (de_var 0 (pv 0)) do_none (do_some de_int))) (dg_name (pg_name (i := 2) sc_law_bag.nd rfl (by first | exact .inl rfl | exact .inr rfl)))
  (dss_one (ds_set (i := 1) sc_law_bag.nd rfl (by first | exact .inl rfl | exact .inr rfl) (de_op op_mod opd_mod (de_callTy call_int1 calld_int rfl B.int bt_int (da_cons (de_op op_addA opd_add (de_op op_addA opd_add (de_op op_mulA opd_mul (de_var 1 (pv 1)) de_int) (de_op op_mulA opd_mul (de_op op_mod opd_mod (de_callTy call_int1 calld_int rfl B.int bt_int (da_cons (de_var 2 (pv 2)) da_nil)) de_int) de_int)) de_int) da_nil)) de_int))))
  (dss_one (ds_retF (df_lst (da_cons (de_callTy call_list_of calld_list rfl B.list bt_list (da_cons (de_slice (de_var 0 (pv 0)) do_none (do_some de_int)) da_nil)) (da_cons de_int (da_cons de_int (da_cons (de_var 1 (pv 1)) (da_cons de_int da_nil))))))))))) (fun ds S P E hS h => ?_)
  · unfold sp_bag at h
    split at h
    · rfl
    · exact h.elim
  · unfold sp_bag at h
    split at h
    · rename_i ns
      walk_at "dl"
      rw [cut63 h.1]
      refine for_inv (fun l ρ S' => S' = S ∧ (∃ cs : List Int, l = cs.map D.int) ∧ ∃ (m : Int) (o : Option D), 0 ≤ m ∧ m < 2147483563 ∧ ρ = [some (.scr ns), some (.int m), o]) ?_ ?_ _ _ _ ⟨rfl, ⟨_, rfl⟩, _, _, by decide, by decide, rfl⟩
      · rintro x xs ρ S' ⟨rfl, ⟨cs, hc⟩, m, o, h1, h2, rfl⟩ nx hn
        cases cs with
        | nil => cases hc
        | cons c cs =>
          injection hc with e1 e2
          subst e1 e2
          walk_at "dl"
          exact ⟨mulC (by decide), by decide, mulC (by decide), by decide, hn _ _ ⟨rfl, ⟨_, rfl⟩, _, _, by omega, by omega, rfl⟩⟩
      · rintro ρ S' ⟨rfl, _, m, o, h1, h2, rfl⟩
        walk_at "dl"
        rw [cut63 h.1]
        exact ⟨by decide, rfl, h.2 _ ⟨ns, 0, 0, m, 0, rfl, by decide, by decide, h1, by omega⟩⟩
    · exact h.elim
theorem cal_pull (B : Bn mg) (I : DefIn K mg "_law_pull" "_law_pull" s_law_pull) : Cal P w K mg base CX0 1 "_law_pull" ["_law_bag_here", "_law_many"] sp_pull := by
  refine cal_def I sc_law_pull (fun _ _ _ _ _ _ us hl => match us, hl with | [_, _], _ => rfl) (fun ds S P E h => ?_) (fun f cdv A outer s H E hr => (dss_cons (ds_store (de_op op_addA opd_add (de_ix (de_var 0 (pv 0)) de_int) de_int) (de_var 0 (pv 0)) de_int)
  (dss_cons (ds_if (dt_w (dw_and (dt_eq hr.units (de_ix (de_var 0 (pv 0)) de_int) de_int) (dw_and1 (dt_cmp op_lt opd_lt (de_ix (de_var 0 (pv 0)) de_int) (de_callB call_len calld_len rfl B.len bt_len (da_cons (de_ix (de_var 0 (pv 0)) de_int) da_nil)))))) (dss_cons (ds_set (i := 2) sc_law_pull.nd rfl (by first | exact .inl rfl | exact .inr rfl) (de_ix (de_ix (de_var 0 (pv 0)) de_int) (de_ix (de_var 0 (pv 0)) de_int)))
  (dss_cons (ds_store (de_op op_addA opd_add (de_ix (de_var 0 (pv 0)) de_int) de_int) (de_var 0 (pv 0)) de_int)
  (dss_one (ds_if (dt_cmp op_ge opd_ge (de_callB call_abs calld_abs rfl B.abs bt_abs (da_cons (de_var 2 (pv 2)) da_nil)) (de_op op_pow opd_pow de_int de_int)) (dss_one (ds_store (de_callB call_abs calld_abs rfl B.abs bt_abs (da_cons (de_var 2 (pv 2)) da_nil)) (de_var 0 (pv 0)) de_int)) (dss_one (ds_store (de_op op_mod opd_mod (de_callTy call_int1 calld_int rfl B.int bt_int (da_cons (de_op op_addA opd_add (de_op op_addA opd_add (de_op op_mulA opd_mul (de_ix (de_var 0 (pv 0)) de_int) de_int) (de_op op_mulA opd_mul (de_op op_mod opd_mod (de_callTy call_int1 calld_int rfl B.int bt_int (da_cons (de_var 2 (pv 2)) da_nil)) de_int) de_int)) de_int) da_nil)) de_int) (de_var 0 (pv 0)) de_int)))))) dss_nil)
  (dss_cons (ds_if (dt_cmp op_gt opd_gt (de_ix (de_var 0 (pv 0)) de_int) de_int) (dss_cons (ds_set (i := 3) sc_law_pull.nd rfl (by first | exact .inl rfl | exact .inr rfl) (de_op op_mod opd_mod (de_callTy call_int1 calld_int rfl B.int bt_int (da_cons (de_ix (de_var 0 (pv 0)) de_int) da_nil)) (de_var 1 (pv 1))))
  (dss_cons (ds_store (de_op op_fdivW opd_fdiv (de_ix (de_var 0 (pv 0)) de_int) (de_var 1 (pv 1))) (de_var 0 (pv 0)) de_int)
  (dss_one (ds_ret (de_var 3 (pv 3)))))) dss_nil)
  (dss_cons (ds_set (i := 4) sc_law_pull.nd rfl (by first | exact .inl rfl | exact .inr rfl) (de_op op_mod opd_mod (de_callTy call_int1 calld_int rfl B.int bt_int (da_cons (de_op op_addA opd_add (de_op op_mulA opd_mul (de_ix (de_var 0 (pv 0)) de_int) (de_ix (de_var 0 (pv 0)) de_int)) (de_op op_mulA opd_mul (de_ix (de_var 0 (pv 0)) de_int) de_int)) da_nil)) de_int))
  (dss_cons (ds_store (de_op op_mod opd_mod (de_callTy call_int1 calld_int rfl B.int bt_int (da_cons (de_op op_addA opd_add (de_op op_addA opd_add (de_op op_mulA opd_mul (de_var 4 (pv 4)) de_int) (de_op op_mulA opd_mul (de_ix (de_var 0 (pv 0)) de_int) de_int)) de_int) da_nil)) de_int) (de_var 0 (pv 0)) de_int)
  (dss_one (ds_ret (de_op op_mod opd_mod (de_callTy call_int1 calld_int rfl B.int bt_int (da_cons (de_op op_fdivW opd_fdiv (de_ix (de_var 0 (pv 0)) de_int) de_int) da_nil)) (de_var 1 (pv 1))))))))))) (fun ds S P E hS h => ?_)
  · unfold sp_pull at h
    split at h
    · rfl
    · exact h.elim
  · unfold sp_pull at h
    split at h
    · rename_i i many
      obtain ⟨b, hb, ⟨cells, taken, rest, mixed, draws, rfl, h1, h2, h3, h4⟩, hm, hm2, h⟩ := h
      have hv := val_at hb
      have hl := lt_at hb
      have hs : ∀ ds, val (S.set i (.lst ds)) (.loc i) = .lst ds := fun ds => val_set hl
      refine ws_join (fun ρ' S' => ρ' = [some (.loc i), some (.int many), none, none, none] ∧ S' = S.set i (.lst [.lst (cells.map D.int), .int taken, .int rest, .int mixed, .int (draws + 1)])) (fun nx hn => ?_) ?_
      · simp only [↓wC_ap, ↓wNil_ap, ↓wCons_ap, ↓wLst_ap, ↓wTup_ap, ↓wOp_ap, ↓wB_ap, ↓wUn_ap, ↓wCB_ap, ↓wCall_ap, ↓wCallK_ap, ↓wSl_ap, ↓wPart_ap, ↓wNoPart_ap, ↓wAndT_ap, ↓wOrT_ap, ↓wNotT_ap, ↓wAndV_ap, ↓wOrV_ap, ↓wIf_ap, ↓wTru_ap, ↓wLc_ap, ↓wiSeq_ap, ↓wiRng1_ap, ↓wiRng2_ap, ↓wiZip_ap, ↓wLstRg_ap, ↓wTYes_ap, ↓wsNext_ap, ↓wsSeq_ap, ↓wsRet_ap, ↓wsRetN_ap, ↓wsRetF_ap, ↓wsDrop_ap, ↓wsIf_ap, ↓wsAsg_ap, ↓wsSet_ap, ↓wsSetF_ap, ↓wsPar_ap, ↓wsStore_ap, ↓wsFor_ap, ↓wsBreak_ap, ↓wsCont_ap, ↓wgName_ap, ↓wgNil_ap, ↓wgCons_ap, ↓wgTup_ap, ↓wVar_0, ↓wVar_s, ↓addD, ↓subD, ↓mulD, ↓modD, ↓fdivD, ↓powD, ↓negD, ↓notD, ↓eqD, ↓scalD, ↓inD, ↓isD, ↓ixD, ↓cmpD, ↓leD, ↓geD, ↓gtD, ↓ltD, ↓ordD, ↓lenD, ↓absD, ↓DL.intOfD, ↓listD, ↓allD, ↓isiD, ↓sliceD, ↓truD_non, ↓truD_bl, ↓truD_int, ↓truD_str, ↓truD_lst, ↓truD_tup, List.map_cons, List.map_nil, List.length_cons, List.length_nil, List.replicate, List.cons_append, List.nil_append, List.set_cons_zero, List.set_cons_succ, List.append_nil, List.zip_cons_cons, List.zip_nil_right, List.foldl_cons, List.foldl_nil, Nat.zero_add, Nat.add_zero, Nat.reduceAdd, Nat.reduceSub, Nat.reduceMul, if_true, if_false, Bool.false_eq_true, ite_true, ite_false, v_non, v_bl, v_int, v_str, v_ty, v_cst, v_lst, v_tup, v_dk, v_dt, v_ktp, v_obj, v_scr, startD_ap, wD_nil, wD_cons, wVar_0, wVar_s, ↓is_non_int, ↓is_bl_int, ↓is_int_int, ↓is_str_int, ↓is_lst_int, ↓is_tup_int, ↓is_dk_int, ↓is_non_bool, ↓is_bl_bool, ↓is_int_bool, ↓is_str_bool, ↓is_lst_bool, ↓is_tup_bool, ↓is_dk_bool, ↓is_non_str, ↓is_bl_str, ↓is_int_str, ↓is_str_str, ↓is_lst_str, ↓is_tup_str, ↓is_dk_str, ↓is_non_list, ↓is_bl_list, ↓is_int_list, ↓is_str_list, ↓is_lst_list, ↓is_tup_list, ↓is_dk_list, ↓is_non_tuple, ↓is_bl_tuple, ↓is_int_tuple, ↓is_str_tuple, ↓is_lst_tuple, ↓is_tup_tuple, ↓is_dk_tuple, ↓wsNever_ap, ↓wNever_ap, ↓wFr_ap, ↓wFLst_ap, ↓wFList_ap, ↓wFAdd_ap, ↓wBM_ap, ↓wBM0_ap, ↓wDGet_ap, ↓wDGet2_ap, ↓wsDPut_ap, ↓wNewT_ap, ↓wsRetire_ap, ↓wiKeysT_ap, ↓wDcT_ap, ↓wFld_ap, ↓wsFld_ap, ↓wMake_ap, ↓wMeth_ap, ↓wDictPT_ap, ↓wTruOwn_ap, ↓wFmt_ap, ↓wFs_ap, ↓wiEnum_ap, ↓wJs_nil, ↓wJs_cons, ↓wiEnumA_ap, ↓wNotOwn_ap, ↓wMethX0_ap, ↓wMethF0_ap, ↓wsBMX_ap, ↓wLcF_ap, ↓appendD, ↓popD, ↓entT, ↓dflT, ↓inT, ↓getT, ↓isDt, ↓fldD, ↓recvD, ↓isObjD, ↓isEqR, ↓eqOwnD, ↓inOwnD, ↓lenOwnD, ↓reprOwnD, ↓blP, ↓lenP, ↓strP, ↓truP, ↓lenDt, ↓listDt, ↓tupOf, ↓DL.strOf, ↓fmtD, ↓sortedT, ↓eqDt, ↓rcv, ↓empD, ↓boolOwnD, ↓isCD, ↓isCDof, isK_tup, List.lookup_cons, Option.getD_some, Option.getD_none, Option.isSome_some, Option.isSome_none, ↓wXfld_ap, ↓xfD_exn, ↓wCalT_ap, ↓wFnCall_v, ↓fnCallD_fn, ↓wsTry_ap, ↓wsRaise_ap, ↓wLam_ap, ↓wCalA_ap, List.replicate_succ, List.replicate_zero, ↓at1_0, ↓at2_0, ↓at2_1, ↓at3_0, ↓at3_1, ↓at3_2, ↓at4_0, ↓at4_1, ↓at4_2, ↓at4_3, ↓wCallG_ap, ↓wMethG_ap, ↓wMakeG_ap, gdP_ap, pick_nil, pick_p, pick_d, pick_m, pick_w, nth1_0, nth1_s, ↓hv, ↓hs, ↓set_set, ↓at5_0, ↓at5_1, ↓at5_2, ↓at5_3, ↓at5_4, ↓ix5_1, ↓ix5_2, ↓ix5_3, ↓ix5_4]
        exact hn _ _ ⟨rfl, rfl⟩
      rintro _ _ ⟨rfl, rfl⟩
      refine ws_join (fun ρ' S' => (∃ o, ρ' = [some (.loc i), some (.int many), o, none, none]) ∧ ∃ t r m : Int, 0 ≤ t ∧ 0 ≤ r ∧ 0 ≤ m ∧ m < 2147483629 ∧ S' = S.set i (.lst [.lst (cells.map D.int), .int t, .int r, .int m, .int (draws + 1)])) (fun nx hn => ?_) ?_
      · by_cases hc : rest = 0 ∧ taken < cells.length
        · obtain ⟨y, hy, hx⟩ := at_in (l := cells.map D.int) h1 (by rw [List.length_map]; exact hc.2)
          obtain ⟨c, _, rfl⟩ := List.mem_map.mp hy
          simp only [↓wC_ap, ↓wNil_ap, ↓wCons_ap, ↓wLst_ap, ↓wTup_ap, ↓wOp_ap, ↓wB_ap, ↓wUn_ap, ↓wCB_ap, ↓wCall_ap, ↓wCallK_ap, ↓wSl_ap, ↓wPart_ap, ↓wNoPart_ap, ↓wAndT_ap, ↓wOrT_ap, ↓wNotT_ap, ↓wAndV_ap, ↓wOrV_ap, ↓wIf_ap, ↓wTru_ap, ↓wLc_ap, ↓wiSeq_ap, ↓wiRng1_ap, ↓wiRng2_ap, ↓wiZip_ap, ↓wLstRg_ap, ↓wTYes_ap, ↓wsNext_ap, ↓wsSeq_ap, ↓wsRet_ap, ↓wsRetN_ap, ↓wsRetF_ap, ↓wsDrop_ap, ↓wsIf_ap, ↓wsAsg_ap, ↓wsSet_ap, ↓wsSetF_ap, ↓wsPar_ap, ↓wsStore_ap, ↓wsFor_ap, ↓wsBreak_ap, ↓wsCont_ap, ↓wgName_ap, ↓wgNil_ap, ↓wgCons_ap, ↓wgTup_ap, ↓wVar_0, ↓wVar_s, ↓addD, ↓subD, ↓mulD, ↓modD, ↓fdivD, ↓powD, ↓negD, ↓notD, ↓eqD, ↓scalD, ↓inD, ↓isD, ↓ixD, ↓cmpD, ↓leD, ↓geD, ↓gtD, ↓ltD, ↓ordD, ↓lenD, ↓absD, ↓DL.intOfD, ↓listD, ↓allD, ↓isiD, ↓sliceD, ↓truD_non, ↓truD_bl, ↓truD_int, ↓truD_str, ↓truD_lst, ↓truD_tup, List.map_cons, List.map_nil, List.length_cons, List.length_nil, List.replicate, List.cons_append, List.nil_append, List.set_cons_zero, List.set_cons_succ, List.append_nil, List.zip_cons_cons, List.zip_nil_right, List.foldl_cons, List.foldl_nil, Nat.zero_add, Nat.add_zero, Nat.reduceAdd, Nat.reduceSub, Nat.reduceMul, if_true, if_false, Bool.false_eq_true, ite_true, ite_false, v_non, v_bl, v_int, v_str, v_ty, v_cst, v_lst, v_tup, v_dk, v_dt, v_ktp, v_obj, v_scr, startD_ap, wD_nil, wD_cons, wVar_0, wVar_s, ↓is_non_int, ↓is_bl_int, ↓is_int_int, ↓is_str_int, ↓is_lst_int, ↓is_tup_int, ↓is_dk_int, ↓is_non_bool, ↓is_bl_bool, ↓is_int_bool, ↓is_str_bool, ↓is_lst_bool, ↓is_tup_bool, ↓is_dk_bool, ↓is_non_str, ↓is_bl_str, ↓is_int_str, ↓is_str_str, ↓is_lst_str, ↓is_tup_str, ↓is_dk_str, ↓is_non_list, ↓is_bl_list, ↓is_int_list, ↓is_str_list, ↓is_lst_list, ↓is_tup_list, ↓is_dk_list, ↓is_non_tuple, ↓is_bl_tuple, ↓is_int_tuple, ↓is_str_tuple, ↓is_lst_tuple, ↓is_tup_tuple, ↓is_dk_tuple, ↓wsNever_ap, ↓wNever_ap, ↓wFr_ap, ↓wFLst_ap, ↓wFList_ap, ↓wFAdd_ap, ↓wBM_ap, ↓wBM0_ap, ↓wDGet_ap, ↓wDGet2_ap, ↓wsDPut_ap, ↓wNewT_ap, ↓wsRetire_ap, ↓wiKeysT_ap, ↓wDcT_ap, ↓wFld_ap, ↓wsFld_ap, ↓wMake_ap, ↓wMeth_ap, ↓wDictPT_ap, ↓wTruOwn_ap, ↓wFmt_ap, ↓wFs_ap, ↓wiEnum_ap, ↓wJs_nil, ↓wJs_cons, ↓wiEnumA_ap, ↓wNotOwn_ap, ↓wMethX0_ap, ↓wMethF0_ap, ↓wsBMX_ap, ↓wLcF_ap, ↓appendD, ↓popD, ↓entT, ↓dflT, ↓inT, ↓getT, ↓isDt, ↓fldD, ↓recvD, ↓isObjD, ↓isEqR, ↓eqOwnD, ↓inOwnD, ↓lenOwnD, ↓reprOwnD, ↓blP, ↓lenP, ↓strP, ↓truP, ↓lenDt, ↓listDt, ↓tupOf, ↓DL.strOf, ↓fmtD, ↓sortedT, ↓eqDt, ↓rcv, ↓empD, ↓boolOwnD, ↓isCD, ↓isCDof, isK_tup, List.lookup_cons, Option.getD_some, Option.getD_none, Option.isSome_some, Option.isSome_none, ↓wXfld_ap, ↓xfD_exn, ↓wCalT_ap, ↓wFnCall_v, ↓fnCallD_fn, ↓wsTry_ap, ↓wsRaise_ap, ↓wLam_ap, ↓wCalA_ap, List.replicate_succ, List.replicate_zero, ↓at1_0, ↓at2_0, ↓at2_1, ↓at3_0, ↓at3_1, ↓at3_2, ↓at4_0, ↓at4_1, ↓at4_2, ↓at4_3, ↓wCallG_ap, ↓wMethG_ap, ↓wMakeG_ap, gdP_ap, pick_nil, pick_p, pick_d, pick_m, pick_w, nth1_0, nth1_s, ↓hv, ↓hs, ↓set_set, ↓at5_0, ↓at5_1, ↓at5_2, ↓at5_3, ↓at5_4, ↓ix5_1, ↓ix5_2, ↓ix5_3, ↓ix5_4, hx]
          rw [if_pos (decide_eq_true hc.1), if_pos (decide_eq_true (by rw [List.length_map]; exact hc.2))]
          refine ⟨by decide, ?_⟩
          have habs : 0 ≤ (if c < 0 then -c else c) := by split <;> omega
          generalize (if c < 0 then -c else c) = ac at habs ⊢
          split
          · exact hn _ _ ⟨⟨_, rfl⟩, taken + 1, ac, mixed, by omega, habs, h3, h4, rfl⟩
          · exact ⟨mulC (by decide), by decide, mulC (by decide), by decide, hn _ _ ⟨⟨_, rfl⟩, _, _, _, by omega, h2, by omega, by omega, rfl⟩⟩
        · simp only [↓wC_ap, ↓wNil_ap, ↓wCons_ap, ↓wLst_ap, ↓wTup_ap, ↓wOp_ap, ↓wB_ap, ↓wUn_ap, ↓wCB_ap, ↓wCall_ap, ↓wCallK_ap, ↓wSl_ap, ↓wPart_ap, ↓wNoPart_ap, ↓wAndT_ap, ↓wOrT_ap, ↓wNotT_ap, ↓wAndV_ap, ↓wOrV_ap, ↓wIf_ap, ↓wTru_ap, ↓wLc_ap, ↓wiSeq_ap, ↓wiRng1_ap, ↓wiRng2_ap, ↓wiZip_ap, ↓wLstRg_ap, ↓wTYes_ap, ↓wsNext_ap, ↓wsSeq_ap, ↓wsRet_ap, ↓wsRetN_ap, ↓wsRetF_ap, ↓wsDrop_ap, ↓wsIf_ap, ↓wsAsg_ap, ↓wsSet_ap, ↓wsSetF_ap, ↓wsPar_ap, ↓wsStore_ap, ↓wsFor_ap, ↓wsBreak_ap, ↓wsCont_ap, ↓wgName_ap, ↓wgNil_ap, ↓wgCons_ap, ↓wgTup_ap, ↓wVar_0, ↓wVar_s, ↓addD, ↓subD, ↓mulD, ↓modD, ↓fdivD, ↓powD, ↓negD, ↓notD, ↓eqD, ↓scalD, ↓inD, ↓isD, ↓ixD, ↓cmpD, ↓leD, ↓geD, ↓gtD, ↓ltD, ↓ordD, ↓lenD, ↓absD, ↓DL.intOfD, ↓listD, ↓allD, ↓isiD, ↓sliceD, ↓truD_non, ↓truD_bl, ↓truD_int, ↓truD_str, ↓truD_lst, ↓truD_tup, List.map_cons, List.map_nil, List.length_cons, List.length_nil, List.replicate, List.cons_append, List.nil_append, List.set_cons_zero, List.set_cons_succ, List.append_nil, List.zip_cons_cons, List.zip_nil_right, List.foldl_cons, List.foldl_nil, Nat.zero_add, Nat.add_zero, Nat.reduceAdd, Nat.reduceSub, Nat.reduceMul, if_true, if_false, Bool.false_eq_true, ite_true, ite_false, v_non, v_bl, v_int, v_str, v_ty, v_cst, v_lst, v_tup, v_dk, v_dt, v_ktp, v_obj, v_scr, startD_ap, wD_nil, wD_cons, wVar_0, wVar_s, ↓is_non_int, ↓is_bl_int, ↓is_int_int, ↓is_str_int, ↓is_lst_int, ↓is_tup_int, ↓is_dk_int, ↓is_non_bool, ↓is_bl_bool, ↓is_int_bool, ↓is_str_bool, ↓is_lst_bool, ↓is_tup_bool, ↓is_dk_bool, ↓is_non_str, ↓is_bl_str, ↓is_int_str, ↓is_str_str, ↓is_lst_str, ↓is_tup_str, ↓is_dk_str, ↓is_non_list, ↓is_bl_list, ↓is_int_list, ↓is_str_list, ↓is_lst_list, ↓is_tup_list, ↓is_dk_list, ↓is_non_tuple, ↓is_bl_tuple, ↓is_int_tuple, ↓is_str_tuple, ↓is_lst_tuple, ↓is_tup_tuple, ↓is_dk_tuple, ↓wsNever_ap, ↓wNever_ap, ↓wFr_ap, ↓wFLst_ap, ↓wFList_ap, ↓wFAdd_ap, ↓wBM_ap, ↓wBM0_ap, ↓wDGet_ap, ↓wDGet2_ap, ↓wsDPut_ap, ↓wNewT_ap, ↓wsRetire_ap, ↓wiKeysT_ap, ↓wDcT_ap, ↓wFld_ap, ↓wsFld_ap, ↓wMake_ap, ↓wMeth_ap, ↓wDictPT_ap, ↓wTruOwn_ap, ↓wFmt_ap, ↓wFs_ap, ↓wiEnum_ap, ↓wJs_nil, ↓wJs_cons, ↓wiEnumA_ap, ↓wNotOwn_ap, ↓wMethX0_ap, ↓wMethF0_ap, ↓wsBMX_ap, ↓wLcF_ap, ↓appendD, ↓popD, ↓entT, ↓dflT, ↓inT, ↓getT, ↓isDt, ↓fldD, ↓recvD, ↓isObjD, ↓isEqR, ↓eqOwnD, ↓inOwnD, ↓lenOwnD, ↓reprOwnD, ↓blP, ↓lenP, ↓strP, ↓truP, ↓lenDt, ↓listDt, ↓tupOf, ↓DL.strOf, ↓fmtD, ↓sortedT, ↓eqDt, ↓rcv, ↓empD, ↓boolOwnD, ↓isCD, ↓isCDof, isK_tup, List.lookup_cons, Option.getD_some, Option.getD_none, Option.isSome_some, Option.isSome_none, ↓wXfld_ap, ↓xfD_exn, ↓wCalT_ap, ↓wFnCall_v, ↓fnCallD_fn, ↓wsTry_ap, ↓wsRaise_ap, ↓wLam_ap, ↓wCalA_ap, List.replicate_succ, List.replicate_zero, ↓at1_0, ↓at2_0, ↓at2_1, ↓at3_0, ↓at3_1, ↓at3_2, ↓at4_0, ↓at4_1, ↓at4_2, ↓at4_3, ↓wCallG_ap, ↓wMethG_ap, ↓wMakeG_ap, gdP_ap, pick_nil, pick_p, pick_d, pick_m, pick_w, nth1_0, nth1_s, ↓hv, ↓hs, ↓set_set, ↓at5_0, ↓at5_1, ↓at5_2, ↓at5_3, ↓at5_4, ↓ix5_1, ↓ix5_2, ↓ix5_3, ↓ix5_4]
          by_cases q1 : rest = 0
          · rw [if_pos (decide_eq_true q1), if_neg (by rw [List.length_map]; simp; omega)]
            exact hn _ _ ⟨⟨_, rfl⟩, _, _, _, h1, h2, h3, h4, rfl⟩
          · rw [if_neg (by simpa using q1)]
            exact hn _ _ ⟨⟨_, rfl⟩, _, _, _, h1, h2, h3, h4, rfl⟩
      · rintro _ _ ⟨⟨o, rfl⟩, t, r, m, g1, g2, g3, g4, rfl⟩
        refine ws_join (fun ρ' S' => (∃ o', ρ' = [some (.loc i), some (.int many), o, o', none]) ∧ S' = S.set i (.lst [.lst (cells.map D.int), .int t, .int r, .int m, .int (draws + 1)])) (fun nx hn => ?_) ?_
        · simp only [↓wC_ap, ↓wNil_ap, ↓wCons_ap, ↓wLst_ap, ↓wTup_ap, ↓wOp_ap, ↓wB_ap, ↓wUn_ap, ↓wCB_ap, ↓wCall_ap, ↓wCallK_ap, ↓wSl_ap, ↓wPart_ap, ↓wNoPart_ap, ↓wAndT_ap, ↓wOrT_ap, ↓wNotT_ap, ↓wAndV_ap, ↓wOrV_ap, ↓wIf_ap, ↓wTru_ap, ↓wLc_ap, ↓wiSeq_ap, ↓wiRng1_ap, ↓wiRng2_ap, ↓wiZip_ap, ↓wLstRg_ap, ↓wTYes_ap, ↓wsNext_ap, ↓wsSeq_ap, ↓wsRet_ap, ↓wsRetN_ap, ↓wsRetF_ap, ↓wsDrop_ap, ↓wsIf_ap, ↓wsAsg_ap, ↓wsSet_ap, ↓wsSetF_ap, ↓wsPar_ap, ↓wsStore_ap, ↓wsFor_ap, ↓wsBreak_ap, ↓wsCont_ap, ↓wgName_ap, ↓wgNil_ap, ↓wgCons_ap, ↓wgTup_ap, ↓wVar_0, ↓wVar_s, ↓addD, ↓subD, ↓mulD, ↓modD, ↓fdivD, ↓powD, ↓negD, ↓notD, ↓eqD, ↓scalD, ↓inD, ↓isD, ↓ixD, ↓cmpD, ↓leD, ↓geD, ↓gtD, ↓ltD, ↓ordD, ↓lenD, ↓absD, ↓DL.intOfD, ↓listD, ↓allD, ↓isiD, ↓sliceD, ↓truD_non, ↓truD_bl, ↓truD_int, ↓truD_str, ↓truD_lst, ↓truD_tup, List.map_cons, List.map_nil, List.length_cons, List.length_nil, List.replicate, List.cons_append, List.nil_append, List.set_cons_zero, List.set_cons_succ, List.append_nil, List.zip_cons_cons, List.zip_nil_right, List.foldl_cons, List.foldl_nil, Nat.zero_add, Nat.add_zero, Nat.reduceAdd, Nat.reduceSub, Nat.reduceMul, if_true, if_false, Bool.false_eq_true, ite_true, ite_false, v_non, v_bl, v_int, v_str, v_ty, v_cst, v_lst, v_tup, v_dk, v_dt, v_ktp, v_obj, v_scr, startD_ap, wD_nil, wD_cons, wVar_0, wVar_s, ↓is_non_int, ↓is_bl_int, ↓is_int_int, ↓is_str_int, ↓is_lst_int, ↓is_tup_int, ↓is_dk_int, ↓is_non_bool, ↓is_bl_bool, ↓is_int_bool, ↓is_str_bool, ↓is_lst_bool, ↓is_tup_bool, ↓is_dk_bool, ↓is_non_str, ↓is_bl_str, ↓is_int_str, ↓is_str_str, ↓is_lst_str, ↓is_tup_str, ↓is_dk_str, ↓is_non_list, ↓is_bl_list, ↓is_int_list, ↓is_str_list, ↓is_lst_list, ↓is_tup_list, ↓is_dk_list, ↓is_non_tuple, ↓is_bl_tuple, ↓is_int_tuple, ↓is_str_tuple, ↓is_lst_tuple, ↓is_tup_tuple, ↓is_dk_tuple, ↓wsNever_ap, ↓wNever_ap, ↓wFr_ap, ↓wFLst_ap, ↓wFList_ap, ↓wFAdd_ap, ↓wBM_ap, ↓wBM0_ap, ↓wDGet_ap, ↓wDGet2_ap, ↓wsDPut_ap, ↓wNewT_ap, ↓wsRetire_ap, ↓wiKeysT_ap, ↓wDcT_ap, ↓wFld_ap, ↓wsFld_ap, ↓wMake_ap, ↓wMeth_ap, ↓wDictPT_ap, ↓wTruOwn_ap, ↓wFmt_ap, ↓wFs_ap, ↓wiEnum_ap, ↓wJs_nil, ↓wJs_cons, ↓wiEnumA_ap, ↓wNotOwn_ap, ↓wMethX0_ap, ↓wMethF0_ap, ↓wsBMX_ap, ↓wLcF_ap, ↓appendD, ↓popD, ↓entT, ↓dflT, ↓inT, ↓getT, ↓isDt, ↓fldD, ↓recvD, ↓isObjD, ↓isEqR, ↓eqOwnD, ↓inOwnD, ↓lenOwnD, ↓reprOwnD, ↓blP, ↓lenP, ↓strP, ↓truP, ↓lenDt, ↓listDt, ↓tupOf, ↓DL.strOf, ↓fmtD, ↓sortedT, ↓eqDt, ↓rcv, ↓empD, ↓boolOwnD, ↓isCD, ↓isCDof, isK_tup, List.lookup_cons, Option.getD_some, Option.getD_none, Option.isSome_some, Option.isSome_none, ↓wXfld_ap, ↓xfD_exn, ↓wCalT_ap, ↓wFnCall_v, ↓fnCallD_fn, ↓wsTry_ap, ↓wsRaise_ap, ↓wLam_ap, ↓wCalA_ap, List.replicate_succ, List.replicate_zero, ↓at1_0, ↓at2_0, ↓at2_1, ↓at3_0, ↓at3_1, ↓at3_2, ↓at4_0, ↓at4_1, ↓at4_2, ↓at4_3, ↓wCallG_ap, ↓wMethG_ap, ↓wMakeG_ap, gdP_ap, pick_nil, pick_p, pick_d, pick_m, pick_w, nth1_0, nth1_s, ↓hv, ↓hs, ↓set_set, ↓at5_0, ↓at5_1, ↓at5_2, ↓at5_3, ↓at5_4, ↓ix5_1, ↓ix5_2, ↓ix5_3, ↓ix5_4]
          split
          · exact ⟨hm, ⟨hm, Int.lt_of_lt_of_le hm2 (by decide +kernel)⟩, rt_same (by simp) (h _ _ (Int.emod_nonneg _ (by omega)) (Int.emod_lt_of_pos _ hm) ⟨_, _, _, _, _, rfl, g1, Int.ediv_nonneg g2 (by omega), g3, g4⟩)⟩
          · exact hn _ _ ⟨⟨_, rfl⟩, rfl⟩
        · rintro _ _ ⟨⟨o', rfl⟩, rfl⟩
          simp only [↓wC_ap, ↓wNil_ap, ↓wCons_ap, ↓wLst_ap, ↓wTup_ap, ↓wOp_ap, ↓wB_ap, ↓wUn_ap, ↓wCB_ap, ↓wCall_ap, ↓wCallK_ap, ↓wSl_ap, ↓wPart_ap, ↓wNoPart_ap, ↓wAndT_ap, ↓wOrT_ap, ↓wNotT_ap, ↓wAndV_ap, ↓wOrV_ap, ↓wIf_ap, ↓wTru_ap, ↓wLc_ap, ↓wiSeq_ap, ↓wiRng1_ap, ↓wiRng2_ap, ↓wiZip_ap, ↓wLstRg_ap, ↓wTYes_ap, ↓wsNext_ap, ↓wsSeq_ap, ↓wsRet_ap, ↓wsRetN_ap, ↓wsRetF_ap, ↓wsDrop_ap, ↓wsIf_ap, ↓wsAsg_ap, ↓wsSet_ap, ↓wsSetF_ap, ↓wsPar_ap, ↓wsStore_ap, ↓wsFor_ap, ↓wsBreak_ap, ↓wsCont_ap, ↓wgName_ap, ↓wgNil_ap, ↓wgCons_ap, ↓wgTup_ap, ↓wVar_0, ↓wVar_s, ↓addD, ↓subD, ↓mulD, ↓modD, ↓fdivD, ↓powD, ↓negD, ↓notD, ↓eqD, ↓scalD, ↓inD, ↓isD, ↓ixD, ↓cmpD, ↓leD, ↓geD, ↓gtD, ↓ltD, ↓ordD, ↓lenD, ↓absD, ↓DL.intOfD, ↓listD, ↓allD, ↓isiD, ↓sliceD, ↓truD_non, ↓truD_bl, ↓truD_int, ↓truD_str, ↓truD_lst, ↓truD_tup, List.map_cons, List.map_nil, List.length_cons, List.length_nil, List.replicate, List.cons_append, List.nil_append, List.set_cons_zero, List.set_cons_succ, List.append_nil, List.zip_cons_cons, List.zip_nil_right, List.foldl_cons, List.foldl_nil, Nat.zero_add, Nat.add_zero, Nat.reduceAdd, Nat.reduceSub, Nat.reduceMul, if_true, if_false, Bool.false_eq_true, ite_true, ite_false, v_non, v_bl, v_int, v_str, v_ty, v_cst, v_lst, v_tup, v_dk, v_dt, v_ktp, v_obj, v_scr, startD_ap, wD_nil, wD_cons, wVar_0, wVar_s, ↓is_non_int, ↓is_bl_int, ↓is_int_int, ↓is_str_int, ↓is_lst_int, ↓is_tup_int, ↓is_dk_int, ↓is_non_bool, ↓is_bl_bool, ↓is_int_bool, ↓is_str_bool, ↓is_lst_bool, ↓is_tup_bool, ↓is_dk_bool, ↓is_non_str, ↓is_bl_str, ↓is_int_str, ↓is_str_str, ↓is_lst_str, ↓is_tup_str, ↓is_dk_str, ↓is_non_list, ↓is_bl_list, ↓is_int_list, ↓is_str_list, ↓is_lst_list, ↓is_tup_list, ↓is_dk_list, ↓is_non_tuple, ↓is_bl_tuple, ↓is_int_tuple, ↓is_str_tuple, ↓is_lst_tuple, ↓is_tup_tuple, ↓is_dk_tuple, ↓wsNever_ap, ↓wNever_ap, ↓wFr_ap, ↓wFLst_ap, ↓wFList_ap, ↓wFAdd_ap, ↓wBM_ap, ↓wBM0_ap, ↓wDGet_ap, ↓wDGet2_ap, ↓wsDPut_ap, ↓wNewT_ap, ↓wsRetire_ap, ↓wiKeysT_ap, ↓wDcT_ap, ↓wFld_ap, ↓wsFld_ap, ↓wMake_ap, ↓wMeth_ap, ↓wDictPT_ap, ↓wTruOwn_ap, ↓wFmt_ap, ↓wFs_ap, ↓wiEnum_ap, ↓wJs_nil, ↓wJs_cons, ↓wiEnumA_ap, ↓wNotOwn_ap, ↓wMethX0_ap, ↓wMethF0_ap, ↓wsBMX_ap, ↓wLcF_ap, ↓appendD, ↓popD, ↓entT, ↓dflT, ↓inT, ↓getT, ↓isDt, ↓fldD, ↓recvD, ↓isObjD, ↓isEqR, ↓eqOwnD, ↓inOwnD, ↓lenOwnD, ↓reprOwnD, ↓blP, ↓lenP, ↓strP, ↓truP, ↓lenDt, ↓listDt, ↓tupOf, ↓DL.strOf, ↓fmtD, ↓sortedT, ↓eqDt, ↓rcv, ↓empD, ↓boolOwnD, ↓isCD, ↓isCDof, isK_tup, List.lookup_cons, Option.getD_some, Option.getD_none, Option.isSome_some, Option.isSome_none, ↓wXfld_ap, ↓xfD_exn, ↓wCalT_ap, ↓wFnCall_v, ↓fnCallD_fn, ↓wsTry_ap, ↓wsRaise_ap, ↓wLam_ap, ↓wCalA_ap, List.replicate_succ, List.replicate_zero, ↓at1_0, ↓at2_0, ↓at2_1, ↓at3_0, ↓at3_1, ↓at3_2, ↓at4_0, ↓at4_1, ↓at4_2, ↓at4_3, ↓wCallG_ap, ↓wMethG_ap, ↓wMakeG_ap, gdP_ap, pick_nil, pick_p, pick_d, pick_m, pick_w, nth1_0, nth1_s, ↓hv, ↓hs, ↓set_set, ↓at5_0, ↓at5_1, ↓at5_2, ↓at5_3, ↓at5_4, ↓ix5_1, ↓ix5_2, ↓ix5_3, ↓ix5_4]
          have e64 : (2 : Nat) ^ 64 = 18446744073709551616 := by decide
          exact ⟨mulC (by rw [e64]; omega), mulC (by decide), by decide, mulC (by decide), mulC (by decide), by decide, by decide, hm, rt_same (by simp) (h _ _ (Int.emod_nonneg _ (by omega)) (Int.emod_lt_of_pos _ hm) ⟨_, _, _, _, _, rfl, g1, g2, by omega, by omega⟩)⟩
    · exact h.elim
theorem cal_of (B : Bn mg) (I : DefIn K mg "_law_of" "_law_of" s_law_of) (c_law_pull : Cal P w K mg base CX0 1 "_law_pull" ["_law_bag_here", "_law_many"] sp_pull) : Cal P w K mg base CX0 2 "_law_of" ["_law_bag_here", "_law_some"] sp_of := by
  refine cal_def I sc_law_of (fun _ _ _ _ _ _ us hl => match us, hl with | [_, _], _ => rfl) (fun ds S P E h => ?_) (fun f cdv A outer s H E hr => (dss_one (ds_ret (de_ix (de_var 1 (pv 1)) (de_cal c_law_pull hr pass00 (da_cons (de_var 0 (pv 0)) (da_cons (de_callB call_len calld_len rfl B.len bt_len (da_cons (de_var 1 (pv 1)) da_nil)) da_nil))))))) (fun ds S P E hS h => ?_)
  · unfold sp_of at h
    split at h
    · rfl
    · exact h.elim
  · unfold sp_of at h
    split at h
    · rename_i i xs
      obtain ⟨b, hb, ok, hx, hl, h⟩ := h
      walk_at "dl"
      have hp : 0 < xs.length := List.length_pos_iff.mpr hx
      refine ⟨b, hb, ok, by omega, Int.lt_of_lt_of_le (show (xs.length : Int) < 1000000 by omega) (by decide +kernel), fun d b' h0 h1 ok' => ?_⟩
      obtain ⟨y, hy, e⟩ := at_in h0 h1
      simp only [↓wC_ap, ↓wNil_ap, ↓wCons_ap, ↓wLst_ap, ↓wTup_ap, ↓wOp_ap, ↓wB_ap, ↓wUn_ap, ↓wCB_ap, ↓wCall_ap, ↓wCallK_ap, ↓wSl_ap, ↓wPart_ap, ↓wNoPart_ap, ↓wAndT_ap, ↓wOrT_ap, ↓wNotT_ap, ↓wAndV_ap, ↓wOrV_ap, ↓wIf_ap, ↓wTru_ap, ↓wLc_ap, ↓wiSeq_ap, ↓wiRng1_ap, ↓wiRng2_ap, ↓wiZip_ap, ↓wLstRg_ap, ↓wTYes_ap, ↓wsNext_ap, ↓wsSeq_ap, ↓wsRet_ap, ↓wsRetN_ap, ↓wsRetF_ap, ↓wsDrop_ap, ↓wsIf_ap, ↓wsAsg_ap, ↓wsSet_ap, ↓wsSetF_ap, ↓wsPar_ap, ↓wsStore_ap, ↓wsFor_ap, ↓wsBreak_ap, ↓wsCont_ap, ↓wgName_ap, ↓wgNil_ap, ↓wgCons_ap, ↓wgTup_ap, ↓wVar_0, ↓wVar_s, ↓addD, ↓subD, ↓mulD, ↓modD, ↓fdivD, ↓powD, ↓negD, ↓notD, ↓eqD, ↓scalD, ↓inD, ↓isD, ↓ixD, ↓cmpD, ↓leD, ↓geD, ↓gtD, ↓ltD, ↓ordD, ↓lenD, ↓absD, ↓DL.intOfD, ↓listD, ↓allD, ↓isiD, ↓sliceD, ↓truD_non, ↓truD_bl, ↓truD_int, ↓truD_str, ↓truD_lst, ↓truD_tup, List.map_cons, List.map_nil, List.length_cons, List.length_nil, List.replicate, List.cons_append, List.nil_append, List.set_cons_zero, List.set_cons_succ, List.append_nil, List.zip_cons_cons, List.zip_nil_right, List.foldl_cons, List.foldl_nil, Nat.zero_add, Nat.add_zero, Nat.reduceAdd, Nat.reduceSub, Nat.reduceMul, if_true, if_false, Bool.false_eq_true, ite_true, ite_false, v_non, v_bl, v_int, v_str, v_ty, v_cst, v_lst, v_tup, v_dk, v_dt, v_ktp, v_obj, v_scr, startD_ap, wD_nil, wD_cons, wVar_0, wVar_s, ↓is_non_int, ↓is_bl_int, ↓is_int_int, ↓is_str_int, ↓is_lst_int, ↓is_tup_int, ↓is_dk_int, ↓is_non_bool, ↓is_bl_bool, ↓is_int_bool, ↓is_str_bool, ↓is_lst_bool, ↓is_tup_bool, ↓is_dk_bool, ↓is_non_str, ↓is_bl_str, ↓is_int_str, ↓is_str_str, ↓is_lst_str, ↓is_tup_str, ↓is_dk_str, ↓is_non_list, ↓is_bl_list, ↓is_int_list, ↓is_str_list, ↓is_lst_list, ↓is_tup_list, ↓is_dk_list, ↓is_non_tuple, ↓is_bl_tuple, ↓is_int_tuple, ↓is_str_tuple, ↓is_lst_tuple, ↓is_tup_tuple, ↓is_dk_tuple, ↓wsNever_ap, ↓wNever_ap, ↓wFr_ap, ↓wFLst_ap, ↓wFList_ap, ↓wFAdd_ap, ↓wBM_ap, ↓wBM0_ap, ↓wDGet_ap, ↓wDGet2_ap, ↓wsDPut_ap, ↓wNewT_ap, ↓wsRetire_ap, ↓wiKeysT_ap, ↓wDcT_ap, ↓wFld_ap, ↓wsFld_ap, ↓wMake_ap, ↓wMeth_ap, ↓wDictPT_ap, ↓wTruOwn_ap, ↓wFmt_ap, ↓wFs_ap, ↓wiEnum_ap, ↓wJs_nil, ↓wJs_cons, ↓wiEnumA_ap, ↓wNotOwn_ap, ↓wMethX0_ap, ↓wMethF0_ap, ↓wsBMX_ap, ↓wLcF_ap, ↓appendD, ↓popD, ↓entT, ↓dflT, ↓inT, ↓getT, ↓isDt, ↓fldD, ↓recvD, ↓isObjD, ↓isEqR, ↓eqOwnD, ↓inOwnD, ↓lenOwnD, ↓reprOwnD, ↓blP, ↓lenP, ↓strP, ↓truP, ↓lenDt, ↓listDt, ↓tupOf, ↓DL.strOf, ↓fmtD, ↓sortedT, ↓eqDt, ↓rcv, ↓empD, ↓boolOwnD, ↓isCD, ↓isCDof, isK_tup, List.lookup_cons, Option.getD_some, Option.getD_none, Option.isSome_some, Option.isSome_none, ↓wXfld_ap, ↓xfD_exn, ↓wCalT_ap, ↓wFnCall_v, ↓fnCallD_fn, ↓wsTry_ap, ↓wsRaise_ap, ↓wLam_ap, ↓wCalA_ap, List.replicate_succ, List.replicate_zero, ↓at1_0, ↓at2_0, ↓at2_1, ↓at3_0, ↓at3_1, ↓at3_2, ↓at4_0, ↓at4_1, ↓at4_2, ↓at4_3, ↓wCallG_ap, ↓wMethG_ap, ↓wMakeG_ap, gdP_ap, pick_nil, pick_p, pick_d, pick_m, pick_w, nth1_0, nth1_s, ↓e]
      exact rt_same (by simp) (h y b' hy ok')
    · exact h.elim
theorem cal_near (B : Bn mg) (I : DefIn K mg "_law_near" "_law_near" s_law_near) (c_law_pull : Cal P w K mg base CX0 1 "_law_pull" ["_law_bag_here", "_law_many"] sp_pull) : Cal P w K mg base CX0 2 "_law_near" ["_law_bag_here", "_law_far"] sp_near := by
  refine cal_def I sc_law_near (fun _ _ _ _ _ _ us hl => match us, hl with | [_, _], _ => rfl) (fun ds S P E h => ?_) (fun f cdv A outer s H E hr => (dss_one (ds_ret (de_op op_sub opd_sub (de_cal c_law_pull hr pass00 (da_cons (de_var 0 (pv 0)) (da_cons (de_op op_addA opd_add (de_op op_mulA opd_mul de_int (de_var 1 (pv 1))) de_int) da_nil))) (de_var 1 (pv 1)))))) (fun ds S P E hS h => ?_)
  · unfold sp_near at h
    split at h
    · rfl
    · exact h.elim
  · unfold sp_near at h
    split at h
    · rename_i i far
      obtain ⟨b, hb, ok, h0, h1, h⟩ := h
      have e9 : ((10 : Int) ^ 900) * 2 + 1 ≤ 10 ^ 1000 := by decide +kernel
      walk_at "dl"
      refine ⟨mulC1 (by decide), b, hb, ok, by omega, by omega, fun d b' g0 g1 ok' => ?_⟩
      walk_at "dl"
      exact rt_same (by simp) (h _ b' (by omega) (by omega) ok')
    · exact h.elim
theorem cal_any (B : Bn mg) (I : DefIn K mg "_law_any" "_law_any" s_law_any) (c_law_near : Cal P w K mg base CX0 2 "_law_near" ["_law_bag_here", "_law_far"] sp_near) (c_law_of : Cal P w K mg base CX0 2 "_law_of" ["_law_bag_here", "_law_some"] sp_of) : Cal P w K mg base CX0 3 "_law_any" ["_law_bag_here"] sp_any := by
  refine cal_def I sc_law_any (fun _ _ _ _ _ _ us hl => match us, hl with | [_], _ => rfl) (fun ds S P E h => ?_) (fun f cdv A outer s H E hr => (dss_one (ds_ret (de_cal c_law_of hr pass00 (da_cons (de_var 0 (pv 0)) (da_cons (de_lst (da_cons (de_cal c_law_near hr pass00 (da_cons (de_var 0 (pv 0)) (da_cons de_int da_nil))) (da_cons (de_cal c_law_near hr pass00 (da_cons (de_var 0 (pv 0)) (da_cons de_int da_nil))) (da_cons (de_cal c_law_near hr pass00 (da_cons (de_var 0 (pv 0)) (da_cons (de_op op_pow opd_pow de_int de_int) da_nil))) da_nil)))) da_nil)))))) (fun ds S P E hS h => ?_)
  · unfold sp_any at h
    split at h
    · rfl
    · exact h.elim
  · unfold sp_any at h
    split at h
    · rename_i i
      obtain ⟨b, hb, ok, h⟩ := h
      walk_at "dl"
      refine ⟨b, hb, ok, by decide, by decide +kernel, fun z1 b1 l1 u1 ok1 => ?_⟩
      walk_at "dl"
      refine ⟨b1, get_set hb, ok1, by decide, by decide +kernel, fun z2 b2 l2 u2 ok2 => ?_⟩
      simp only [↓wC_ap, ↓wNil_ap, ↓wCons_ap, ↓wLst_ap, ↓wTup_ap, ↓wOp_ap, ↓wB_ap, ↓wUn_ap, ↓wCB_ap, ↓wCall_ap, ↓wCallK_ap, ↓wSl_ap, ↓wPart_ap, ↓wNoPart_ap, ↓wAndT_ap, ↓wOrT_ap, ↓wNotT_ap, ↓wAndV_ap, ↓wOrV_ap, ↓wIf_ap, ↓wTru_ap, ↓wLc_ap, ↓wiSeq_ap, ↓wiRng1_ap, ↓wiRng2_ap, ↓wiZip_ap, ↓wLstRg_ap, ↓wTYes_ap, ↓wsNext_ap, ↓wsSeq_ap, ↓wsRet_ap, ↓wsRetN_ap, ↓wsRetF_ap, ↓wsDrop_ap, ↓wsIf_ap, ↓wsAsg_ap, ↓wsSet_ap, ↓wsSetF_ap, ↓wsPar_ap, ↓wsStore_ap, ↓wsFor_ap, ↓wsBreak_ap, ↓wsCont_ap, ↓wgName_ap, ↓wgNil_ap, ↓wgCons_ap, ↓wgTup_ap, ↓wVar_0, ↓wVar_s, ↓addD, ↓subD, ↓mulD, ↓modD, ↓fdivD, ↓powD, ↓negD, ↓notD, ↓eqD, ↓scalD, ↓inD, ↓isD, ↓ixD, ↓cmpD, ↓leD, ↓geD, ↓gtD, ↓ltD, ↓ordD, ↓lenD, ↓absD, ↓DL.intOfD, ↓listD, ↓allD, ↓isiD, ↓sliceD, ↓truD_non, ↓truD_bl, ↓truD_int, ↓truD_str, ↓truD_lst, ↓truD_tup, List.map_cons, List.map_nil, List.length_cons, List.length_nil, List.replicate, List.cons_append, List.nil_append, List.set_cons_zero, List.set_cons_succ, List.append_nil, List.zip_cons_cons, List.zip_nil_right, List.foldl_cons, List.foldl_nil, Nat.zero_add, Nat.add_zero, Nat.reduceAdd, Nat.reduceSub, Nat.reduceMul, if_true, if_false, Bool.false_eq_true, ite_true, ite_false, v_non, v_bl, v_int, v_str, v_ty, v_cst, v_lst, v_tup, v_dk, v_dt, v_ktp, v_obj, v_scr, startD_ap, wD_nil, wD_cons, wVar_0, wVar_s, ↓is_non_int, ↓is_bl_int, ↓is_int_int, ↓is_str_int, ↓is_lst_int, ↓is_tup_int, ↓is_dk_int, ↓is_non_bool, ↓is_bl_bool, ↓is_int_bool, ↓is_str_bool, ↓is_lst_bool, ↓is_tup_bool, ↓is_dk_bool, ↓is_non_str, ↓is_bl_str, ↓is_int_str, ↓is_str_str, ↓is_lst_str, ↓is_tup_str, ↓is_dk_str, ↓is_non_list, ↓is_bl_list, ↓is_int_list, ↓is_str_list, ↓is_lst_list, ↓is_tup_list, ↓is_dk_list, ↓is_non_tuple, ↓is_bl_tuple, ↓is_int_tuple, ↓is_str_tuple, ↓is_lst_tuple, ↓is_tup_tuple, ↓is_dk_tuple, ↓wsNever_ap, ↓wNever_ap, ↓wFr_ap, ↓wFLst_ap, ↓wFList_ap, ↓wFAdd_ap, ↓wBM_ap, ↓wBM0_ap, ↓wDGet_ap, ↓wDGet2_ap, ↓wsDPut_ap, ↓wNewT_ap, ↓wsRetire_ap, ↓wiKeysT_ap, ↓wDcT_ap, ↓wFld_ap, ↓wsFld_ap, ↓wMake_ap, ↓wMeth_ap, ↓wDictPT_ap, ↓wTruOwn_ap, ↓wFmt_ap, ↓wFs_ap, ↓wiEnum_ap, ↓wJs_nil, ↓wJs_cons, ↓wiEnumA_ap, ↓wNotOwn_ap, ↓wMethX0_ap, ↓wMethF0_ap, ↓wsBMX_ap, ↓wLcF_ap, ↓appendD, ↓popD, ↓entT, ↓dflT, ↓inT, ↓getT, ↓isDt, ↓fldD, ↓recvD, ↓isObjD, ↓isEqR, ↓eqOwnD, ↓inOwnD, ↓lenOwnD, ↓reprOwnD, ↓blP, ↓lenP, ↓strP, ↓truP, ↓lenDt, ↓listDt, ↓tupOf, ↓DL.strOf, ↓fmtD, ↓sortedT, ↓eqDt, ↓rcv, ↓empD, ↓boolOwnD, ↓isCD, ↓isCDof, isK_tup, List.lookup_cons, Option.getD_some, Option.getD_none, Option.isSome_some, Option.isSome_none, ↓wXfld_ap, ↓xfD_exn, ↓wCalT_ap, ↓wFnCall_v, ↓fnCallD_fn, ↓wsTry_ap, ↓wsRaise_ap, ↓wLam_ap, ↓wCalA_ap, List.replicate_succ, List.replicate_zero, ↓at1_0, ↓at2_0, ↓at2_1, ↓at3_0, ↓at3_1, ↓at3_2, ↓at4_0, ↓at4_1, ↓at4_2, ↓at4_3, ↓wCallG_ap, ↓wMethG_ap, ↓wMakeG_ap, gdP_ap, pick_nil, pick_p, pick_d, pick_m, pick_w, nth1_0, nth1_s, ↓set_set]
      refine ⟨by decide, b2, get_set hb, ok2, by decide +kernel, by decide +kernel, fun z3 b3 l3 u3 ok3 => ?_⟩
      simp only [↓wC_ap, ↓wNil_ap, ↓wCons_ap, ↓wLst_ap, ↓wTup_ap, ↓wOp_ap, ↓wB_ap, ↓wUn_ap, ↓wCB_ap, ↓wCall_ap, ↓wCallK_ap, ↓wSl_ap, ↓wPart_ap, ↓wNoPart_ap, ↓wAndT_ap, ↓wOrT_ap, ↓wNotT_ap, ↓wAndV_ap, ↓wOrV_ap, ↓wIf_ap, ↓wTru_ap, ↓wLc_ap, ↓wiSeq_ap, ↓wiRng1_ap, ↓wiRng2_ap, ↓wiZip_ap, ↓wLstRg_ap, ↓wTYes_ap, ↓wsNext_ap, ↓wsSeq_ap, ↓wsRet_ap, ↓wsRetN_ap, ↓wsRetF_ap, ↓wsDrop_ap, ↓wsIf_ap, ↓wsAsg_ap, ↓wsSet_ap, ↓wsSetF_ap, ↓wsPar_ap, ↓wsStore_ap, ↓wsFor_ap, ↓wsBreak_ap, ↓wsCont_ap, ↓wgName_ap, ↓wgNil_ap, ↓wgCons_ap, ↓wgTup_ap, ↓wVar_0, ↓wVar_s, ↓addD, ↓subD, ↓mulD, ↓modD, ↓fdivD, ↓powD, ↓negD, ↓notD, ↓eqD, ↓scalD, ↓inD, ↓isD, ↓ixD, ↓cmpD, ↓leD, ↓geD, ↓gtD, ↓ltD, ↓ordD, ↓lenD, ↓absD, ↓DL.intOfD, ↓listD, ↓allD, ↓isiD, ↓sliceD, ↓truD_non, ↓truD_bl, ↓truD_int, ↓truD_str, ↓truD_lst, ↓truD_tup, List.map_cons, List.map_nil, List.length_cons, List.length_nil, List.replicate, List.cons_append, List.nil_append, List.set_cons_zero, List.set_cons_succ, List.append_nil, List.zip_cons_cons, List.zip_nil_right, List.foldl_cons, List.foldl_nil, Nat.zero_add, Nat.add_zero, Nat.reduceAdd, Nat.reduceSub, Nat.reduceMul, if_true, if_false, Bool.false_eq_true, ite_true, ite_false, v_non, v_bl, v_int, v_str, v_ty, v_cst, v_lst, v_tup, v_dk, v_dt, v_ktp, v_obj, v_scr, startD_ap, wD_nil, wD_cons, wVar_0, wVar_s, ↓is_non_int, ↓is_bl_int, ↓is_int_int, ↓is_str_int, ↓is_lst_int, ↓is_tup_int, ↓is_dk_int, ↓is_non_bool, ↓is_bl_bool, ↓is_int_bool, ↓is_str_bool, ↓is_lst_bool, ↓is_tup_bool, ↓is_dk_bool, ↓is_non_str, ↓is_bl_str, ↓is_int_str, ↓is_str_str, ↓is_lst_str, ↓is_tup_str, ↓is_dk_str, ↓is_non_list, ↓is_bl_list, ↓is_int_list, ↓is_str_list, ↓is_lst_list, ↓is_tup_list, ↓is_dk_list, ↓is_non_tuple, ↓is_bl_tuple, ↓is_int_tuple, ↓is_str_tuple, ↓is_lst_tuple, ↓is_tup_tuple, ↓is_dk_tuple, ↓wsNever_ap, ↓wNever_ap, ↓wFr_ap, ↓wFLst_ap, ↓wFList_ap, ↓wFAdd_ap, ↓wBM_ap, ↓wBM0_ap, ↓wDGet_ap, ↓wDGet2_ap, ↓wsDPut_ap, ↓wNewT_ap, ↓wsRetire_ap, ↓wiKeysT_ap, ↓wDcT_ap, ↓wFld_ap, ↓wsFld_ap, ↓wMake_ap, ↓wMeth_ap, ↓wDictPT_ap, ↓wTruOwn_ap, ↓wFmt_ap, ↓wFs_ap, ↓wiEnum_ap, ↓wJs_nil, ↓wJs_cons, ↓wiEnumA_ap, ↓wNotOwn_ap, ↓wMethX0_ap, ↓wMethF0_ap, ↓wsBMX_ap, ↓wLcF_ap, ↓appendD, ↓popD, ↓entT, ↓dflT, ↓inT, ↓getT, ↓isDt, ↓fldD, ↓recvD, ↓isObjD, ↓isEqR, ↓eqOwnD, ↓inOwnD, ↓lenOwnD, ↓reprOwnD, ↓blP, ↓lenP, ↓strP, ↓truP, ↓lenDt, ↓listDt, ↓tupOf, ↓DL.strOf, ↓fmtD, ↓sortedT, ↓eqDt, ↓rcv, ↓empD, ↓boolOwnD, ↓isCD, ↓isCDof, isK_tup, List.lookup_cons, Option.getD_some, Option.getD_none, Option.isSome_some, Option.isSome_none, ↓wXfld_ap, ↓xfD_exn, ↓wCalT_ap, ↓wFnCall_v, ↓fnCallD_fn, ↓wsTry_ap, ↓wsRaise_ap, ↓wLam_ap, ↓wCalA_ap, List.replicate_succ, List.replicate_zero, ↓at1_0, ↓at2_0, ↓at2_1, ↓at3_0, ↓at3_1, ↓at3_2, ↓at4_0, ↓at4_1, ↓at4_2, ↓at4_3, ↓wCallG_ap, ↓wMethG_ap, ↓wMakeG_ap, gdP_ap, pick_nil, pick_p, pick_d, pick_m, pick_w, nth1_0, nth1_s, ↓set_set]
      refine ⟨by decide, b3, get_set hb, ok3, by simp, by simp, fun x b' hx ok' => ?_⟩
      rw [set_set]
      have e30 : (3 : Int) ≤ 10 ^ 30 := by decide
      have e31 : (10 : Int) ^ Int.toNat 30 = 10 ^ 30 := rfl
      rw [e31] at l3 u3
      refine rt_same (by simp) ?_
      rcases List.mem_cons.mp hx with e | hx
      · subst e; exact h _ b' (by omega) (by omega) ok'
      rcases List.mem_cons.mp hx with e | hx
      · subst e; exact h _ b' (by omega) (by omega) ok'
      rcases List.mem_cons.mp hx with e | hx
      · subst e; exact h _ b' l3 u3 ok'
      · cases hx
    · exact h.elim
theorem cal_same1 (B : Bn mg) (I : DefIn K mg "_law_same" "_law_same" s_law_same) {n m : Nat} {spr : DSp} (hz : ∀ x y S P E, deep x = true → deep y = true → dep y < m → P (.bl (same x y)) S → spr [x, y] S P E)
    (c_law_same : Cal P w K mg base CX0 n "_law_same" ["_law_found", "_law_due"] spr) : Cal P w K mg base CX0 (n + 1) "_law_same" ["_law_found", "_law_due"] (sp_same m) := by
  refine cal_def I sc_law_same (fun _ _ _ _ _ _ us hl => match us, hl with | [_, _], _ => rfl) (fun ds S P E h => ?_) (fun f cdv A outer s H E hr => (dss_cons (ds_if (dt_tru (de_callB (CallR.or call_isi (CallR.or call_isiT call_isiK)) calld_isi rfl B.isinstance bt_isinstance (da_cons (de_var 1 (pv 1)) (da_cons (de_tup (da_cons (de_ty rfl B.list bt_list) (da_cons (de_ty rfl B.tuple bt_tuple) da_nil))) da_nil)))) (dss_cons (ds_if (dt_w (dw_or (dt_ne hr.units (de_callB (CallR.or call_isi (CallR.or call_isiT call_isiK)) calld_isi rfl B.isinstance bt_isinstance (da_cons (de_var 0 (pv 0)) (da_cons (de_ty rfl B.list bt_list) da_nil))) (de_callB (CallR.or call_isi (CallR.or call_isiT call_isiK)) calld_isi rfl B.isinstance bt_isinstance (da_cons (de_var 1 (pv 1)) (da_cons (de_ty rfl B.list bt_list) da_nil)))) (dw_or1 (dt_ne hr.units (de_callB (CallR.or call_isi (CallR.or call_isiT call_isiK)) calld_isi rfl B.isinstance bt_isinstance (da_cons (de_var 0 (pv 0)) (da_cons (de_ty rfl B.tuple bt_tuple) da_nil))) (de_callB (CallR.or call_isi (CallR.or call_isiT call_isiK)) calld_isi rfl B.isinstance bt_isinstance (da_cons (de_var 1 (pv 1)) (da_cons (de_ty rfl B.tuple bt_tuple) da_nil))))))) (dss_one (ds_ret de_bl)) dss_nil)
  (dss_one (ds_ret (de_and (de_eq hr.units (de_callB call_len calld_len rfl B.len bt_len (da_cons (de_var 0 (pv 0)) da_nil)) (de_callB call_len calld_len rfl B.len bt_len (da_cons (de_var 1 (pv 1)) da_nil))) (de_one (de_callB (cr_all rfl) calld_all rfl B.all bt_all (da_cons (de_lc (own := [("_law_a", 2), ("_law_b", 3)]) rfl sc_law_same.nd (di_zip rfl B.zip (da_cons (de_var 0 (pv 0)) (da_cons (de_var 1 (pv 1)) da_nil))) (blkOk_by (N := N_law_same) (sc := defScope s_law_same) (by decide +kernel)) (fun _ _ _ _ _ => (dg_tup (n := 2) rfl (dgs_cons (dg_name (pg_name (i := 2) sc_law_same.nd rfl (by first | exact .inl rfl | exact .inr rfl))) (dgs_cons (dg_name (pg_name (i := 3) sc_law_same.nd rfl (by first | exact .inl rfl | exact .inr rfl))) dgs_nil)))) (fun _ _ _ _ _ => dts_nil) (fun _ _ _ _ _ => (de_cal c_law_same hr pass00 (da_cons (de_var 2 (pv 2)) (da_cons (de_var 3 (pv 3)) da_nil))))) da_nil))))))) dss_nil)
  (dss_cons (ds_if (dt_w (dw_or (dt_cmp op_isN opd_is (de_var 1 (pv 1)) de_non) (dw_or1 (dt_cmp op_isN opd_is (de_var 0 (pv 0)) de_non)))) (dss_one (ds_ret (de_and (de_cmp op_isN opd_is (de_var 1 (pv 1)) de_non) (de_one (de_cmp op_isN opd_is (de_var 0 (pv 0)) de_non))))) dss_nil)
  (dss_cons (ds_if (dt_w (dw_or (dt_ne hr.units (de_callB (CallR.or call_isi (CallR.or call_isiT call_isiK)) calld_isi rfl B.isinstance bt_isinstance (da_cons (de_var 1 (pv 1)) (da_cons (de_ty rfl B.bool bt_bool) da_nil))) (de_callB (CallR.or call_isi (CallR.or call_isiT call_isiK)) calld_isi rfl B.isinstance bt_isinstance (da_cons (de_var 0 (pv 0)) (da_cons (de_ty rfl B.bool bt_bool) da_nil)))) (dw_or1 (dt_ne hr.units (de_callB (CallR.or call_isi (CallR.or call_isiT call_isiK)) calld_isi rfl B.isinstance bt_isinstance (da_cons (de_var 1 (pv 1)) (da_cons (de_ty rfl B.int bt_int) da_nil))) (de_callB (CallR.or call_isi (CallR.or call_isiT call_isiK)) calld_isi rfl B.isinstance bt_isinstance (da_cons (de_var 0 (pv 0)) (da_cons (de_ty rfl B.int bt_int) da_nil))))))) (dss_one (ds_ret de_bl)) dss_nil)
  (dss_one (ds_ret (de_and (de_eq hr.units (de_callB (CallR.or call_isi (CallR.or call_isiT call_isiK)) calld_isi rfl B.isinstance bt_isinstance (da_cons (de_var 1 (pv 1)) (da_cons (de_ty rfl B.str bt_str) da_nil))) (de_callB (CallR.or call_isi (CallR.or call_isiT call_isiK)) calld_isi rfl B.isinstance bt_isinstance (da_cons (de_var 0 (pv 0)) (da_cons (de_ty rfl B.str bt_str) da_nil)))) (de_one (de_eq hr.units (de_var 0 (pv 0)) (de_var 1 (pv 1))))))))))) (fun ds S P E hS h => ?_)
  · unfold sp_same at h
    split at h
    · rfl
    · exact h.elim
  · unfold sp_same at h
    split at h
    · rename_i x y
      obtain ⟨hx, hy, hd, h⟩ := h
      cases y with
      | lst b =>
        cases x with
        | lst a =>
          walk_at "dl"
          simp only [decide_true, decide_false, Bool.not_true, Bool.not_false, Bool.false_eq_true, if_false, Bool.or_false, Bool.or_true, if_true]
          refine ⟨by decide, ?_⟩
          by_cases hl : a.length = b.length
          · rw [if_pos (decide_eq_true (by omega))]
            refine ⟨True.intro, lcW_mapG (fun p => .bl (smP p)) (zipD a b) [] (fun p hp Q hq => ?_) ?_ ?_⟩
            · obtain ⟨x, y, rfl, hx', hy'⟩ := zip_mem hp
              walk_at "dl"
              refine ⟨True.intro, True.intro, hz _ _ _ _ _ (deeps_mem (and_tt hx).2 hx') (deeps_mem (and_tt hy).2 hy') ?_ hq⟩
              have h9 : deps b + 1 ≤ m := hd
              have := deps_mem hy'
              omega
            · rw [List.length_nil, Nat.zero_add]
              exact zip_len (of_decide_eq_true (and_tt hx).1)
            · simp only [List.nil_append, bls_map, all_map_id]
              have e : DL.same (.lst a) (.lst b) = (zipD a b).all smP := by
                show sames a b = _
                rw [sames_zip, decide_eq_true hl]
                rfl
              rw [e] at h
              exact rt_same rfl h
          · rw [if_neg (by simp; omega)]
            have e : DL.same (.lst a) (.lst b) = false := by
              show sames a b = _
              rw [sames_zip, decide_eq_false hl]
              rfl
            rw [e] at h
            exact rt_same rfl h
        | _ =>
          first
          | (exfalso; exact Bool.false_ne_true hx)
          | (walk_at "dl"; refine ⟨by decide, ?_⟩; simp [isNonD]; exact rt_same rfl (by simpa [DL.same] using h))
      | tup b =>
        cases x with
        | tup a =>
          walk_at "dl"
          simp only [decide_true, decide_false, Bool.not_true, Bool.not_false, Bool.false_eq_true, if_false, Bool.or_false, Bool.or_true, if_true]
          refine ⟨by decide, ?_⟩
          by_cases hl : a.length = b.length
          · rw [if_pos (decide_eq_true (by omega))]
            refine ⟨True.intro, lcW_mapG (fun p => .bl (smP p)) (zipD a b) [] (fun p hp Q hq => ?_) ?_ ?_⟩
            · obtain ⟨x, y, rfl, hx', hy'⟩ := zip_mem hp
              walk_at "dl"
              refine ⟨True.intro, True.intro, hz _ _ _ _ _ (deeps_mem (and_tt hx).2 hx') (deeps_mem (and_tt hy).2 hy') ?_ hq⟩
              have h9 : deps b + 1 ≤ m := hd
              have := deps_mem hy'
              omega
            · rw [List.length_nil, Nat.zero_add]
              exact zip_len (of_decide_eq_true (and_tt hx).1)
            · simp only [List.nil_append, bls_map, all_map_id]
              have e : DL.same (.tup a) (.tup b) = (zipD a b).all smP := by
                show sames a b = _
                rw [sames_zip, decide_eq_true hl]
                rfl
              rw [e] at h
              exact rt_same rfl h
          · rw [if_neg (by simp; omega)]
            have e : DL.same (.tup a) (.tup b) = false := by
              show sames a b = _
              rw [sames_zip, decide_eq_false hl]
              rfl
            rw [e] at h
            exact rt_same rfl h
        | _ =>
          first
          | (exfalso; exact Bool.false_ne_true hx)
          | (walk_at "dl"; refine ⟨by decide, ?_⟩; simp [isNonD]; exact rt_same rfl (by simpa [DL.same] using h))
      | _ =>
        cases x
        all_goals first
          | (exfalso; exact Bool.false_ne_true hx)
          | (exfalso; exact Bool.false_ne_true hy)
          | skip
        all_goals (walk_at "dl")
        all_goals
          refine ⟨by decide, ?_⟩
          simp [isNonD]
          exact rt_same rfl (by simpa [DL.same] using h)
    · exact h.elim
theorem cal_same (B : Bn mg) (I : DefIn K mg "_law_same" "_law_same" s_law_same) : ∀ n : Nat, Cal P w K mg base CX0 (n + 1) "_law_same" ["_law_found", "_law_due"] (sp_same n)
  | 0 => cal_same1 B I (fun _ _ _ _ _ _ _ h _ => absurd h (Nat.not_lt_zero _)) (cal_no I (fun _ _ _ _ _ _ us hl => match us, hl with | [_, _], _ => rfl))
  | n + 1 => cal_same1 B I (fun _ _ _ _ _ h1 h2 h3 h4 => ⟨h1, h2, by omega, h4⟩) (cal_same B I n)
/-- the fields of an error that the law asks for -/
def fieldR (fs : List (Str × D)) : Option D := match fs.lookup ("code" : Str) with
  | some (.str c) => if c = ("InvalidEdge" : Str) then (match fs.lookup ("given" : Str) with
    | some g => some (.tup [g])
    | none => none) else some (.tup [])
  | _ => none
def sp_field (K : PySem.W.Frag) : DSp := fun ds S P _ => match ds with
  | [.exn C fs] => XfK K C "code" ∧ XfK K C "given" ∧ ∃ r, fieldR fs = some r ∧ P r S
  | _ => False
theorem cal_field (B : Bn mg) (I : DefIn K mg "_law_field" "_law_field" s_law_field) : CalT P w K mg base 1 "_law_field" ["_law_e"] (sp_field K) := by
  refine calt_def I sc_law_field (fun _ _ _ _ _ _ us hl => match us, hl with | [_], _ => rfl) (fun ds S P E h => ?_) (fun f cdv A outer s H E hr => (dss_cons (ds_if (dt_eq hr.units (de_xfld (de_var 0 (pv 0))) de_str) (dss_one (ds_ret (de_tup (da_cons (de_xfld (de_var 0 (pv 0))) da_nil)))) dss_nil)
  (dss_one (ds_ret (de_tup da_nil))))) (fun ds S P E hS h => ?_)
  · unfold sp_field at h
    split at h
    · rfl
    · exact h.elim
  · unfold sp_field at h
    split at h
    · rename_i C fs
      obtain ⟨h1, h2, r, h3, h4⟩ := h
      unfold fieldR at h3
      walk_at "dl"
      refine ⟨h1, ?_⟩
      cases e1 : fs.lookup ("code" : Str) with
      | none => rw [e1] at h3; cases h3
      | some d =>
        rw [e1] at h3
        cases d with
        | str c =>
          by_cases hc : c = ("InvalidEdge" : Str)
          · simp only [hc, decide_true, if_true] at h3 ⊢
            refine ⟨h2, ?_⟩
            cases e2 : fs.lookup ("given" : Str) with
            | none => rw [e2] at h3; cases h3
            | some g =>
              rw [e2] at h3
              obtain rfl := Option.some.inj h3
              exact ⟨by decide, rt_same rfl h4⟩
          · simp only [hc, decide_false, if_false] at h3 ⊢
            obtain rfl := Option.some.inj h3
            exact ⟨by decide, rt_same rfl h4⟩
        | _ => cases h3
    · exact h.elim
/-- what _law_got hands back of a function's call -/
def gotE (K : PySem.W.Frag) (cs : List Value) (n : Nat) (P' : DK) : Ex := fun C fs S' => S'.length = n ∧ PySem.W.exmAny K (.ref C) cs = some true ∧ XfK K C "code" ∧ XfK K C "given" ∧ ∃ cd r, fs.lookup ("code" : Str) = some cd ∧ fieldR fs = some r ∧ P' (.tup [cd, r]) S'
def sp_got (P : Program) (w : World) (K : PySem.W.Frag) (mg : Str → Option Value) (base : Heap) (k : Nat) (cs : List Value) : DSp := fun ds S P' _ => match ds with
  | [.fn F nd ws] => ∃ sp, FnIn P w K mg base k F nd ws.length sp ∧ nofns ws = true ∧ S.all nofn = true ∧ sp ws S (fun d S' => S'.length = S.length ∧ P' (.tup [.str "", d]) S') (gotE K cs S.length P')
  | _ => False
theorem cal_got {k : Nat} {cI cM cN : Addr} (hk : 1 ≤ k) (B : Bn mg) (I : DefIn K mg "_law_got" "_law_got" s_law_got) (c_law_field : CalT P w K mg base 1 "_law_field" ["_law_e"] (sp_field K)) (g_InkError : mg "InkError" = some (.ref cI)) (g_Missing : mg "Missing" = some (.ref cM)) (g_NothingLeft : mg "NothingLeft" = some (.ref cN)) :
    Cal P w K mg base (L2.CX P w) (k + 1) "_law_got" ["_law_ask"] (sp_got P w K mg base k [.ref cI, .ref cM, .ref cN]) := by
  refine cal_def I sc_law_got (fun _ _ _ _ _ _ us hl => match us, hl with | [_], _ => rfl) (fun ds S P E h => ?_) (fun f cdv A outer s H E hr => (dss_cons (ds_set (i := 1) sc_law_got.nd rfl (by first | exact .inl rfl | exact .inr rfl) (de_tup (da_cons de_str (da_cons de_non da_nil))))
  (dss_cons (ds_try (i := 2) (takes_of rfl rfl rfl rfl) ⟨rfl, by decide, .inl g_InkError⟩ ⟨rfl, by decide, .inl g_Missing⟩ ⟨rfl, by decide, .inl g_NothingLeft⟩ sc_law_got.nd rfl rfl (fun W pn xe tk po => (dss_one (ds_set (i := 1) sc_law_got.nd rfl (by first | exact .inl rfl | exact .inr rfl) (de_tup (da_cons de_str (da_cons (de_fnCall (i := 0) tk hr rfl (by first | exact .inl rfl | exact .inr (.inl rfl))) da_nil))))))
  (fun a pn => (dss_one (ds_set (i := 1) sc_law_got.nd rfl (by first | exact .inl rfl | exact .inr rfl) (de_tup (da_cons (de_xfld (de_var 2 (pv 2))) (da_cons (de_calT c_law_field (roomM hr) (da_cons (de_var 2 (pv 2)) da_nil)) da_nil)))))))
  (dss_one (ds_ret (de_var 1 (pv 1))))))) (fun ds S P' E hS h => ?_)
  · unfold sp_got at h
    split at h
    · rfl
    · exact h.elim
  · unfold sp_got at h
    split at h
    · rename_i F nd ws
      obtain ⟨sp, h1, h2, h3, h4⟩ := h
      walk_at "dl"
      refine ⟨by decide, upS sp, fnIn_up h1, h2, h3, _, _, h4, fun d S' ⟨hl, hp⟩ => ⟨by decide, rt_same hl hp⟩, fun C fs S' he => ?_⟩
      obtain ⟨hl, hm, x1, x2, cd, r, e1, e2, hp⟩ := he
      refine ⟨true, hm, fun _ => ⟨x1, ?_⟩, fun z => by cases z⟩
      rw [e1]
      exact ⟨x1, x2, r, e2, by decide, rt_same hl hp⟩
    · exact h.elim
def goAll (P : Program) (w : World) (K : PySem.W.Frag) (mg : Str → Option Value) (base : Heap) (k : Nat) (cs : List Value) : List D → List D → Sto → (List D → Sto → Prop) → Prop
  | [], acc, S, P' => P' acc S
  | f :: r, acc, S, P' => sp_got P w K mg base k cs [f] S (fun d S' => S'.length = S.length ∧ goAll P w K mg base k cs r (acc ++ [d]) S' P') EF
def sp_all (P : Program) (w : World) (K : PySem.W.Frag) (mg : Str → Option Value) (base : Heap) (k : Nat) (cs : List Value) : DSp := fun ds S P' _ => match ds with
  | [.lst fs] => fs.length ≤ 1000000 ∧ goAll P w K mg base k cs fs [] S (fun rs S' => P' (.lst rs) S')
  | _ => False
theorem sp_got_mono {k : Nat} {cs : List Value} {f : D} {S : Sto} {Pa Pb : DK} {E : Ex} (h : sp_got P w K mg base k cs [f] S Pa E) (hp : ∀ d S', Pa d S' → Pb d S') {E2 : Ex} : sp_got P w K mg base k cs [f] S Pb E2 := by
  cases f with
  | fn F nd ws =>
    obtain ⟨sp, h1, h2, h3, h4⟩ := h
    exact ⟨upS sp, fnIn_up h1, h2, h3, _, _, h4, fun d S' q => ⟨q.1, hp _ _ q.2⟩, fun C fs S' ⟨a, b, c, d, cd, r, e1, e2, p⟩ => ⟨a, b, c, d, cd, r, e1, e2, hp _ _ p⟩⟩
  | _ => exact h.elim
theorem goAll_lc {k n : Nat} {cs : List Value} {P' : DK} {E : Ex} {r0 : Option D} : ∀ (fs acc : List D) (S : Sto), acc.length + fs.length ≤ 1000000 → S.length = n → goAll P w K mg base k cs fs acc S (fun rs S' => P' (.lst rs) S') →
    ∀ r1 : Option D, lcW (wgName 1) wTYes (wCalT (sp_got P w K mg base k cs) (wCons (wVar 1) wNil)) [r0, r1] (fun ds S2 => (endsOf n P' E).rt (.lst ds) S2) fs acc S
  | [], acc, S, hl, hn, h, r1 => ⟨by simpa using hl, rt_same hn h⟩
  | x :: xs, acc, S, hl, hn, h, r1 => by
    rw [List.length_cons] at hl
    refine ⟨by omega, ?_⟩
    show (if true = true then sp_got P w K mg base k cs [x] S (fun y S2 => lcW (wgName 1) wTYes (wCalT (sp_got P w K mg base k cs) (wCons (wVar 1) wNil)) [r0, r1] (fun ds S2 => (endsOf n P' E).rt (.lst ds) S2) xs (acc ++ [y]) S2) EF else lcW (wgName 1) wTYes (wCalT (sp_got P w K mg base k cs) (wCons (wVar 1) wNil)) [r0, r1] (fun ds S2 => (endsOf n P' E).rt (.lst ds) S2) xs acc S)
    rw [if_pos rfl]
    exact sp_got_mono h fun d S' q => goAll_lc xs (acc ++ [d]) S' (by rw [List.length_append, List.length_singleton]; omega) (q.1.trans hn) q.2 r1
theorem cal_all {k : Nat} {cs : List Value} (B : Bn mg) (I : DefIn K mg "_law_all_got" "_law_all_got" s_law_all_got) (c_law_got : Cal P w K mg base (L2.CX P w) (k + 1) "_law_got" ["_law_ask"] (sp_got P w K mg base k cs)) :
    Cal P w K mg base (L2.CX P w) (k + 2) "_law_all_got" ["_law_asks"] (sp_all P w K mg base k cs) := by
  refine cal_def I sc_law_all_got (fun _ _ _ _ _ _ us hl => match us, hl with | [_], _ => rfl) (fun ds S P E h => ?_) (fun f cdv A outer s H E hr => (dss_one (ds_ret (de_lc (own := [("_law_ask", 1)]) rfl sc_law_all_got.nd (di_list (de_var 0 (pv 0))) (blkOk_by (N := N_law_all_got) (sc := defScope s_law_all_got) (by decide +kernel)) (fun _ _ _ _ _ => (dg_name (pg_name (i := 1) sc_law_all_got.nd rfl (by first | exact .inl rfl | exact .inr rfl)))) (fun _ _ _ _ _ => dts_nil) (fun _ _ _ _ _ => (de_calN c_law_got hr (da_cons (de_var 1 (pv 1)) da_nil))))))) (fun ds S P' E hS h => ?_)
  · unfold sp_all at h
    split at h
    · rfl
    · exact h.elim
  · unfold sp_all at h
    split at h
    · rename_i fs
      obtain ⟨hl, h⟩ := h
      walk_at "dl"
      exact ⟨True.intro, goAll_lc (r0 := some (D.lst fs)) fs [] S (by simpa using hl) rfl h none⟩
    · exact h.elim
end
end LW
set_option maxRecDepth 100000
set_option maxHeartbeats 4000000
namespace LW
open PySem PySem.Spec PyProof.Rows L2 DL
local macro_rules | `(tactic| walk_at "dl") => `(tactic| simp only [↓wC_ap, ↓wNil_ap, ↓wCons_ap, ↓wLst_ap, ↓wTup_ap, ↓wOp_ap, ↓wB_ap, ↓wUn_ap, ↓wCB_ap, ↓wCall_ap, ↓wCallK_ap, ↓wSl_ap, ↓wPart_ap, ↓wNoPart_ap, ↓wAndT_ap, ↓wOrT_ap, ↓wNotT_ap, ↓wAndV_ap, ↓wOrV_ap, ↓wIf_ap, ↓wTru_ap, ↓wLc_ap, ↓wiSeq_ap, ↓wiRng1_ap, ↓wiRng2_ap, ↓wiZip_ap, ↓wLstRg_ap, ↓wTYes_ap, ↓wsNext_ap, ↓wsSeq_ap, ↓wsRet_ap, ↓wsRetN_ap, ↓wsRetF_ap, ↓wsDrop_ap, ↓wsIf_ap, ↓wsAsg_ap, ↓wsSet_ap, ↓wsSetF_ap, ↓wsPar_ap, ↓wsStore_ap, ↓wsFor_ap, ↓wsBreak_ap, ↓wsCont_ap, ↓wgName_ap, ↓wgNil_ap, ↓wgCons_ap, ↓wgTup_ap, ↓wVar_0, ↓wVar_s, ↓addD, ↓subD, ↓mulD, ↓modD, ↓fdivD, ↓powD, ↓negD, ↓notD, ↓eqD, ↓scalD, ↓inD, ↓isD, ↓ixD, ↓cmpD, ↓leD, ↓geD, ↓gtD, ↓ltD, ↓ordD, ↓lenD, ↓absD, ↓DL.intOfD, ↓listD, ↓allD, ↓isiD, ↓sliceD, ↓truD_non, ↓truD_bl, ↓truD_int, ↓truD_str, ↓truD_lst, ↓truD_tup, List.map_cons, List.map_nil, List.length_cons, List.length_nil, List.replicate, List.cons_append, List.nil_append, List.set_cons_zero, List.set_cons_succ, List.append_nil, List.zip_cons_cons, List.zip_nil_right, List.foldl_cons, List.foldl_nil, Nat.zero_add, Nat.add_zero, Nat.reduceAdd, Nat.reduceSub, Nat.reduceMul, if_true, if_false, Bool.false_eq_true, ite_true, ite_false, v_non, v_bl, v_int, v_str, v_ty, v_cst, v_lst, v_tup, v_dk, v_dt, v_ktp, v_obj, v_scr, startD_ap, wD_nil, wD_cons, wVar_0, wVar_s, ↓is_non_int, ↓is_bl_int, ↓is_int_int, ↓is_str_int, ↓is_lst_int, ↓is_tup_int, ↓is_dk_int, ↓is_non_bool, ↓is_bl_bool, ↓is_int_bool, ↓is_str_bool, ↓is_lst_bool, ↓is_tup_bool, ↓is_dk_bool, ↓is_non_str, ↓is_bl_str, ↓is_int_str, ↓is_str_str, ↓is_lst_str, ↓is_tup_str, ↓is_dk_str, ↓is_non_list, ↓is_bl_list, ↓is_int_list, ↓is_str_list, ↓is_lst_list, ↓is_tup_list, ↓is_dk_list, ↓is_non_tuple, ↓is_bl_tuple, ↓is_int_tuple, ↓is_str_tuple, ↓is_lst_tuple, ↓is_tup_tuple, ↓is_dk_tuple, ↓wsNever_ap, ↓wNever_ap, ↓wFr_ap, ↓wFLst_ap, ↓wFList_ap, ↓wFAdd_ap, ↓wBM_ap, ↓wBM0_ap, ↓wDGet_ap, ↓wDGet2_ap, ↓wsDPut_ap, ↓wNewT_ap, ↓wsRetire_ap, ↓wiKeysT_ap, ↓wDcT_ap, ↓wFld_ap, ↓wsFld_ap, ↓wMake_ap, ↓wMeth_ap, ↓wDictPT_ap, ↓wTruOwn_ap, ↓wFmt_ap, ↓wFs_ap, ↓wiEnum_ap, ↓wJs_nil, ↓wJs_cons, ↓wiEnumA_ap, ↓wNotOwn_ap, ↓wMethX0_ap, ↓wMethF0_ap, ↓wsBMX_ap, ↓wLcF_ap, ↓appendD, ↓popD, ↓entT, ↓dflT, ↓inT, ↓getT, ↓isDt, ↓fldD, ↓recvD, ↓isObjD, ↓isEqR, ↓eqOwnD, ↓inOwnD, ↓lenOwnD, ↓reprOwnD, ↓blP, ↓lenP, ↓strP, ↓truP, ↓lenDt, ↓listDt, ↓tupOf, ↓DL.strOf, ↓fmtD, ↓sortedT, ↓eqDt, ↓rcv, ↓empD, ↓boolOwnD, ↓isCD, ↓isCDof, isK_tup, List.lookup_cons, Option.getD_some, Option.getD_none, Option.isSome_some, Option.isSome_none, ↓wXfld_ap, ↓xfD_exn, ↓wCalT_ap, ↓wFnCall_v, ↓fnCallD_fn, ↓wsTry_ap, ↓wsRaise_ap, ↓wLam_ap, ↓wCalA_ap, List.replicate_succ, List.replicate_zero, ↓at1_0, ↓at2_0, ↓at2_1, ↓at3_0, ↓at3_1, ↓at3_2, ↓at4_0, ↓at4_1, ↓at4_2, ↓at4_3, ↓wCallG_ap, ↓wMethG_ap, ↓wMakeG_ap, gdP_ap, pick_nil, pick_p, pick_d, pick_m, pick_w, nth1_0, nth1_s])
local macro_rules | `(tactic| walk_at "sd") => `(tactic| repeat (first | refine ⟨True.intro, ?_⟩ | refine ⟨(by decide), ?_⟩))
local macro_rules | `(tactic| walk_at "len") => `(tactic| first | (rintro _ _ _ _ ⟨e, _⟩; rw [e]; rfl) | (rintro _ _ _ _ ⟨_, e, _⟩; rw [e]; rfl) | (rintro _ _ _ _ ⟨_, _, e, _⟩; rw [e]; rfl) | (rintro _ _ _ _ ⟨_, _, _, e, _⟩; rw [e]; rfl) | (rintro _ _ _ _ ⟨_, _, _, _, e, _⟩; rw [e]; rfl) | (rintro _ _ _ _ ⟨_, _, _, _, _, e, _⟩; rw [e]; rfl) | (rintro _ _ _ _ ⟨_, _, _, _, _, _, e, _⟩; rw [e]; rfl) | (rintro _ _ _ _ ⟨_, _, _, _, _, _, _, e, _⟩; rw [e]; rfl) | (rintro _ _ _ _ ⟨_, _, _, _, _, _, _, _, e, _⟩; rw [e]; rfl))
section
variable {P : Program} {w : World} {K : PySem.W.Frag} {mg : Str → Option Value} {base : Heap}
def isNum : D → Bool
  | .int _ => true
  | _ => false
def sp_is_number : DSp := fun ds S P _ => match ds with
  | [x] => plainD x = true ∧ P (.bl (isNum x)) S
  | _ => False
theorem cal_is_number (B : Bn mg) (I : DefIn K mg "is_number" "is_number" s_is_number) : Cal P w K mg base CX0 1 "is_number" ["value"] sp_is_number := by
  refine cal_def I sc_is_number (fun _ _ _ _ _ _ us hl => match us, hl with | [_], _ => rfl) (fun ds S P E h => ?_) (fun f cdv A outer s H E hr => (dss_one (ds_ret (de_and (de_callB (CallR.or call_isi (CallR.or call_isiT call_isiK)) calld_isi rfl B.isinstance bt_isinstance (da_cons (de_var 0 (pv 0)) (da_cons (de_ty rfl B.int bt_int) da_nil))) (de_one (de_not (de_callB (CallR.or call_isi (CallR.or call_isiT call_isiK)) calld_isi rfl B.isinstance bt_isinstance (da_cons (de_var 0 (pv 0)) (da_cons (de_ty rfl B.bool bt_bool) da_nil))))))))) (fun ds S P E hS h => ?_)
  · unfold sp_is_number at h
    split at h
    · rfl
    · exact h.elim
  · unfold sp_is_number at h
    split at h
    · rename_i x
      walk_at "dl"
      simp only [plain_val h.1, isi_int h.1, isi_bl h.1]
      cases x <;> first | (exfalso; exact Bool.false_ne_true h.1) | exact rt_same rfl h.2
    · exact h.elim
def isPlace : D → Bool
  | .tup l => decide (l.length = 2) && l.all isNum
  | _ => false
/-- plain, and so are a tuple's items -/
def okV : D → Bool
  | .tup ds => ds.all plainD
  | d => plainD d
theorem okV_plain {d : D} (h : okV d = true) : plainD d = true := by
  cases d <;> first | rfl | exact h
def sp_is_place : DSp := fun ds S P _ => match ds with
  | [x] => okV x = true ∧ (∀ l, x = .tup l → l.length ≤ 1000) ∧ P (.bl (isPlace x)) S
  | _ => False
theorem cal_is_place (B : Bn mg) (I : DefIn K mg "is_place" "is_place" s_is_place) (c_is_number : Cal P w K mg base CX0 1 "is_number" ["value"] sp_is_number) : Cal P w K mg base CX0 2 "is_place" ["value"] sp_is_place := by
  refine cal_def I sc_is_place (fun _ _ _ _ _ _ us hl => match us, hl with | [_], _ => rfl) (fun ds S P E h => ?_) (fun f cdv A outer s H E hr => (dss_one (ds_ret (de_and (de_callB (CallR.or call_isi (CallR.or call_isiT call_isiK)) calld_isi rfl B.isinstance bt_isinstance (da_cons (de_var 0 (pv 0)) (da_cons (de_ty rfl B.tuple bt_tuple) da_nil))) (de_and (de_eq hr.units (de_callB call_len calld_len rfl B.len bt_len (da_cons (de_var 0 (pv 0)) da_nil)) de_int) (de_one (de_callB (cr_all rfl) calld_all rfl B.all bt_all (da_cons (de_lc (own := [("one", 1)]) rfl sc_is_place.nd (di_list (de_var 0 (pv 0))) (blkOk_by (N := N_is_place) (sc := defScope s_is_place) (by decide +kernel)) (fun _ _ _ _ _ => (dg_name (pg_name (i := 1) sc_is_place.nd rfl (by first | exact .inl rfl | exact .inr rfl)))) (fun _ _ _ _ _ => dts_nil) (fun _ _ _ _ _ => (de_cal c_is_number hr pass00 (da_cons (de_var 1 (pv 1)) da_nil)))) da_nil)))))))) (fun ds S P E hS h => ?_)
  · unfold sp_is_place at h
    split at h
    · rfl
    · exact h.elim
  · unfold sp_is_place at h
    split at h
    · rename_i x
      obtain ⟨h1, hl, h2⟩ := h
      have hp := okV_plain h1
      walk_at "dl"
      simp only [plain_val hp, isi_tup hp]
      cases x with
      | tup l =>
        have hl' := hl l rfl
        have ha : l.all plainD = true := h1
        simp only [kdTup, if_true, v_tup, scalD]
        by_cases h2l : l.length = 2
        · rw [if_pos (decide_eq_true (by omega))]
          refine ⟨True.intro, lcW_map (fun d => .bl (isNum d)) l [] (fun x hx Q hq => ?_) (by simp; omega) ?_⟩
          · walk_at "dl"
            exact ⟨List.all_eq_true.mp ha x hx, hq⟩
          · simp only [List.nil_append, bls_map, all_map_id]
            refine rt_same rfl ?_
            have e : isPlace (.tup l) = l.all isNum := by simp [isPlace, h2l]
            rw [e] at h2
            exact h2
        · rw [if_neg (by simp; omega)]
          refine rt_same rfl ?_
          have e : isPlace (.tup l) = false := by simp [isPlace, h2l]
          rw [e] at h2
          exact h2
      | non => exact rt_same rfl h2
      | bl _ => exact rt_same rfl h2
      | str _ => exact rt_same rfl h2
      | lst _ => exact rt_same rfl h2
      | int _ => exact rt_same rfl h2
      | _ => first | exact rt_same rfl h2 | exact absurd hp Bool.false_ne_true
    · exact h.elim
def ways : List D := [.str "across", .str "up"]
def isWay : D → Bool
  | .str x => inV (.str x) ((toVs ways).getD [])
  | _ => false
def sp_is_way : DSp := fun ds S P _ => match ds with
  | [x] => plainD x = true ∧ P (.bl (isWay x)) S
  | _ => False
theorem cal_is_way (B : Bn mg) (I : DefIn K mg "is_way" "is_way" s_is_way) (g_WAYS : GTup K mg "WAYS" ways) : Cal P w K mg base CX0 1 "is_way" ["value"] sp_is_way := by
  refine cal_def I sc_is_way (fun _ _ _ _ _ _ us hl => match us, hl with | [_], _ => rfl) (fun ds S P E h => ?_) (fun f cdv A outer s H E hr => (dss_one (ds_ret (de_and (de_callB (CallR.or call_isi (CallR.or call_isiT call_isiK)) calld_isi rfl B.isinstance bt_isinstance (da_cons (de_var 0 (pv 0)) (da_cons (de_ty rfl B.str bt_str) da_nil))) (de_one (de_cmp op_in_seq opd_in (de_var 0 (pv 0)) (de_gtup g_WAYS))))))) (fun ds S P E hS h => ?_)
  · unfold sp_is_way at h
    split at h
    · rfl
    · exact h.elim
  · unfold sp_is_way at h
    split at h
    · rename_i x
      walk_at "dl"
      simp only [plain_val h.1, isi_str h.1]
      cases x <;> first | (exfalso; exact Bool.false_ne_true h.1) | exact rt_same rfl h.2
    · exact h.elim
def isEdge : D → Bool
  | .tup [a, b, c] => isPlace (.tup [a, b]) && isWay c
  | _ => false
def sp_is_edge : DSp := fun ds S P _ => match ds with
  | [x] => okV x = true ∧ (∀ l, x = .tup l → l.length ≤ 1000) ∧ P (.bl (isEdge x)) S
  | _ => False
theorem cal_is_edge (B : Bn mg) (I : DefIn K mg "is_edge" "is_edge" s_is_edge) (c_is_place : Cal P w K mg base CX0 2 "is_place" ["value"] sp_is_place) (c_is_way : Cal P w K mg base CX0 1 "is_way" ["value"] sp_is_way) : Cal P w K mg base CX0 3 "is_edge" ["value"] sp_is_edge := by
  refine cal_def I sc_is_edge (fun _ _ _ _ _ _ us hl => match us, hl with | [_], _ => rfl) (fun ds S P E h => ?_) (fun f cdv A outer s H E hr => (dss_one (ds_ret (de_and (de_callB (CallR.or call_isi (CallR.or call_isiT call_isiK)) calld_isi rfl B.isinstance bt_isinstance (da_cons (de_var 0 (pv 0)) (da_cons (de_ty rfl B.tuple bt_tuple) da_nil))) (de_and (de_eq hr.units (de_callB call_len calld_len rfl B.len bt_len (da_cons (de_var 0 (pv 0)) da_nil)) de_int) (de_and (de_cal c_is_place hr pass00 (da_cons (de_slice (de_var 0 (pv 0)) do_none (do_some de_int)) da_nil)) (de_one (de_cal c_is_way hr pass00 (da_cons (de_ix (de_var 0 (pv 0)) de_int) da_nil))))))))) (fun ds S P E hS h => ?_)
  · unfold sp_is_edge at h
    split at h
    · rfl
    · exact h.elim
  · unfold sp_is_edge at h
    split at h
    · rename_i x
      obtain ⟨h1, hl, h2⟩ := h
      have hp := okV_plain h1
      walk_at "dl"
      simp only [plain_val hp, isi_tup hp]
      cases x with
      | tup l =>
        simp only [kdTup, if_true, v_tup, scalD]
        by_cases h3l : l.length = 3
        · rw [if_pos (decide_eq_true (by omega))]
          match l, h3l, h1, h2 with
          | [a, b, c], _, h1, h2 =>
            have ha : ([a, b, c] : List D).all plainD = true := h1
            simp only [List.all_cons, Bool.and_eq_true, List.all_nil] at ha
            have e : cutD [a, b, c] none (some 2) = [a, b] := rfl
            simp only [v_tup, e, sp_is_place]
            refine ⟨rfl, ?_, fun l hl => ?_, ?_⟩
            · show ([a, b] : List D).all plainD = true
              simp [ha.1, ha.2.1]
            · obtain rfl : [a, b] = l := by injection hl
              simp
            · simp only [at3_2, sp_is_way]
              by_cases hq : isPlace (.tup [a, b]) = true
              · rw [if_pos hq]
                refine ⟨ha.2.2.1, rt_same rfl ?_⟩
                have e2 : isEdge (.tup [a, b, c]) = isWay c := by simp [isEdge, hq]
                rw [e2] at h2
                exact h2
              · rw [if_neg hq]
                refine rt_same rfl ?_
                have e2 : isEdge (.tup [a, b, c]) = false := by simp [isEdge, hq]
                rw [e2] at h2
                exact h2
        · rw [if_neg (by simp; omega)]
          refine rt_same rfl ?_
          have e : isEdge (.tup l) = false := by
            unfold isEdge
            split
            · rename_i h; injection h with h; rw [h] at h3l; exact absurd rfl h3l
            · rfl
          rw [e] at h2
          exact h2
      | non => exact rt_same rfl h2
      | bl _ => exact rt_same rfl h2
      | str _ => exact rt_same rfl h2
      | lst _ => exact rt_same rfl h2
      | int _ => exact rt_same rfl h2
      | _ => first | exact rt_same rfl h2 | exact absurd hp Bool.false_ne_true
    · exact h.elim
/-- need_edge: nothing, or InvalidEdge with the value -/
def sp_need_edge (C : Addr) : DSp := fun ds S P' E => match ds with
  | [x] => okV x = true ∧ (∀ l, x = .tup l → l.length ≤ 1000) ∧ (if isEdge x = true then P' .non S else E C [("code", .str "InvalidEdge"), ("given", x)] S)
  | _ => False
theorem cal_need_edge {C : Addr} (B : Bn mg) (I : DefIn K mg "need_edge" "need_edge" s_need_edge) (c_is_edge : Cal P w K mg base CX0 3 "is_edge" ["value"] sp_is_edge) (ex_InvalidEdge : Exn P w K mg base "InvalidEdge" C 1 [("given", .inl 0), ("code", .inr "InvalidEdge")]) :
    Cal P w K mg base (L2.CX P w) 4 "need_edge" ["value"] (sp_need_edge C) := by
  refine cal_def I sc_need_edge (fun _ _ _ _ _ _ us hl => match us, hl with | [_], _ => rfl) (fun ds S P E h => ?_) (fun f cdv A outer s H E hr => (dss_one (ds_if (dt_not (dt_tru (de_cal c_is_edge hr pass00 (da_cons (de_var 0 (pv 0)) da_nil)))) (dss_one (ds_raise ex_InvalidEdge (hr.mono (by decide)) (takes_of rfl rfl rfl rfl) (da_cons (de_var 0 (pv 0)) da_nil))) dss_nil))) (fun ds S P' E hS h => ?_)
  · unfold sp_need_edge at h
    split at h
    · rfl
    · exact h.elim
  · unfold sp_need_edge at h
    split at h
    · rename_i x
      obtain ⟨h1, h2, h3⟩ := h
      walk_at "dl"
      refine ⟨h1, h2, ?_⟩
      cases e : isEdge x with
      | true =>
        rw [e] at h3
        simp only [if_true] at h3
        walk_at "dl"
        rw [if_neg (by decide)]
        exact .inl ⟨rfl, h3⟩
      | false =>
        rw [e] at h3
        simp only [if_false, Bool.false_eq_true] at h3
        walk_at "dl"
        rw [if_pos (by decide)]
        exact ⟨True.intro, .inl ⟨rfl, h3⟩⟩
    · exact h.elim
def flipE : D → D
  | .tup [.int a, .int b, .str u] => if u = ("across" : Str) then .tup [.int a, .int (0 - b), .str u] else .tup [.int a, .int (0 - b - 1), .str u]
  | d => d
theorem isEdge_shape {x : D} (h : isEdge x = true) : ∃ a b u, x = .tup [.int a, .int b, .str u] ∧ (u = ("across" : Str) ∨ u = ("up" : Str)) := by
  unfold isEdge at h
  split at h
  · rename_i a b c
    obtain ⟨h1, h2⟩ := Bool.and_eq_true_iff.mp h
    cases a <;> cases b <;> first | cases h1 | skip
    cases c <;> first | cases h2 | skip
    rename_i a b u
    refine ⟨a, b, u, rfl, ?_⟩
    have h3 : inV (.str u) [V.str "across", V.str "up"] = true := h2
    unfold inV at h3
    simp only [List.any_cons, List.any_nil, Bool.or_false, Bool.or_eq_true] at h3
    exact h3.imp (fun q => (of_decide_eq_true (show decide (("across" : Str) = u) = true from q)).symm) fun q => (of_decide_eq_true (show decide (("up" : Str) = u) = true from q)).symm
  · cases h
def sp_mirrored_edge (C : Addr) : DSp := fun ds S P' E => match ds with
  | [x] => okV x = true ∧ (∀ l, x = .tup l → l.length ≤ 1000) ∧ (if isEdge x = true then P' (flipE x) S else E C [("code", .str "InvalidEdge"), ("given", x)] S)
  | _ => False
theorem cal_mirrored_edge {C : Addr} (B : Bn mg) (I : DefIn K mg "mirrored_edge" "mirrored_edge" s_mirrored_edge) (c_need_edge : Cal P w K mg base (L2.CX P w) 4 "need_edge" ["value"] (sp_need_edge C)) :
    Cal P w K mg base (L2.CX P w) 5 "mirrored_edge" ["edge"] (sp_mirrored_edge C) := by
  refine cal_def I sc_mirrored_edge (fun _ _ _ _ _ _ us hl => match us, hl with | [_], _ => rfl) (fun ds S P E h => ?_) (fun f cdv A outer s H E hr => (dss_cons (ds_expr (de_cal c_need_edge hr (passW (takes_of rfl rfl rfl rfl)) (da_cons (de_var 0 (pv 0)) da_nil)))
  (dss_cons (ds_asg (de_var 0 (pv 0)) (dg_tup (n := 3) rfl (dgs_cons (dg_name (pg_name (i := 1) sc_mirrored_edge.nd rfl (by first | exact .inl rfl | exact .inr rfl))) (dgs_cons (dg_name (pg_name (i := 2) sc_mirrored_edge.nd rfl (by first | exact .inl rfl | exact .inr rfl))) (dgs_cons (dg_name (pg_name (i := 3) sc_mirrored_edge.nd rfl (by first | exact .inl rfl | exact .inr rfl))) dgs_nil)))))
  (dss_one (ds_ret (de_if (dt_eq hr.units (de_var 3 (pv 3)) de_str) (de_tup (da_cons (de_var 1 (pv 1)) (da_cons (de_op op_sub opd_sub de_int (de_var 2 (pv 2))) (da_cons (de_var 3 (pv 3)) da_nil)))) (de_tup (da_cons (de_var 1 (pv 1)) (da_cons (de_op op_sub opd_sub (de_op op_sub opd_sub de_int (de_var 2 (pv 2))) de_int) (da_cons (de_var 3 (pv 3)) da_nil)))))))))) (fun ds S P' E hS h => ?_)
  · unfold sp_mirrored_edge at h
    split at h
    · rfl
    · exact h.elim
  · unfold sp_mirrored_edge at h
    split at h
    · rename_i x
      obtain ⟨h1, h2, h3⟩ := h
      walk_at "dl"
      refine ⟨h1, h2, ?_⟩
      by_cases e : isEdge x = true
      · rw [if_pos e] at h3 ⊢
        obtain ⟨a, b, u, rfl, hu⟩ := isEdge_shape e
        walk_at "dl"
        refine ⟨True.intro, True.intro, ?_⟩
        have hf : flipE (.tup [.int a, .int b, .str u]) = if u = ("across" : Str) then .tup [.int a, .int (0 - b), .str u] else .tup [.int a, .int (0 - b - 1), .str u] := rfl
        rw [hf] at h3
        by_cases hu2 : u = ("across" : Str)
        · rw [if_pos hu2] at h3
          rw [if_pos (decide_eq_true hu2)]
          exact ⟨by decide, rt_same rfl h3⟩
        · rw [if_neg hu2] at h3
          rw [if_neg (by simpa using hu2)]
          exact ⟨by decide, rt_same rfl h3⟩
      · rw [if_neg e] at h3 ⊢
        exact .inl ⟨rfl, h3⟩
    · exact h.elim
def sp_turned_place : DSp := fun ds S P' _ => match ds with
  | [.tup [.int a, .int b], .int q] => P' (.tup (if q % 4 = 0 then [.int a, .int b] else if q % 4 = 1 then [.int (0 - b), .int a] else if q % 4 = 2 then [.int (0 - a), .int (0 - b)] else [.int b, .int (0 - a)])) S
  | _ => False
theorem cal_turned_place (B : Bn mg) (I : DefIn K mg "turned_place" "turned_place" s_turned_place) : Cal P w K mg base CX0 1 "turned_place" ["place", "quarters"] sp_turned_place := by
  refine cal_def I sc_turned_place (fun _ _ _ _ _ _ us hl => match us, hl with | [_, _], _ => rfl) (fun ds S P E h => ?_) (fun f cdv A outer s H E hr => (dss_cons (ds_asg (de_var 0 (pv 0)) (dg_tup (n := 2) rfl (dgs_cons (dg_name (pg_name (i := 2) sc_turned_place.nd rfl (by first | exact .inl rfl | exact .inr rfl))) (dgs_cons (dg_name (pg_name (i := 3) sc_turned_place.nd rfl (by first | exact .inl rfl | exact .inr rfl))) dgs_nil))))
  (dss_cons (ds_set (i := 4) sc_turned_place.nd rfl (by first | exact .inl rfl | exact .inr rfl) (de_op op_mod opd_mod (de_var 1 (pv 1)) de_int))
  (dss_cons (ds_if (dt_eq hr.units (de_var 4 (pv 4)) de_int) (dss_one (ds_ret (de_tup (da_cons (de_var 2 (pv 2)) (da_cons (de_var 3 (pv 3)) da_nil))))) dss_nil)
  (dss_cons (ds_if (dt_eq hr.units (de_var 4 (pv 4)) de_int) (dss_one (ds_ret (de_tup (da_cons (de_op op_sub opd_sub de_int (de_var 3 (pv 3))) (da_cons (de_var 2 (pv 2)) da_nil))))) dss_nil)
  (dss_one (ds_ret (de_if (dt_eq hr.units (de_var 4 (pv 4)) de_int) (de_tup (da_cons (de_op op_sub opd_sub de_int (de_var 2 (pv 2))) (da_cons (de_op op_sub opd_sub de_int (de_var 3 (pv 3))) da_nil))) (de_tup (da_cons (de_var 3 (pv 3)) (da_cons (de_op op_sub opd_sub de_int (de_var 2 (pv 2))) da_nil))))))))))) (fun ds S P' E hS h => ?_)
  · unfold sp_turned_place at h
    split at h
    · rfl
    · exact h.elim
  · unfold sp_turned_place at h
    split at h
    · rename_i a b q
      walk_at "dl"
      refine ⟨True.intro, True.intro, by decide, ?_⟩
      simp only [decide_eq_true_eq]
      by_cases h0 : q % 4 = 0
      · rw [if_pos h0] at h ⊢
        exact ⟨by decide, rt_same rfl h⟩
      · rw [if_neg h0] at h ⊢
        by_cases h1 : q % 4 = 1
        · rw [if_pos h1] at h ⊢
          exact ⟨by decide, rt_same rfl h⟩
        · rw [if_neg h1] at h ⊢
          by_cases h2 : q % 4 = 2
          · rw [if_pos h2] at h ⊢
            exact ⟨by decide, rt_same rfl h⟩
          · rw [if_neg h2] at h ⊢
            exact ⟨by decide, rt_same rfl h⟩
    · exact h.elim
end
end LW
set_option maxRecDepth 100000
set_option maxHeartbeats 4000000
namespace LW
open PySem PySem.Spec PyProof.Rows L2 DL
local macro_rules | `(tactic| walk_at "dl") => `(tactic| simp only [↓wC_ap, ↓wNil_ap, ↓wCons_ap, ↓wLst_ap, ↓wTup_ap, ↓wOp_ap, ↓wB_ap, ↓wUn_ap, ↓wCB_ap, ↓wCall_ap, ↓wCallK_ap, ↓wSl_ap, ↓wPart_ap, ↓wNoPart_ap, ↓wAndT_ap, ↓wOrT_ap, ↓wNotT_ap, ↓wAndV_ap, ↓wOrV_ap, ↓wIf_ap, ↓wTru_ap, ↓wLc_ap, ↓wiSeq_ap, ↓wiRng1_ap, ↓wiRng2_ap, ↓wiZip_ap, ↓wLstRg_ap, ↓wTYes_ap, ↓wsNext_ap, ↓wsSeq_ap, ↓wsRet_ap, ↓wsRetN_ap, ↓wsRetF_ap, ↓wsDrop_ap, ↓wsIf_ap, ↓wsAsg_ap, ↓wsSet_ap, ↓wsSetF_ap, ↓wsPar_ap, ↓wsStore_ap, ↓wsFor_ap, ↓wsBreak_ap, ↓wsCont_ap, ↓wgName_ap, ↓wgNil_ap, ↓wgCons_ap, ↓wgTup_ap, ↓wVar_0, ↓wVar_s, ↓addD, ↓subD, ↓mulD, ↓modD, ↓fdivD, ↓powD, ↓negD, ↓notD, ↓eqD, ↓scalD, ↓inD, ↓isD, ↓ixD, ↓cmpD, ↓leD, ↓geD, ↓gtD, ↓ltD, ↓ordD, ↓lenD, ↓absD, ↓DL.intOfD, ↓listD, ↓allD, ↓isiD, ↓sliceD, ↓truD_non, ↓truD_bl, ↓truD_int, ↓truD_str, ↓truD_lst, ↓truD_tup, List.map_cons, List.map_nil, List.length_cons, List.length_nil, List.replicate, List.cons_append, List.nil_append, List.set_cons_zero, List.set_cons_succ, List.append_nil, List.zip_cons_cons, List.zip_nil_right, List.foldl_cons, List.foldl_nil, Nat.zero_add, Nat.add_zero, Nat.reduceAdd, Nat.reduceSub, Nat.reduceMul, if_true, if_false, Bool.false_eq_true, ite_true, ite_false, v_non, v_bl, v_int, v_str, v_ty, v_cst, v_lst, v_tup, v_dk, v_dt, v_ktp, v_obj, v_scr, startD_ap, wD_nil, wD_cons, wVar_0, wVar_s, ↓is_non_int, ↓is_bl_int, ↓is_int_int, ↓is_str_int, ↓is_lst_int, ↓is_tup_int, ↓is_dk_int, ↓is_non_bool, ↓is_bl_bool, ↓is_int_bool, ↓is_str_bool, ↓is_lst_bool, ↓is_tup_bool, ↓is_dk_bool, ↓is_non_str, ↓is_bl_str, ↓is_int_str, ↓is_str_str, ↓is_lst_str, ↓is_tup_str, ↓is_dk_str, ↓is_non_list, ↓is_bl_list, ↓is_int_list, ↓is_str_list, ↓is_lst_list, ↓is_tup_list, ↓is_dk_list, ↓is_non_tuple, ↓is_bl_tuple, ↓is_int_tuple, ↓is_str_tuple, ↓is_lst_tuple, ↓is_tup_tuple, ↓is_dk_tuple, ↓wsNever_ap, ↓wNever_ap, ↓wFr_ap, ↓wFLst_ap, ↓wFList_ap, ↓wFAdd_ap, ↓wBM_ap, ↓wBM0_ap, ↓wDGet_ap, ↓wDGet2_ap, ↓wsDPut_ap, ↓wNewT_ap, ↓wsRetire_ap, ↓wiKeysT_ap, ↓wDcT_ap, ↓wFld_ap, ↓wsFld_ap, ↓wMake_ap, ↓wMeth_ap, ↓wDictPT_ap, ↓wTruOwn_ap, ↓wFmt_ap, ↓wFs_ap, ↓wiEnum_ap, ↓wJs_nil, ↓wJs_cons, ↓wiEnumA_ap, ↓wNotOwn_ap, ↓wMethX0_ap, ↓wMethF0_ap, ↓wsBMX_ap, ↓wLcF_ap, ↓appendD, ↓popD, ↓entT, ↓dflT, ↓inT, ↓getT, ↓isDt, ↓fldD, ↓recvD, ↓isObjD, ↓isEqR, ↓eqOwnD, ↓inOwnD, ↓lenOwnD, ↓reprOwnD, ↓blP, ↓lenP, ↓strP, ↓truP, ↓lenDt, ↓listDt, ↓tupOf, ↓DL.strOf, ↓fmtD, ↓sortedT, ↓eqDt, ↓rcv, ↓empD, ↓boolOwnD, ↓isCD, ↓isCDof, isK_tup, List.lookup_cons, Option.getD_some, Option.getD_none, Option.isSome_some, Option.isSome_none, ↓wXfld_ap, ↓xfD_exn, ↓wCalT_ap, ↓wFnCall_v, ↓fnCallD_fn, ↓wsTry_ap, ↓wsRaise_ap, ↓wLam_ap, ↓wCalA_ap, List.replicate_succ, List.replicate_zero, ↓at1_0, ↓at2_0, ↓at2_1, ↓at3_0, ↓at3_1, ↓at3_2, ↓at4_0, ↓at4_1, ↓at4_2, ↓at4_3, ↓wCallG_ap, ↓wMethG_ap, ↓wMakeG_ap, gdP_ap, pick_nil, pick_p, pick_d, pick_m, pick_w, nth1_0, nth1_s])
local macro_rules | `(tactic| walk_at "sd") => `(tactic| repeat (first | refine ⟨True.intro, ?_⟩ | refine ⟨(by decide), ?_⟩))
local macro_rules | `(tactic| walk_at "len") => `(tactic| first | (rintro _ _ _ _ ⟨e, _⟩; rw [e]; rfl) | (rintro _ _ _ _ ⟨_, e, _⟩; rw [e]; rfl) | (rintro _ _ _ _ ⟨_, _, e, _⟩; rw [e]; rfl) | (rintro _ _ _ _ ⟨_, _, _, e, _⟩; rw [e]; rfl) | (rintro _ _ _ _ ⟨_, _, _, _, e, _⟩; rw [e]; rfl) | (rintro _ _ _ _ ⟨_, _, _, _, _, e, _⟩; rw [e]; rfl) | (rintro _ _ _ _ ⟨_, _, _, _, _, _, e, _⟩; rw [e]; rfl) | (rintro _ _ _ _ ⟨_, _, _, _, _, _, _, e, _⟩; rw [e]; rfl) | (rintro _ _ _ _ ⟨_, _, _, _, _, _, _, _, e, _⟩; rw [e]; rfl))
section
variable {P : Program} {w : World} {K : PySem.W.Frag} {mg : Str → Option Value} {base : Heap}
/-! plain: edges turned -/
def wayS (w : Bool) : Str := if w then "across" else "up"
def edD (e : Pl × Bool) : D := .tup [.int e.1.1, .int e.1.2, .str (wayS e.2)]
def rotK (k : Int) (p : Pl) : Pl := if k = 0 then p else if k = 1 then (0 - p.2, p.1) else if k = 2 then (0 - p.1, 0 - p.2) else (p.2, 0 - p.1)
def farP (e : Pl × Bool) : Pl := if e.2 then (e.1.1 + 1, e.1.2) else (e.1.1, e.1.2 + 1)
def turnE (q : Int) (e : Pl × Bool) : Pl × Bool := (minP (rotK (q % 4) e.1) (rotK (q % 4) (farP e)), decide ((rotK (q % 4) e.1).2 = (rotK (q % 4) (farP e)).2))
def flipX (e : Pl × Bool) : Pl × Bool := if e.2 then ((e.1.1, 0 - e.1.2), true) else ((e.1.1, 0 - e.1.2 - 1), false)
def turnX (k : Int) (e : Pl × Bool) : Pl × Bool := match e with
  | ((x, y), true) => if k = 0 then ((x, y), true) else if k = 1 then ((-y, x), false) else if k = 2 then ((-x - 1, -y), true) else ((y, -x - 1), false)
  | ((x, y), false) => if k = 0 then ((x, y), false) else if k = 1 then ((-y - 1, x), true) else if k = 2 then ((-x, -y - 1), false) else ((y, -x), true)
theorem min_if (p q : Pl) : minP p q = if q.1 < p.1 ∨ (q.1 = p.1 ∧ q.2 < p.2) then q else p := by
  unfold minP ltP; simp only [decide_eq_true_eq]
theorem turnE_eq (q : Int) (e : Pl × Bool) : turnE q e = turnX (q % 4) e := by
  obtain ⟨⟨x, y⟩, w⟩ := e
  have hk : q % 4 = 0 ∨ q % 4 = 1 ∨ q % 4 = 2 ∨ q % 4 = 3 := by omega
  unfold turnE turnX rotK farP
  rw [min_if]
  rcases hk with h | h | h | h <;> rw [h] <;> cases w
  all_goals
    simp only [Int.reduceEq, if_true, if_false, Bool.false_eq_true, Prod.mk.injEq]
    constructor
    · split <;> first | rfl | (exfalso; omega) | (refine Prod.ext ?_ ?_ <;> simp only <;> first | rfl | omega | (simp; done) | (exfalso; rename_i hh; simp only [true_and] at hh; omega))
    · first | rfl | exact decide_eq_true (by omega) | exact decide_eq_false (by omega) | (simp; done) | (simp; omega)
theorem turnX_len (k : Int) (h : k = 0 ∨ k = 1 ∨ k = 2 ∨ k = 3) (e : Pl × Bool) : turnX ((0 - k) % 4) (turnX k e) = e := by
  obtain ⟨⟨x, y⟩, w⟩ := e
  rcases h with rfl | rfl | rfl | rfl <;> cases w <;> simp [turnX] <;> omega
theorem turn_back (q : Int) (e : Pl × Bool) : turnE (0 - q) (turnE q e) = e := by
  rw [turnE_eq, turnE_eq]
  have : (0 - q) % 4 = (0 - q % 4) % 4 := by omega
  rw [this]
  exact turnX_len _ (by omega) e
theorem flipX2 (e : Pl × Bool) : flipX (flipX e) = e := by
  obtain ⟨⟨x, y⟩, w⟩ := e
  cases w <;> simp [flipX] <;> omega
theorem turn_4 (e : Pl × Bool) : turnE 4 e = e := by
  rw [turnE_eq]
  obtain ⟨⟨x, y⟩, w⟩ := e
  cases w <;> rfl
theorem turn_flip (q : Int) (e : Pl × Bool) : turnE q (flipX e) = flipX (turnE (0 - q) e) := by
  rw [turnE_eq, turnE_eq]
  have h1 : (0 - q) % 4 = (0 - q % 4) % 4 := by omega
  rw [h1]
  generalize hk : q % 4 = k
  have h : k = 0 ∨ k = 1 ∨ k = 2 ∨ k = 3 := by omega
  obtain ⟨⟨x, y⟩, w⟩ := e
  rcases h with rfl | rfl | rfl | rfl <;> cases w <;> simp [turnX, flipX] <;> omega
/-! the walk -/
theorem edD_isEdge (e : Pl × Bool) : isEdge (edD e) = true := by
  obtain ⟨⟨x, y⟩, w⟩ := e
  cases w <;> rfl
theorem okV_edD (e : Pl × Bool) : okV (edD e) = true := by
  obtain ⟨⟨x, y⟩, w⟩ := e
  cases w <;> rfl
theorem len_edD (e : Pl × Bool) (l : List D) (h : edD e = .tup l) : l.length ≤ 1000 := by
  unfold edD at h
  injection h with h
  rw [← h]
  simp
theorem edge_ed {x : D} (h : isEdge x = true) : ∃ e, x = edD e := by
  obtain ⟨a, b, u, rfl, hu⟩ := isEdge_shape h
  rcases hu with rfl | rfl
  · exact ⟨((a, b), true), rfl⟩
  · exact ⟨((a, b), false), rfl⟩
theorem flipE_ed (e : Pl × Bool) : flipE (edD e) = edD (flipX e) := by
  obtain ⟨⟨x, y⟩, w⟩ := e
  cases w <;> rfl
theorem tup_rot (q a b : Int) : D.tup (if q % 4 = 0 then [.int a, .int b] else if q % 4 = 1 then [.int (0 - b), .int a] else if q % 4 = 2 then [.int (0 - a), .int (0 - b)] else [.int b, .int (0 - a)]) = plD (rotK (q % 4) (a, b)) := by
  unfold rotK
  split
  · rfl
  split
  · rfl
  split <;> rfl
theorem sp_tp {p : Pl} {q : Int} {S : Sto} {P : DK} {E : Ex} (h : P (plD (rotK (q % 4) p)) S) : sp_turned_place [plD p, .int q] S P E := by
  obtain ⟨a, b⟩ := p
  show P (.tup _) S
  rw [tup_rot]
  exact h
theorem str_way (b : Bool) : (if b = true then D.str "across" else D.str "up") = .str (wayS b) := by cases b <;> rfl
def sp_turned_edge (C : Addr) : DSp := fun ds S P' E => ∃ x q, ds = [x, .int q] ∧ okV x = true ∧ (∀ l, x = .tup l → l.length ≤ 1000) ∧ ((∃ e, x = edD e ∧ P' (edD (turnE q e)) S) ∨ (isEdge x = false ∧ E C [("code", .str "InvalidEdge"), ("given", x)] S))
theorem cal_turned_edge {C : Addr} (B : Bn mg) (I : DefIn K mg "turned_edge" "turned_edge" s_turned_edge) (c_need_edge : Cal P w K mg base (L2.CX P w) 4 "need_edge" ["value"] (sp_need_edge C)) (c_turned_place : Cal P w K mg base CX0 1 "turned_place" ["place", "quarters"] sp_turned_place) :
    Cal P w K mg base (L2.CX P w) 5 "turned_edge" ["edge", "quarters"] (sp_turned_edge C) := by
  obtain ⟨sp_p, c_turned_place, h_p⟩ := hide c_turned_place
  refine cal_def I sc_turned_edge (fun _ _ _ _ _ _ us hl => match us, hl with | [_, _], _ => rfl) (fun _ _ _ _ ⟨_, _, e, _⟩ => e ▸ rfl) (fun f cdv A outer s H E hr => (dss_cons (ds_expr (de_cal c_need_edge hr (passW (takes_of rfl rfl rfl rfl)) (da_cons (de_var 0 (pv 0)) da_nil)))
  (dss_cons (ds_asg (de_var 0 (pv 0)) (dg_tup (n := 3) rfl (dgs_cons (dg_name (pg_name (i := 2) sc_turned_edge.nd rfl (by first | exact .inl rfl | exact .inr rfl))) (dgs_cons (dg_name (pg_name (i := 3) sc_turned_edge.nd rfl (by first | exact .inl rfl | exact .inr rfl))) (dgs_cons (dg_name (pg_name (i := 4) sc_turned_edge.nd rfl (by first | exact .inl rfl | exact .inr rfl))) dgs_nil)))))
  (dss_cons (ds_set (i := 5) sc_turned_edge.nd rfl (by first | exact .inl rfl | exact .inr rfl) (de_if (dt_eq hr.units (de_var 4 (pv 4)) de_str) (de_tup (da_cons (de_op op_addA opd_add (de_var 2 (pv 2)) de_int) (da_cons (de_var 3 (pv 3)) da_nil))) (de_tup (da_cons (de_var 2 (pv 2)) (da_cons (de_op op_addA opd_add (de_var 3 (pv 3)) de_int) da_nil)))))
  (dss_cons (ds_par (i := 6) (j := 7) rfl sc_turned_edge.nd rfl rfl (by decide) rfl rfl (da_cons (de_cal c_turned_place hr pass00 (da_cons (de_tup (da_cons (de_var 2 (pv 2)) (da_cons (de_var 3 (pv 3)) da_nil))) (da_cons (de_var 1 (pv 1)) da_nil))) (da_cons (de_cal c_turned_place hr pass00 (da_cons (de_var 5 (pv 5)) (da_cons (de_var 1 (pv 1)) da_nil))) da_nil)))
  (dss_cons (ds_set (i := 8) sc_turned_edge.nd rfl (by first | exact .inl rfl | exact .inr rfl) (de_callB (cr_min2D rfl hr.units) calld_best2 rfl B.min bt_min (da_cons (de_var 6 (pv 6)) (da_cons (de_var 7 (pv 7)) da_nil))))
  (dss_one (ds_ret (de_tup (da_cons (de_ix (de_var 8 (pv 8)) de_int) (da_cons (de_ix (de_var 8 (pv 8)) de_int) (da_cons (de_if (dt_eq hr.units (de_ix (de_var 6 (pv 6)) de_int) (de_ix (de_var 7 (pv 7)) de_int)) de_str de_str) da_nil)))))))))))) (fun ds S P' E hS h => ?_)
  obtain ⟨x, q, rfl, h1, h2, h3⟩ := h
  rw [startD_ap]
  refine ws_step fun nx hn => ?_
  walk_at "dl"
  refine ⟨h1, h2, ?_⟩
  rcases h3 with ⟨e, rfl, h3⟩ | ⟨h3, h4⟩
  · rw [if_pos (edD_isEdge e)]
    refine hn _ _ ?_
    obtain ⟨⟨a, b⟩, u⟩ := e
    unfold edD
    refine ws_step fun nx hn => ?_
    walk_at "dl"
    walk_at "sd"
    refine hn _ _ ?_
    refine ws_join (fun ρ' S' => S = S' ∧ ρ' = [some (edD ((a, b), u)), some (.int q), some (.int a), some (.int b), some (.str (wayS u)), some (plD (farP ((a, b), u))), none, none, none]) (fun nx hn => ?_) ?_
    · walk_at "dl"
      cases u
      · rw [if_neg (by decide)]
        walk_at "sd"
        exact hn _ _ ⟨rfl, rfl⟩
      · rw [if_pos (by decide)]
        walk_at "sd"
        exact hn _ _ ⟨rfl, rfl⟩
    rintro _ _ ⟨rfl, rfl⟩
    refine ws_step fun nx hn => ?_
    walk_at "dl"
    walk_at "sd"
    refine h_p _ _ _ _ (sp_tp (p := (a, b)) ?_)
    refine h_p _ _ _ _ (sp_tp ?_)
    walk_at "sd"
    refine hn _ _ ?_
    refine ws_step fun nx hn => ?_
    walk_at "dl"
    refine best2_pl ?_
    refine hn _ _ ?_
    have hres : P' (edD (minP (rotK (q % 4) (a, b)) (rotK (q % 4) (farP ((a, b), u))), decide ((rotK (q % 4) (a, b)).2 = (rotK (q % 4) (farP ((a, b), u))).2))) _ := h3
    revert hres
    generalize minP (rotK (q % 4) (a, b)) (rotK (q % 4) (farP ((a, b), u))) = low
    generalize rotK (q % 4) (a, b) = o1
    generalize rotK (q % 4) (farP ((a, b), u)) = o2
    intro hres
    obtain ⟨l1, l2⟩ := low
    obtain ⟨o11, o12⟩ := o1
    obtain ⟨o21, o22⟩ := o2
    unfold plD
    walk_at "dl"
    dsimp only at hres
    by_cases hq : o12 = o22
    · rw [decide_eq_true hq] at hres ⊢
      rw [if_pos rfl]
      exact ⟨by decide, rt_same rfl hres⟩
    · rw [decide_eq_false hq] at hres ⊢
      rw [if_neg (by decide)]
      exact ⟨by decide, rt_same rfl hres⟩
  · rw [if_neg (by rw [h3]; decide)]
    exact .inl ⟨rfl, h4⟩
/-! the law's own -/
def rotN : Nat → Pl → Pl
  | 0, p => p
  | n + 1, p => (0 - (rotN n p).2, (rotN n p).1)
theorem rotN_K (q : Int) (p : Pl) : rotN (q % 4).toNat p = rotK (q % 4) p := by
  have hk : q % 4 = 0 ∨ q % 4 = 1 ∨ q % 4 = 2 ∨ q % 4 = 3 := by omega
  obtain ⟨x, y⟩ := p
  rcases hk with h | h | h | h <;> rw [h] <;> simp [rotN, rotK]
def sp_law_turned : DSp := fun ds S P' _ => ∃ e q, ds = [edD e, .int q] ∧ P' (edD (turnE q e)) S
theorem cal_law_turned (B : Bn mg) (I : DefIn K mg "_law_turned" "_law_turned" s_law_turned) : Cal P w K mg base CX0 1 "_law_turned" ["_law_edge_z", "_law_quarters_z"] sp_law_turned := by
  refine cal_def I sc_law_turned (fun _ _ _ _ _ _ us hl => match us, hl with | [_, _], _ => rfl) (fun _ _ _ _ ⟨_, _, e, _⟩ => e ▸ rfl) (fun f cdv A outer s H E hr => (dss_cons (ds_asg (de_var 0 (pv 0)) (dg_tup (n := 3) rfl (dgs_cons (dg_name (pg_name (i := 2) sc_law_turned.nd rfl (by first | exact .inl rfl | exact .inr rfl))) (dgs_cons (dg_name (pg_name (i := 3) sc_law_turned.nd rfl (by first | exact .inl rfl | exact .inr rfl))) (dgs_cons (dg_name (pg_name (i := 4) sc_law_turned.nd rfl (by first | exact .inl rfl | exact .inr rfl))) dgs_nil)))))
  (dss_cons (ds_set (i := 5) sc_law_turned.nd rfl (by first | exact .inl rfl | exact .inr rfl) (de_lst (da_cons (de_tup (da_cons (de_var 2 (pv 2)) (da_cons (de_var 3 (pv 3)) da_nil))) (da_cons (de_if (dt_eq hr.units (de_var 4 (pv 4)) de_str) (de_tup (da_cons (de_op op_addA opd_add (de_var 2 (pv 2)) de_int) (da_cons (de_var 3 (pv 3)) da_nil))) (de_tup (da_cons (de_var 2 (pv 2)) (da_cons (de_op op_addA opd_add (de_var 3 (pv 3)) de_int) da_nil)))) da_nil))))
  (dss_cons (ds_for (passes_of rfl) rfl (di_range1 rfl B.range (da_cons (de_op op_mod opd_mod (de_callTy call_int1 calld_int rfl B.int bt_int (da_cons (de_var 1 (pv 1)) da_nil)) de_int) da_nil)) (dg_name (pg_name (i := 6) sc_law_turned.nd rfl (by first | exact .inl rfl | exact .inr rfl)))
  (dss_one (ds_setLc (i := 5) (own := [("_law_a", 7), ("_law_b", 8)]) rfl sc_law_turned.nd rfl rfl (sw_true rfl rfl rfl (by decide +kernel)) (di_list (de_var 5 (pv 5))) (blkOk_by (N := N_law_turned) (sc := defScope s_law_turned) (by decide +kernel)) (fun _ _ _ _ _ => (dg_tup (n := 2) rfl (dgs_cons (dg_name (pg_name (i := 7) sc_law_turned.nd rfl (by first | exact .inl rfl | exact .inr rfl))) (dgs_cons (dg_name (pg_name (i := 8) sc_law_turned.nd rfl (by first | exact .inl rfl | exact .inr rfl))) dgs_nil)))) (fun _ _ _ _ _ => dts_nil) (fun _ _ _ _ _ => (de_tup (da_cons (de_op op_sub opd_sub de_int (de_var 8 (pv 8))) (da_cons (de_var 7 (pv 7)) da_nil)))))))
  (dss_cons (ds_set (i := 9) sc_law_turned.nd rfl (by first | exact .inl rfl | exact .inr rfl) (de_callB (cr_minL rfl hr.units) calld_bestL rfl B.min bt_min (da_cons (de_var 5 (pv 5)) da_nil)))
  (dss_one (ds_ret (de_tup (da_cons (de_ix (de_var 9 (pv 9)) de_int) (da_cons (de_ix (de_var 9 (pv 9)) de_int) (da_cons (de_if (dt_eq hr.units (de_ix (de_ix (de_var 5 (pv 5)) de_int) de_int) (de_ix (de_ix (de_var 5 (pv 5)) de_int) de_int)) de_str de_str) da_nil))))))))))) (fun ds S P' E hS h => ?_)
  obtain ⟨⟨⟨a, b⟩, u⟩, q, rfl, h3⟩ := h
  rw [startD_ap]
  unfold edD
  refine ws_step fun nx hn => ?_
  walk_at "dl"
  walk_at "sd"
  refine hn _ _ ?_
  refine ws_join (fun ρ' S' => S = S' ∧ ρ' = [some (edD ((a, b), u)), some (.int q), some (.int a), some (.int b), some (.str (wayS u)), some (.lst [plD (a, b), plD (farP ((a, b), u))]), none, none, none, none]) (fun nx hn => ?_) ?_
  · walk_at "dl"
    walk_at "sd"
    cases u
    · rw [if_neg (by decide)]
      walk_at "sd"
      exact hn _ _ ⟨rfl, rfl⟩
    · rw [if_pos (by decide)]
      walk_at "sd"
      exact hn _ _ ⟨rfl, rfl⟩
  rintro _ _ ⟨rfl, rfl⟩
  refine ws_join (fun ρ' S' => S = S' ∧ ∃ o6 o7 o8, ρ' = [some (edD ((a, b), u)), some (.int q), some (.int a), some (.int b), some (.str (wayS u)), some (.lst [plD (rotN (q % 4).toNat (a, b)), plD (rotN (q % 4).toNat (farP ((a, b), u)))]), o6, o7, o8, none]) (fun nx hn => ?_) ?_
  · walk_at "dl"
    refine ⟨by decide, ⟨by omega, by omega⟩, for_inv (fun xs ρ S1 => S = S1 ∧ ∃ o6 o7 o8, xs.length ≤ (q % 4).toNat ∧ ρ = [some (edD ((a, b), u)), some (.int q), some (.int a), some (.int b), some (.str (wayS u)), some (.lst [plD (rotN ((q % 4).toNat - xs.length) (a, b)), plD (rotN ((q % 4).toNat - xs.length) (farP ((a, b), u)))]), o6, o7, o8, none]) ?_ ?_ _ _ _ ⟨rfl, none, none, none, by simp [rangeD], by simp [rangeD]; exact ⟨rfl, rfl⟩⟩⟩
    · rintro y ys ρ S1 ⟨rfl, o6, o7, o8, hl, rfl⟩ nx hn
      rw [List.length_cons] at hl ⊢
      have e1 : (q % 4).toNat - ys.length = (q % 4).toNat - (ys.length + 1) + 1 := by omega
      walk_at "dl"
      refine ⟨True.intro, lcW_mapG (fun d => .tup [.int (0 - (unP d).2), .int (unP d).1]) _ [] (fun z hz Q hQ => ?_) (by simp) (hn _ _ ⟨rfl, some y, o7, o8, by omega, ?_⟩)⟩
      · obtain ⟨p, rfl⟩ : ∃ p, z = plD p := by
          simp only [List.mem_cons, List.not_mem_nil, or_false] at hz
          exact hz.elim (fun h => ⟨_, h⟩) fun h => ⟨_, h⟩
        obtain ⟨c, d⟩ := p
        unfold plD at hQ ⊢
        walk_at "dl"
        exact ⟨by decide, True.intro, by decide, hQ⟩
      · rw [e1]
        rfl
    · rintro ρ S1 ⟨rfl, o6, o7, o8, hl, rfl⟩
      exact hn _ _ ⟨rfl, _, _, _, rfl⟩
  rintro _ _ ⟨rfl, o6, o7, o8, rfl⟩
  rw [rotN_K, rotN_K]
  refine ws_step fun nx hn => ?_
  walk_at "dl"
  refine bestL_pl rfl (hn _ _ ?_)
  have hres : P' (edD (minP (rotK (q % 4) (a, b)) (rotK (q % 4) (farP ((a, b), u))), decide ((rotK (q % 4) (a, b)).2 = (rotK (q % 4) (farP ((a, b), u))).2))) _ := h3
  revert hres
  generalize minP (rotK (q % 4) (a, b)) (rotK (q % 4) (farP ((a, b), u))) = low
  generalize rotK (q % 4) (a, b) = o1
  generalize rotK (q % 4) (farP ((a, b), u)) = o2
  intro hres
  obtain ⟨l1, l2⟩ := low
  obtain ⟨o11, o12⟩ := o1
  obtain ⟨o21, o22⟩ := o2
  unfold plD
  walk_at "dl"
  dsimp only at hres
  by_cases hq : o12 = o22
  · rw [decide_eq_true hq] at hres ⊢
    rw [if_pos rfl]
    exact ⟨by decide, rt_same rfl hres⟩
  · rw [decide_eq_false hq] at hres ⊢
    rw [if_neg (by decide)]
    exact ⟨by decide, rt_same rfl hres⟩
def sp_law_flipped : DSp := fun ds S P' _ => ∃ e, ds = [edD e] ∧ P' (edD (flipX e)) S
theorem cal_law_flipped (B : Bn mg) (I : DefIn K mg "_law_flipped" "_law_flipped" s_law_flipped) : Cal P w K mg base CX0 1 "_law_flipped" ["_law_edge_z"] sp_law_flipped := by
  refine cal_def I sc_law_flipped (fun _ _ _ _ _ _ us hl => match us, hl with | [_], _ => rfl) (fun _ _ _ _ ⟨_, e, _⟩ => e ▸ rfl) (fun f cdv A outer s H E hr => (dss_cons (ds_asg (de_var 0 (pv 0)) (dg_tup (n := 3) rfl (dgs_cons (dg_name (pg_name (i := 1) sc_law_flipped.nd rfl (by first | exact .inl rfl | exact .inr rfl))) (dgs_cons (dg_name (pg_name (i := 2) sc_law_flipped.nd rfl (by first | exact .inl rfl | exact .inr rfl))) (dgs_cons (dg_name (pg_name (i := 3) sc_law_flipped.nd rfl (by first | exact .inl rfl | exact .inr rfl))) dgs_nil)))))
  (dss_one (ds_ret (de_if (dt_eq hr.units (de_var 3 (pv 3)) de_str) (de_tup (da_cons (de_var 1 (pv 1)) (da_cons (de_op op_sub opd_sub de_int (de_var 2 (pv 2))) (da_cons (de_var 3 (pv 3)) da_nil)))) (de_tup (da_cons (de_var 1 (pv 1)) (da_cons (de_op op_sub opd_sub (de_op op_sub opd_sub de_int (de_var 2 (pv 2))) de_int) (da_cons (de_var 3 (pv 3)) da_nil))))))))) (fun ds S P' E hS h => ?_)
  obtain ⟨⟨⟨a, b⟩, u⟩, rfl, h3⟩ := h
  unfold edD
  walk_at "dl"
  walk_at "sd"
  cases u
  · rw [if_neg (by decide)]
    walk_at "sd"
    exact rt_same rfl h3
  · rw [if_pos (by decide)]
    walk_at "sd"
    exact rt_same rfl h3
end
end LW
set_option maxRecDepth 100000
set_option maxHeartbeats 4000000
namespace LW
open PySem PySem.Spec PyProof.Rows L2 DL LamX NdefX
local macro_rules | `(tactic| walk_at "dl") => `(tactic| simp only [↓wC_ap, ↓wNil_ap, ↓wCons_ap, ↓wLst_ap, ↓wTup_ap, ↓wOp_ap, ↓wB_ap, ↓wUn_ap, ↓wCB_ap, ↓wCall_ap, ↓wCallK_ap, ↓wSl_ap, ↓wPart_ap, ↓wNoPart_ap, ↓wAndT_ap, ↓wOrT_ap, ↓wNotT_ap, ↓wAndV_ap, ↓wOrV_ap, ↓wIf_ap, ↓wTru_ap, ↓wLc_ap, ↓wiSeq_ap, ↓wiRng1_ap, ↓wiRng2_ap, ↓wiZip_ap, ↓wLstRg_ap, ↓wTYes_ap, ↓wsNext_ap, ↓wsSeq_ap, ↓wsRet_ap, ↓wsRetN_ap, ↓wsRetF_ap, ↓wsDrop_ap, ↓wsIf_ap, ↓wsAsg_ap, ↓wsSet_ap, ↓wsSetF_ap, ↓wsPar_ap, ↓wsStore_ap, ↓wsFor_ap, ↓wsBreak_ap, ↓wsCont_ap, ↓wgName_ap, ↓wgNil_ap, ↓wgCons_ap, ↓wgTup_ap, ↓wVar_0, ↓wVar_s, ↓addD, ↓subD, ↓mulD, ↓modD, ↓fdivD, ↓powD, ↓negD, ↓notD, ↓eqD, ↓scalD, ↓inD, ↓isD, ↓ixD, ↓cmpD, ↓leD, ↓geD, ↓gtD, ↓ltD, ↓ordD, ↓lenD, ↓absD, ↓DL.intOfD, ↓listD, ↓allD, ↓isiD, ↓sliceD, ↓truD_non, ↓truD_bl, ↓truD_int, ↓truD_str, ↓truD_lst, ↓truD_tup, List.map_cons, List.map_nil, List.length_cons, List.length_nil, List.replicate, List.cons_append, List.nil_append, List.set_cons_zero, List.set_cons_succ, List.append_nil, List.zip_cons_cons, List.zip_nil_right, List.foldl_cons, List.foldl_nil, Nat.zero_add, Nat.add_zero, Nat.reduceAdd, Nat.reduceSub, Nat.reduceMul, if_true, if_false, Bool.false_eq_true, ite_true, ite_false, v_non, v_bl, v_int, v_str, v_ty, v_cst, v_lst, v_tup, v_dk, v_dt, v_ktp, v_obj, v_scr, startD_ap, wD_nil, wD_cons, wVar_0, wVar_s, ↓is_non_int, ↓is_bl_int, ↓is_int_int, ↓is_str_int, ↓is_lst_int, ↓is_tup_int, ↓is_dk_int, ↓is_non_bool, ↓is_bl_bool, ↓is_int_bool, ↓is_str_bool, ↓is_lst_bool, ↓is_tup_bool, ↓is_dk_bool, ↓is_non_str, ↓is_bl_str, ↓is_int_str, ↓is_str_str, ↓is_lst_str, ↓is_tup_str, ↓is_dk_str, ↓is_non_list, ↓is_bl_list, ↓is_int_list, ↓is_str_list, ↓is_lst_list, ↓is_tup_list, ↓is_dk_list, ↓is_non_tuple, ↓is_bl_tuple, ↓is_int_tuple, ↓is_str_tuple, ↓is_lst_tuple, ↓is_tup_tuple, ↓is_dk_tuple, ↓wsNever_ap, ↓wNever_ap, ↓wFr_ap, ↓wFLst_ap, ↓wFList_ap, ↓wFAdd_ap, ↓wBM_ap, ↓wBM0_ap, ↓wDGet_ap, ↓wDGet2_ap, ↓wsDPut_ap, ↓wNewT_ap, ↓wsRetire_ap, ↓wiKeysT_ap, ↓wDcT_ap, ↓wFld_ap, ↓wsFld_ap, ↓wMake_ap, ↓wMeth_ap, ↓wDictPT_ap, ↓wTruOwn_ap, ↓wFmt_ap, ↓wFs_ap, ↓wiEnum_ap, ↓wJs_nil, ↓wJs_cons, ↓wiEnumA_ap, ↓wNotOwn_ap, ↓wMethX0_ap, ↓wMethF0_ap, ↓wsBMX_ap, ↓wLcF_ap, ↓appendD, ↓popD, ↓entT, ↓dflT, ↓inT, ↓getT, ↓isDt, ↓fldD, ↓recvD, ↓isObjD, ↓isEqR, ↓eqOwnD, ↓inOwnD, ↓lenOwnD, ↓reprOwnD, ↓blP, ↓lenP, ↓strP, ↓truP, ↓lenDt, ↓listDt, ↓tupOf, ↓DL.strOf, ↓fmtD, ↓sortedT, ↓eqDt, ↓rcv, ↓empD, ↓boolOwnD, ↓isCD, ↓isCDof, isK_tup, List.lookup_cons, Option.getD_some, Option.getD_none, Option.isSome_some, Option.isSome_none, ↓wXfld_ap, ↓xfD_exn, ↓wCalT_ap, ↓wFnCall_v, ↓fnCallD_fn, ↓wsTry_ap, ↓wsRaise_ap, ↓wLam_ap, ↓wCalA_ap, List.replicate_succ, List.replicate_zero, ↓at1_0, ↓at2_0, ↓at2_1, ↓at3_0, ↓at3_1, ↓at3_2, ↓at4_0, ↓at4_1, ↓at4_2, ↓at4_3, ↓wCallG_ap, ↓wMethG_ap, ↓wMakeG_ap, gdP_ap, pick_nil, pick_p, pick_d, pick_m, pick_w, nth1_0, nth1_s])
local macro_rules | `(tactic| walk_at "sd") => `(tactic| repeat (first | refine ⟨True.intro, ?_⟩ | refine ⟨(by decide), ?_⟩))
local macro_rules | `(tactic| walk_at "len") => `(tactic| first | (rintro _ _ _ _ ⟨e, _⟩; rw [e]; rfl) | (rintro _ _ _ _ ⟨_, e, _⟩; rw [e]; rfl) | (rintro _ _ _ _ ⟨_, _, e, _⟩; rw [e]; rfl) | (rintro _ _ _ _ ⟨_, _, _, e, _⟩; rw [e]; rfl) | (rintro _ _ _ _ ⟨_, _, _, _, e, _⟩; rw [e]; rfl) | (rintro _ _ _ _ ⟨_, _, _, _, _, e, _⟩; rw [e]; rfl) | (rintro _ _ _ _ ⟨_, _, _, _, _, _, e, _⟩; rw [e]; rfl) | (rintro _ _ _ _ ⟨_, _, _, _, _, _, _, e, _⟩; rw [e]; rfl) | (rintro _ _ _ _ ⟨_, _, _, _, _, _, _, _, e, _⟩; rw [e]; rfl))
def e_law_0 : Expr := eElt 0 (xVal (xN 8 (xBody (xN 1 (defBody s_law)))))
def lm_law_0 (n : Nat) (c' : Addr) : LF := lamF s_law n e_law_0 "law.<locals>.<lambda>" c'
theorem fr_law_0 : ∀ y ∈ (lamS e_law_0).names, y.2 = .free → (defScope s_law).names.lookup y.1 = some .cell ∨ (defScope s_law).names.lookup y.1 = some .free := by decide +kernel
def e_law_1 : Expr := eElt 1 (xVal (xN 8 (xBody (xN 1 (defBody s_law)))))
def lm_law_1 (n : Nat) (c' : Addr) : LF := lamF s_law n e_law_1 "law.<locals>.<lambda>" c'
theorem fr_law_1 : ∀ y ∈ (lamS e_law_1).names, y.2 = .free → (defScope s_law).names.lookup y.1 = some .cell ∨ (defScope s_law).names.lookup y.1 = some .free := by decide +kernel
theorem nd_law : ((defScope s_law).names.map (·.1)).Nodup := by decide +kernel
section
variable {P : Program} {w : World} {K : PySem.W.Frag} {mg : Str → Option Value} {base : Heap}
/-- a value that is no edge, asked by a lambda -/
def spl (K : PySem.W.Frag) : DSp := fun ws S P E => ∃ x, ws = [x] ∧ okV x = true ∧ (∀ l, x = .tup l → l.length ≤ 1000) ∧ isEdge x = false ∧ E (He.ga K "InvalidEdge") [("code", .str "InvalidEdge"), ("given", x)] S
theorem fn_0 {n : Nat} {c' : Addr} (B : Bn mg) (c_turned_edge : Cal P w K mg base (L2.CX P w) 5 "turned_edge" ["edge", "quarters"] (sp_turned_edge (He.ga K "InvalidEdge"))) : FnIn P w K mg base 6 (lm_law_0 n c') 0 1 (spl K) := by
  obtain ⟨sp_, c_turned_edge, h_t⟩ := hide c_turned_edge
  refine ⟨fnp_def (N := ["_law_odd"]) (ps := []) (show NScope _ _ ["_law_odd"] (lamS e_law_0) from nscope_by (by decide +kernel)) rfl (fun _ _ _ => rfl) (fun _ _ _ its h => match its, h with | [], _ => ⟨_, rfl, rfl⟩) (fun f A outer s H E hr => (de_cal c_turned_edge hr (passW (takes_of rfl rfl rfl rfl)) (da_cons (de_var 0 (pv 0)) (da_cons de_int da_nil)))) (fun ws S P' E hl h => ?_), rfl, by show (["_law_odd"] : List Str).Nodup; simp, by show ([_] : List Addr).Nodup; simp⟩
  obtain ⟨x, rfl, h1, h2, h3, h4⟩ := h
  walk_at "dl"
  exact h_t _ _ _ _ ⟨x, 1, rfl, h1, h2, .inr ⟨h3, h4⟩⟩
theorem fn_1 {n : Nat} {c' : Addr} (B : Bn mg) (c_mirrored_edge : Cal P w K mg base (L2.CX P w) 5 "mirrored_edge" ["edge"] (sp_mirrored_edge (He.ga K "InvalidEdge"))) : FnIn P w K mg base 6 (lm_law_1 n c') 1 1 (spl K) := by
  obtain ⟨sp_, c_mirrored_edge, h_t⟩ := hide c_mirrored_edge
  refine ⟨fnp_def (N := ["_law_a", "_law_odd"]) (ps := ["_law_a"]) (show NScope _ _ ["_law_odd"] (lamS e_law_1) from nscope_by (by decide +kernel)) rfl (fun _ _ h => by cases h) (fun _ _ _ its h => match its, h with | [_], _ => ⟨_, rfl, rfl⟩) (fun f A outer s H E hr => (de_cal c_mirrored_edge hr (passW (takes_of rfl rfl rfl rfl)) (da_cons (de_var 1 (pv 1)) da_nil))) (fun ws S P' E hl h => ?_), rfl, by show (["_law_odd"] : List Str).Nodup; simp, by show ([_] : List Addr).Nodup; simp⟩
  obtain ⟨x, rfl, h1, h2, h3, h4⟩ := h
  walk_at "dl"
  exact h_t _ _ _ _ ⟨h1, h2, by rw [h3]; exact h4⟩
theorem l8 {o : List (Option D)} (h : o.length = 8) : ∃ a b c d e f g h : Option D, o = [a, b, c, d, e, f, g, h] := by
  match o, h with
  | [a, b, c, d, e, f, g, h], _ => exact ⟨a, b, c, d, e, f, g, h, rfl⟩
abbrev St (T : Addr) (b : List D) : Sto := [.tb T "law.<locals>.<lambda>", .lst b]
theorem inE (e : Pl × Bool) : edD e = edD e := rfl
/-- turned_edge, mirrored_edge of an edge -/
def spg_t : DSp := fun ds S P _ => ∃ e q, ds = [edD e, .int q] ∧ P (edD (turnE q e)) S
def spg_m : DSp := fun ds S P _ => ∃ e, ds = [edD e] ∧ P (edD (flipX e)) S
def tupL : D → Nat
  | .tup l => l.length
  | _ => 0
theorem tupL_le {d : D} (h : tupL d ≤ 1000) (l : List D) (e : d = .tup l) : l.length ≤ 1000 := by subst e; exact h
def odds : List D := [.non, .tup [.int 0, .int 0], .tup [.int 0, .int 0, .str "left"], .lst [.int 0, .int 0, .str "up"], .tup [.int 0, .bl true, .str "up"], .str "up", .tup [.int 0, .int 0, .str "up", .int 1]]
theorem odds_ok : odds.all (fun d => okV d && (nofn d && (!isEdge d && (deep d && (decide (dep d ≤ 1) && decide (tupL d ≤ 1000)))))) = true := by decide +kernel
theorem odd_ok {d : D} (h : d ∈ odds) : okV d = true ∧ isEdge d = false ∧ OkD 1 d ∧ (∀ l, d = .tup l → l.length ≤ 1000) ∧ nofn d = true := by
  obtain ⟨h1, h⟩ := and_tt (List.all_eq_true.mp odds_ok d h)
  obtain ⟨h0, h⟩ := and_tt h
  obtain ⟨h2, h⟩ := and_tt h
  obtain ⟨h3, h⟩ := and_tt h
  obtain ⟨h4, h5⟩ := and_tt h
  exact ⟨h1, by simpa using h2, ⟨h3, of_decide_eq_true h4⟩, tupL_le (of_decide_eq_true h5), h0⟩
theorem nof_all : ∀ {l : List D}, (∀ d ∈ l, nofn d = true) → nofns l = true
  | [], _ => rfl
  | d :: l, h => by
    show (nofn d && nofns l) = true
    rw [h d (List.mem_cons_self ..), nof_all fun x hx => h x (List.mem_cons_of_mem _ hx)]
    rfl
theorem nof_bag {b : List D} (h : BagOk b) : nofn (.lst b) = true := by
  obtain ⟨cells, t, r, m, d, rfl, _⟩ := h
  show (nofns (cells.map D.int) && true) = true
  rw [nof_all fun x hx => by obtain ⟨z, _, rfl⟩ := List.mem_map.mp hx; rfl]
  rfl
theorem ga_fs {x : D} : fieldR [("code", .str "InvalidEdge"), ("given", x)] = some (.tup [x]) := rfl
def pyE (a b : Int) (u : Str) : PyData := .tuple [.int a, .int b, .str u]
theorem shaped_pyE (a b : Int) (w : Bool) : SeqAt.shaped (pyE a b (wayS w)) = true := by
  unfold SeqAt.shaped pyE
  cases w <;> simp [wayS, show PyData.strOk "across" = true from by decide +kernel, show PyData.strOk "up" = true from by decide +kernel, PyData.canLay0, PyData.canLayAll0, PyData.depth, PyData.depthAll]
theorem eqv_pyE (a b : Int) (w : Bool) : PyData.eqv (pyE a b (wayS w)) (pyE a b (wayS w)) = true := PySem.SeqAt.eqv_refl _ (PySem.SeqAt.canLay_of_shaped (shaped_pyE a b w))
theorem ok_ed (e : Pl × Bool) : OkD 1 (edD e) := okD_tup (by simp) (memC okD_int (memC okD_int (memC okD_str memN)))
local macro_rules | `(tactic| walk_at "lawlen") => `(tactic| (intro ds S P E h; revert h; unfold spLawT; split; (intro _; rfl); (intro h; exact h.elim)))
theorem kb_mirrored_edge_0_edge {f : Addr} {fd : FuncData} (F : FunD K "mirrored_edge" "mirrored_edge" (defArgs s_mirrored_edge) (defBody s_mirrored_edge) (defScope s_mirrored_edge) [] [] f fd) : KB K fd ["edge"] 0 ["edge"] (gdP [.w 0] [] []) := kb_A F [.w 0] (fun _ _ _ _ _ _ us ws h1 h2 => match us, ws, h1, h2 with | [], [_], _, _ => rfl)
theorem kb_turned_edge_0_quarters_edge {f : Addr} {fd : FuncData} (F : FunD K "turned_edge" "turned_edge" (defArgs s_turned_edge) (defBody s_turned_edge) (defScope s_turned_edge) [] [] f fd) : KB K fd ["edge", "quarters"] 0 ["quarters", "edge"] (gdP [.w 1, .w 0] [] []) := kb_A F [.w 1, .w 0] (fun _ _ _ _ _ _ us ws h1 h2 => match us, ws, h1, h2 with | [], [_, _], _, _ => rfl)
theorem law_hw {cF T : Addr} (B : Bn mg) (c_turned_edge : Cal P w K mg base (L2.CX P w) 5 "turned_edge" ["edge", "quarters"] (sp_turned_edge (He.ga K "InvalidEdge"))) (c_law_same : Cal P w K mg base CX0 5 "_law_same" ["_law_found", "_law_due"] (sp_same 4)) (c_law_all_got : Cal P w K mg base (L2.CX P w) 8 "_law_all_got" ["_law_asks"] (sp_all P w K mg base 6 [.ref (He.ga K "InkError"), .ref (He.ga K "Missing"), .ref (He.ga K "NothingLeft")])) (tb_law : LamX.TabB base mg cF T) (c_law_of : Cal P w K mg base CX0 2 "_law_of" ["_law_bag_here", "_law_some"] sp_of) (c_mirrored_edge : Cal P w K mg base (L2.CX P w) 5 "mirrored_edge" ["edge"] (sp_mirrored_edge (He.ga K "InvalidEdge"))) (cg_mirrored_edge_0_edge : CalG P w K mg base (L2.CX P w) 5 "mirrored_edge" 0 ["edge"] (sp_mirrored_edge (He.ga K "InvalidEdge")) (gdP [.w 0] [] [])) (cg_turned_edge_0_quarters_edge : CalG P w K mg base (L2.CX P w) 5 "turned_edge" 0 ["quarters", "edge"] (sp_turned_edge (He.ga K "InvalidEdge")) (gdP [.w 1, .w 0] [] [])) (c_law_flipped : Cal P w K mg base CX0 1 "_law_flipped" ["_law_edge_z"] sp_law_flipped) (c_law_turned : Cal P w K mg base CX0 1 "_law_turned" ["_law_edge_z", "_law_quarters_z"] sp_law_turned) (c_law_near : Cal P w K mg base CX0 2 "_law_near" ["_law_bag_here", "_law_far"] sp_near) (c_law_any : Cal P w K mg base CX0 3 "_law_any" ["_law_bag_here"] sp_any) (c_law_bag : CalFr P w K mg base CX0 1 "_law_bag" ["_law_script"] sp_bag) (fn0 : ∀ n c', FnIn P w K mg base 6 (lm_law_0 n c') 0 1 (spl K)) (fn1 : ∀ n c', FnIn P w K mg base 6 (lm_law_1 n c') 1 1 (spl K)) (xm : PySem.W.exmAny K (.ref (He.ga K "InvalidEdge")) [.ref (He.ga K "InkError"), .ref (He.ga K "Missing"), .ref (He.ga K "NothingLeft")] = some true) (xf1 : XfK K (He.ga K "InvalidEdge") "code") (xf2 : XfK K (He.ga K "InvalidEdge") "given") {f : Addr} {fd : FuncData} (F : FunD K "law" "law" (defArgs s_law) (defBody s_law) (defScope s_law) [] [] f fd) (hc : CodeIs K f cF) :
    FnOk P w K mg base CX0 9 f fd ["_law_script"] (toSp K (spLawT [(T, "law.<locals>.<lambda>")])) := by
  obtain ⟨sp_turned_edge_, c_turned_edge, h_turned_edge⟩ := hide c_turned_edge
  obtain ⟨sp_law_same_, c_law_same, h_law_same⟩ := hide c_law_same
  obtain ⟨sp_law_all_got_, c_law_all_got, h_law_all_got⟩ := hide c_law_all_got
  obtain ⟨sp_law_of_, c_law_of, h_law_of⟩ := hide c_law_of
  obtain ⟨sp_mirrored_edge_, c_mirrored_edge, h_mirrored_edge⟩ := hide c_mirrored_edge
  obtain ⟨sp_mirrored_edge_0_edge_, cg_mirrored_edge_0_edge, h_mirrored_edge_0_edge⟩ := cg_mirrored_edge_0_edge.hide
  obtain ⟨sp_turned_edge_0_quarters_edge_, cg_turned_edge_0_quarters_edge, h_turned_edge_0_quarters_edge⟩ := cg_turned_edge_0_quarters_edge.hide
  obtain ⟨sp_law_flipped_, c_law_flipped, h_law_flipped⟩ := hide c_law_flipped
  obtain ⟨sp_law_turned_, c_law_turned, h_law_turned⟩ := hide c_law_turned
  obtain ⟨sp_law_near_, c_law_near, h_law_near⟩ := hide c_law_near
  obtain ⟨sp_law_any_, c_law_any, h_law_any⟩ := hide c_law_any
  obtain ⟨sp_law_bag_, c_law_bag, h_law_bag⟩ := hideF c_law_bag
  refine okN_def F hc sc_law (by walk_at "lawlen") (fun n A outer s H E hn hr => (dss_cons (ds_setF (i := 1) sc_law.nd rfl (by first | exact .inl rfl | exact .inr rfl) (df_cal c_law_bag hr pass00 (da_cons (de_var 0 (pv 0)) da_nil)))
  (dss_cons (ds_for (passes_of rfl) rfl (di_range1 rfl B.range (da_cons de_int da_nil)) (dg_name (pg_name (i := 2) sc_law.nd rfl (by first | exact .inl rfl | exact .inr rfl)))
  (dss_cons (ds_set (i := 3) sc_law.nd rfl (by first | exact .inl rfl | exact .inr rfl) (de_tup (da_cons (de_cal c_law_any hr pass00 (da_cons (de_var 1 (pv 1)) da_nil)) (da_cons (de_cal c_law_any hr pass00 (da_cons (de_var 1 (pv 1)) da_nil)) (da_cons (de_cal c_law_of hr pass00 (da_cons (de_var 1 (pv 1)) (da_cons (de_lst (da_cons de_str (da_cons de_str da_nil))) da_nil))) da_nil)))))
  (dss_cons (ds_set (i := 4) sc_law.nd rfl (by first | exact .inl rfl | exact .inr rfl) (de_cal c_law_of hr pass00 (da_cons (de_var 1 (pv 1)) (da_cons (de_lst (da_cons (de_cal c_law_near hr pass00 (da_cons (de_var 1 (pv 1)) (da_cons de_int da_nil))) (da_cons (de_cal c_law_near hr pass00 (da_cons (de_var 1 (pv 1)) (da_cons (de_op op_pow opd_pow de_int de_int) da_nil))) da_nil))) da_nil))))
  (dss_cons (ds_par (i := 5) (j := 6) rfl sc_law.nd rfl rfl (by decide) rfl rfl (da_cons (de_cal c_law_turned hr pass00 (da_cons (de_var 3 (pv 3)) (da_cons (de_var 4 (pv 4)) da_nil))) (da_cons (de_cal c_law_flipped hr pass00 (da_cons (de_var 3 (pv 3)) da_nil)) da_nil)))
  (dss_cons (ds_set (i := 7) sc_law.nd rfl (by first | exact .inl rfl | exact .inr rfl) (de_lst (da_cons (de_calN c_turned_edge hr (da_cons (de_var 3 (pv 3)) (da_cons (de_var 4 (pv 4)) da_nil))) (da_cons (de_callG0 cg_turned_edge_0_quarters_edge hr passEQ (dk_cons (de_var 4 (pv 4)) (dk_cons (de_var 3 (pv 3)) dk_nil))) (da_cons (de_calN c_mirrored_edge hr (da_cons (de_var 3 (pv 3)) da_nil)) (da_cons (de_callG0 cg_mirrored_edge_0_edge hr passEQ (dk_cons (de_var 3 (pv 3)) dk_nil)) da_nil))))))
  (dss_cons (ds_if (dt_not (dt_tru (de_cal c_law_same hr pass00 (da_cons (de_var 7 (pv 7)) (da_cons (de_lst (da_cons (de_var 5 (pv 5)) (da_cons (de_var 5 (pv 5)) (da_cons (de_var 6 (pv 6)) (da_cons (de_var 6 (pv 6)) da_nil))))) da_nil))))) (dss_one (ds_ret de_bl)) dss_nil)
  (dss_cons (ds_if (dt_not (dt_tru (de_cal c_law_same hr pass00 (da_cons (de_lst (da_cons (de_calN c_turned_edge hr (da_cons (de_var 5 (pv 5)) (da_cons (de_op op_sub opd_sub de_int (de_var 4 (pv 4))) da_nil))) (da_cons (de_calN c_mirrored_edge hr (da_cons (de_var 6 (pv 6)) da_nil)) (da_cons (de_calN c_turned_edge hr (da_cons (de_var 3 (pv 3)) (da_cons de_int da_nil))) da_nil)))) (da_cons (de_op op_mulA opd_mul (de_lst (da_cons (de_var 3 (pv 3)) da_nil)) de_int) da_nil))))) (dss_one (ds_ret de_bl)) dss_nil)
  (dss_cons (ds_if (dt_ne hr.units (de_calN c_turned_edge hr (da_cons (de_calN c_mirrored_edge hr (da_cons (de_var 3 (pv 3)) da_nil)) (da_cons (de_var 4 (pv 4)) da_nil))) (de_calN c_mirrored_edge hr (da_cons (de_calN c_turned_edge hr (da_cons (de_var 3 (pv 3)) (da_cons (de_op op_sub opd_sub de_int (de_var 4 (pv 4))) da_nil))) da_nil))) (dss_one (ds_ret de_bl)) dss_nil)
  (dss_cons (ds_set (i := 8) sc_law.nd rfl (by first | exact .inl rfl | exact .inr rfl) (de_cal c_law_of hr pass00 (da_cons (de_var 1 (pv 1)) (da_cons (de_lst (da_cons de_non (da_cons (de_tup (da_cons de_int (da_cons de_int da_nil))) (da_cons (de_tup (da_cons de_int (da_cons de_int (da_cons de_str da_nil)))) (da_cons (de_lst (da_cons de_int (da_cons de_int (da_cons de_str da_nil)))) (da_cons (de_tup (da_cons de_int (da_cons de_bl (da_cons de_str da_nil)))) (da_cons de_str (da_cons (de_tup (da_cons de_int (da_cons de_int (da_cons de_str (da_cons de_int da_nil))))) da_nil)))))))) da_nil))))
  (dss_cons (ds_set (i := 9) sc_law.nd rfl (by first | exact .inl rfl | exact .inr rfl) (de_lst (da_cons (de_lam (F := lm_law_0 n) (q := "law.<locals>.<lambda>") (nd := 0) tb_law rfl rfl (fun _ => by subst hn; rfl) (.inl ⟨rfl, rfl⟩) fr_law_0) (da_cons (de_lam (F := lm_law_1 n) (q := "law.<locals>.<lambda>") (nd := 1) tb_law rfl rfl (fun _ => by subst hn; rfl) (.inr ⟨rfl, _, _, _, rfl⟩) fr_law_1) da_nil))))
  (dss_one (ds_if (dt_not (dt_tru (de_cal c_law_same hr pass00 (da_cons (de_calA (cells := cellsFrom n (defScope s_law).names []) (N := N_law) c_law_all_got hr (de_var 9 (pv 9)) (fun _ => rfl) (by subst hn; rfl) rfl (fun y c h => cells_kind0 nd_law h)) (da_cons (de_op op_mulA opd_mul (de_lst (da_cons (de_tup (da_cons de_str (da_cons (de_tup (da_cons (de_var 8 (pv 8)) da_nil)) da_nil))) da_nil)) de_int) da_nil))))) (dss_one (ds_ret de_bl)) dss_nil))))))))))))
  (dss_one (ds_ret (de_eq hr.units (de_calN c_turned_edge hr (da_cons (de_tup (da_cons de_int (da_cons de_int (da_cons de_str da_nil)))) (da_cons de_int da_nil))) (de_tup (da_cons (de_neg de_int) (da_cons de_int (da_cons de_str da_nil)))))))))) (fun n ds S P' E hS h => ?_)
  unfold spLawT at h
  split at h
  · rename_i ns
    obtain ⟨hl, rfl, h⟩ := h
    rw [startD_ap]
    refine ws_join (fun ρ' S' => ρ' = some (.scr ns) :: some (.loc 1) :: List.replicate (N_law.length - 2) none ∧ ∃ b, S' = St T b ∧ BagOk b) (fun nx hn => ?_) ?_
    · walk_at "dl"
      exact h_law_bag _ _ _ _ ⟨hl, fun b hb => hn _ _ ⟨rfl, b, rfl, hb⟩⟩
    rintro _ _ ⟨rfl, b, rfl, hb⟩
    refine ws_join (fun ρ' S' => (∃ b, S' = St T b ∧ BagOk b) ∧ ∃ o, o.length = 8 ∧ ρ' = some (.scr ns) :: some (.loc 1) :: o) (fun nx hn => ?_) ?_
    · walk_at "dl"
      refine ⟨by decide, for_inv (fun xs ρ S' => (∃ b, S' = St T b ∧ BagOk b) ∧ ∃ o, o.length = 8 ∧ ρ = some (.scr ns) :: some (.loc 1) :: o) ?_ ?_ _ _ _ ⟨⟨b, rfl, hb⟩, _, rfl, rfl⟩⟩
      · rintro x xs ρ S' ⟨⟨b, rfl, hb⟩, o, ho, rfl⟩ nx0 hn0
        obtain ⟨o2, o3, o4, o5, o6, o7, o8, o9, rfl⟩ := l8 ho
        rw [wgName_ap]
        refine ws_join (fun ρ' S' => ∃ b e, S' = St T b ∧ BagOk b ∧ ρ' = [some (.scr ns), some (.loc 1), some x, some (edD e), o4, o5, o6, o7, o8, o9]) (fun nx hn => ?_) ?_
        · walk_at "dl"
          refine h_law_any _ _ _ _ ⟨b, rfl, hb, fun z1 b1 _ _ hb1 => ?_⟩
          refine h_law_any _ _ _ _ ⟨b1, rfl, hb1, fun z2 b2 _ _ hb2 => ?_⟩
          refine ⟨by decide, h_law_of _ _ _ _ ⟨b2, rfl, hb2, by simp, by simp, fun y b3 hy hb3 => ?_⟩⟩
          obtain ⟨u, rfl⟩ : ∃ u : Bool, y = .str (wayS u) := by
            simp only [List.mem_cons, List.not_mem_nil, or_false] at hy
            rcases hy with h | h
            · exact ⟨true, h⟩
            · exact ⟨false, h⟩
          exact ⟨by decide, hn _ _ ⟨b3, ((z1, z2), u), rfl, hb3, rfl⟩⟩
        clear hb
        rintro _ _ ⟨b, e, rfl, hb, rfl⟩
        refine ws_join (fun ρ' S' => ∃ b q, S' = St T b ∧ BagOk b ∧ ρ' = [some (.scr ns), some (.loc 1), some x, some (edD e), some (.int q), o5, o6, o7, o8, o9]) (fun nx hn => ?_) ?_
        · walk_at "dl"
          refine h_law_near _ _ _ _ ⟨b, rfl, hb, by decide, by decide +kernel, fun z1 b1 _ _ hb1 => ?_⟩
          refine ⟨by decide, h_law_near _ _ _ _ ⟨b1, rfl, hb1, by decide, by decide +kernel, fun z2 b2 _ _ hb2 => ?_⟩⟩
          refine ⟨by decide, h_law_of _ _ _ _ ⟨b2, rfl, hb2, by simp, by simp, fun y b3 hy hb3 => ?_⟩⟩
          obtain ⟨q, rfl⟩ : ∃ q : Int, y = .int q := by
            simp only [List.mem_cons, List.not_mem_nil, or_false] at hy
            rcases hy with h | h
            · exact ⟨_, h⟩
            · exact ⟨_, h⟩
          exact hn _ _ ⟨b3, q, rfl, hb3, rfl⟩
        clear hb
        rintro _ _ ⟨b, q, rfl, hb, rfl⟩
        refine ws_step fun nx hn => ?_
        walk_at "dl"
        refine h_law_turned _ _ _ _ ⟨e, q, rfl, h_law_flipped _ _ _ _ ⟨e, rfl, ?_⟩⟩
        walk_at "sd"
        refine hn _ _ ?_
        refine ws_step fun nx hn => ?_
        walk_at "dl"
        have ke := okV_edD
        refine h_turned_edge _ _ _ _ ⟨_, _, rfl, ke e, len_edD e, .inl ⟨e, rfl, ?_⟩⟩
        refine ⟨True.intro, True.intro, h_turned_edge_0_quarters_edge _ _ _ _ ⟨_, _, rfl, ke e, len_edD e, .inl ⟨e, rfl, ?_⟩⟩⟩
        refine h_mirrored_edge _ _ _ _ ⟨ke e, len_edD e, ?_⟩
        rw [if_pos (edD_isEdge e), flipE_ed]
        refine ⟨True.intro, True.intro, h_mirrored_edge_0_edge _ _ _ _ ⟨ke e, len_edD e, ?_⟩⟩
        rw [if_pos (edD_isEdge e), flipE_ed]
        refine ⟨by decide, hn _ _ ?_⟩
        refine ws_step fun nx hn => ?_
        walk_at "dl"
        refine ⟨by decide, h_law_same _ _ _ _ (sp_same_ok rfl ((okD_lst (by simp) (memC (ok_ed _) (memC (ok_ed _) (memC (ok_ed _) (memC (ok_ed _) memN))))).mono (by decide)) ?_)⟩
        walk_at "dl"
        rw [if_neg (by decide)]
        refine hn _ _ ?_
        refine ws_step fun nx hn => ?_
        walk_at "dl"
        refine h_turned_edge _ _ _ _ ⟨_, _, rfl, ke _, len_edD _, .inl ⟨_, rfl, ?_⟩⟩
        refine h_mirrored_edge _ _ _ _ ⟨ke _, len_edD _, ?_⟩
        rw [if_pos (edD_isEdge _), flipE_ed]
        refine h_turned_edge _ _ _ _ ⟨_, _, rfl, ke _, len_edD _, .inl ⟨_, rfl, ?_⟩⟩
        rw [turn_back, flipX2, turn_4]
        walk_at "sd"
        refine h_law_same _ _ _ _ (sp_same_ok (x := .lst [edD e, edD e, edD e]) rfl ((okD_lst (l := [edD e, edD e, edD e]) (by simp) (memC (ok_ed _) (memC (ok_ed _) (memC (ok_ed _) memN)))).mono (by decide)) ?_)
        walk_at "dl"
        rw [if_neg (by decide)]
        refine hn _ _ ?_
        refine ws_step fun nx hn => ?_
        walk_at "dl"
        refine h_mirrored_edge _ _ _ _ ⟨ke _, len_edD _, ?_⟩
        rw [if_pos (edD_isEdge _), flipE_ed]
        refine h_turned_edge _ _ _ _ ⟨_, _, rfl, ke _, len_edD _, .inl ⟨_, rfl, ?_⟩⟩
        refine h_turned_edge _ _ _ _ ⟨_, _, rfl, ke _, len_edD _, .inl ⟨_, rfl, ?_⟩⟩
        refine h_mirrored_edge _ _ _ _ ⟨ke _, len_edD _, ?_⟩
        rw [if_pos (edD_isEdge _), flipE_ed, turn_flip]
        generalize flipX (turnE (0 - q) e) = r
        obtain ⟨⟨r1, r2⟩, ru⟩ := r
        unfold edD
        walk_at "dl"
        refine ⟨shaped_pyE _ _ _, shaped_pyE _ _ _, ?_⟩
        rw [show PyData.eqv (.tuple [.int r1, .int r2, .str (wayS ru)]) (.tuple [.int r1, .int r2, .str (wayS ru)]) = true from eqv_pyE _ _ _, if_neg (by decide)]
        refine hn _ _ ?_
        refine ws_join (fun ρ' S' => ∃ b d, S' = St T b ∧ BagOk b ∧ okV d = true ∧ (∀ l, d = .tup l → l.length ≤ 1000) ∧ isEdge d = false ∧ OkD 1 d ∧ nofn d = true ∧ ∃ o9', ρ' = [some (.scr ns), some (.loc 1), some x, some (edD e), some (.int q), some (edD (turnE q e)), some (edD (flipX e)), some (.lst [edD (turnE q e), edD (turnE q e), edD (flipX e), edD (flipX e)]), some d, o9']) (fun nx hn => ?_) ?_
        · walk_at "dl"
          walk_at "sd"
          refine h_law_of _ _ _ _ ⟨b, rfl, hb, by simp, by simp, fun d b1 hd hb1 => ?_⟩
          obtain ⟨g1, g2, g3, g4, g5⟩ := odd_ok hd
          exact hn _ _ ⟨b1, d, rfl, hb1, g1, g4, g2, g3, g5, o9, rfl⟩
        clear hb
        rintro _ _ ⟨b, d, rfl, hb, hd1, hd2, hd3, hd4, hd5, o9', rfl⟩
        refine ws_step fun nx hn => ?_
        walk_at "dl"
        refine ⟨⟨0, rfl⟩, fun c0 => ⟨⟨0, rfl⟩, fun c1 => ⟨by decide, ?_⟩⟩⟩
        refine hn _ _ ?_
        walk_at "dl"
        refine ⟨.lst [.fn (lm_law_0 n c0) 0 [d], .fn (lm_law_1 n c1) 1 [d]], .inr ⟨_, _, rfl, rfl, .inr ⟨_, _, _, rfl, rfl, fun i w hw => ?_⟩, .inr ⟨_, _, _, rfl, rfl, fun i w hw => ?_⟩, True.intro⟩, ?_⟩
        · match i, hw with
          | 0, hw => exact ⟨"_law_odd", _, 8, rfl, rfl, rfl, by cases hw; rfl⟩
          | i + 1, hw => simp at hw
        · match i, hw with
          | 0, hw => exact ⟨"_law_odd", _, 8, rfl, rfl, rfl, by cases hw; rfl⟩
          | i + 1, hw => simp at hw
        · refine h_law_all_got _ _ _ _ ⟨by simp, ?_⟩
          have nfd : nofns [d] = true := by
            show (nofn d && true) = true
            rw [hd5]; rfl
          have nS : (St T b).all nofn = true := by
            show (true && (nofn (.lst b) && true)) = true
            rw [nof_bag hb]; rfl
          refine ⟨spl K, fn0 n c0, nfd, nS, d, rfl, hd1, hd2, hd3, rfl, xm, xf1, xf2, _, _, rfl, ga_fs, rfl, ?_⟩
          refine ⟨spl K, fn1 n c1, nfd, nS, d, rfl, hd1, hd2, hd3, rfl, xm, xf1, xf2, _, _, rfl, ga_fs, rfl, ?_⟩
          have hnf : nofn (.tup [.str "InvalidEdge", .tup [d]]) = true := by
            show (true && ((nofn d && true) && true)) = true
            rw [hd5]; rfl
          refine ⟨nof_all (memC hnf (memC hnf memN)), nS, by decide, by decide, by decide, by decide, h_law_same _ _ _ _ (sp_same_ok rfl ((okD_lst (l := [.tup [.str "InvalidEdge", .tup [d]], .tup [.str "InvalidEdge", .tup [d]]]) (n := 3) (by simp) ?_).mono (by decide)) ?_)⟩
          · have ho : OkD 3 (.tup [.str "InvalidEdge", .tup [d]]) := okD_tup (n := 2) (by simp) (memC okD_str (memC (okD_tup (n := 1) (by simp) (memC hd4 memN)) memN))
            exact memC ho (memC ho memN)
          · walk_at "dl"
            rw [if_neg (by decide)]
            exact hn0 _ _ ⟨⟨b, rfl, hb⟩, _, rfl, rfl⟩
      · rintro ρ S' ⟨⟨b, rfl, hb⟩, o, ho, rfl⟩
        exact hn _ _ ⟨⟨b, rfl, hb⟩, o, ho, rfl⟩
    rintro _ _ ⟨⟨b, rfl, hb⟩, o, ho, rfl⟩
    walk_at "dl"
    walk_at "sd"
    refine h_turned_edge _ _ _ _ ⟨_, _, rfl, rfl, fun l h => by injection h with h; rw [← h]; simp, .inl ⟨((2, 1), false), rfl, ?_⟩⟩
    rw [show edD (turnE 1 ((2, 1), false)) = .tup [.int (-2), .int 2, .str "across"] from by rfl]
    refine ⟨by decide, by decide +kernel, by decide +kernel, ?_⟩
    exact rtT (S := tabsD [(T, "law.<locals>.<lambda>")]) (S' := [.lst b]) rfl rfl h
  · exact h.elim
end
end LW
set_option maxRecDepth 100000
set_option maxHeartbeats 4000000
namespace LW
open PySem PySem.Spec PyProof.Rows L2 DL LamX NdefX
def d_is_number : He.DefD := ⟨("is_number", none), "is_number", "is_number", defArgs s_is_number, defBody s_is_number, defScope s_is_number, [], []⟩
def d_is_place : He.DefD := ⟨("is_place", none), "is_place", "is_place", defArgs s_is_place, defBody s_is_place, defScope s_is_place, [], []⟩
def d_is_way : He.DefD := ⟨("is_way", none), "is_way", "is_way", defArgs s_is_way, defBody s_is_way, defScope s_is_way, [], []⟩
def d_is_edge : He.DefD := ⟨("is_edge", none), "is_edge", "is_edge", defArgs s_is_edge, defBody s_is_edge, defScope s_is_edge, [], []⟩
def d_need_edge : He.DefD := ⟨("need_edge", none), "need_edge", "need_edge", defArgs s_need_edge, defBody s_need_edge, defScope s_need_edge, [], []⟩
def d_turned_place : He.DefD := ⟨("turned_place", none), "turned_place", "turned_place", defArgs s_turned_place, defBody s_turned_place, defScope s_turned_place, [], []⟩
def d_turned_edge : He.DefD := ⟨("turned_edge", none), "turned_edge", "turned_edge", defArgs s_turned_edge, defBody s_turned_edge, defScope s_turned_edge, [], []⟩
def d_law_same : He.DefD := ⟨("_law_same", none), "_law_same", "_law_same", defArgs s_law_same, defBody s_law_same, defScope s_law_same, [], []⟩
def d_law_field : He.DefD := ⟨("_law_field", none), "_law_field", "_law_field", defArgs s_law_field, defBody s_law_field, defScope s_law_field, [], []⟩
def d_law_got : He.DefD := ⟨("_law_got", none), "_law_got", "_law_got", defArgs s_law_got, defBody s_law_got, defScope s_law_got, [], []⟩
def d_law_all_got : He.DefD := ⟨("_law_all_got", none), "_law_all_got", "_law_all_got", defArgs s_law_all_got, defBody s_law_all_got, defScope s_law_all_got, [], []⟩
def d_law_pull : He.DefD := ⟨("_law_pull", none), "_law_pull", "_law_pull", defArgs s_law_pull, defBody s_law_pull, defScope s_law_pull, [], []⟩
def d_law_of : He.DefD := ⟨("_law_of", none), "_law_of", "_law_of", defArgs s_law_of, defBody s_law_of, defScope s_law_of, [], []⟩
def d_mirrored_edge : He.DefD := ⟨("mirrored_edge", none), "mirrored_edge", "mirrored_edge", defArgs s_mirrored_edge, defBody s_mirrored_edge, defScope s_mirrored_edge, [], []⟩
def d_law_flipped : He.DefD := ⟨("_law_flipped", none), "_law_flipped", "_law_flipped", defArgs s_law_flipped, defBody s_law_flipped, defScope s_law_flipped, [], []⟩
def d_law_turned : He.DefD := ⟨("_law_turned", none), "_law_turned", "_law_turned", defArgs s_law_turned, defBody s_law_turned, defScope s_law_turned, [], []⟩
def d_law_near : He.DefD := ⟨("_law_near", none), "_law_near", "_law_near", defArgs s_law_near, defBody s_law_near, defScope s_law_near, [], []⟩
def d_law_any : He.DefD := ⟨("_law_any", none), "_law_any", "_law_any", defArgs s_law_any, defBody s_law_any, defScope s_law_any, [], []⟩
def d_law_bag : He.DefD := ⟨("_law_bag", none), "_law_bag", "_law_bag", defArgs s_law_bag, defBody s_law_bag, defScope s_law_bag, [], []⟩
def d_law : He.DefD := ⟨("law", none), "law", "law", defArgs s_law, defBody s_law, defScope s_law, [], []⟩
def x_InvalidEdge : He.XDef := ⟨("InvalidEdge", some "__init__"), "InvalidEdge.__init__", defArgs s_InvalidEdge_init, defBody s_InvalidEdge_init, defScope s_InvalidEdge_init⟩
def fn : List He.DefD := [d_is_number, d_is_place, d_is_way, d_is_edge, d_need_edge, d_turned_place, d_turned_edge, d_law_same, d_law_field, d_law_got, d_law_all_got, d_law_pull, d_law_of, d_mirrored_edge, d_law_flipped, d_law_turned, d_law_near, d_law_any, d_law_bag, d_law]
def fa : List He.Fa := [.glo "is_number", .glo "is_place", .glo "is_way", .glo "is_edge", .glo "need_edge", .glo "turned_place", .glo "turned_edge", .glo "_law_same", .glo "_law_field", .glo "_law_got", .glo "_law_all_got", .glo "_law_pull", .glo "_law_of", .glo "mirrored_edge", .glo "_law_flipped", .glo "_law_turned", .glo "_law_near", .glo "_law_any", .glo "_law_bag", .glo "law", .glo "WAYS", .glo "InvalidEdge", .glo "InkError", .glo "Missing", .glo "NothingLeft", .free "isinstance", .free "len", .free "int", .free "bool", .free "str", .free "list", .free "tuple", .free "dict", .free "set", .free "range", .free "zip", .free "enumerate", .free "abs", .free "all", .free "any", .free "sorted", .free "min", .free "max", .free "sum", .free "repr", .free "super"]
def xd : List He.XDef := [x_InvalidEdge]
def loose : List PySem.Str := (["__name__", "InkError", "Missing", "InvalidEdge", "NothingLeft", "WAYS", "is_number", "is_place", "is_way", "is_edge", "need_edge", "turned_place", "turned_edge", "mirrored_edge", "_law_bag", "_law_pull"] : List PySem.Str) ++ (["_law_of", "_law_same", "_law_field", "_law_got", "_law_all_got", "_law_near", "_law_any", "_law_turned", "_law_flipped"] : List PySem.Str)
abbrev R0 : PySem.W.OpenRow := PySem.W.OpenLaw.row PySem.Challenge.rw_inkfractions_k02_edges_turned
def ex : PySem.W.Frag → Bool := fun K => He.tupB K "WAYS" [.str "across", .str "up"] && exnB R0.prog K "InvalidEdge" "InvalidEdge.__init__" ["given", "code"] && xfkB K (He.ga K "InvalidEdge") ["code", "given"] && exmB K (He.ga K "InvalidEdge") [.ref (He.ga K "InkError"), .ref (He.ga K "Missing"), .ref (He.ga K "NothingLeft")] true && decide ([(He.cT K ("law", none)).2].Nodup)
abbrev tf : List He.Defn := [("law", none)]
def tq (K : PySem.W.Frag) : List (Addr × Str) := [((He.cT K ("law", none)).2, "law.<locals>.<lambda>")]
abbrev hk : PySem.W.Hook := He.hookY 4 fa fn tf xd ex
def ob (s : PySem.W.SharedT) : He.AlY := He.obsY 4 fa fn tf xd ex (HandSHeadRun.getT s)
theorem ob_eq (s : PySem.W.SharedT) : ob s = hk.obs s.abs := He.obsY_eq (HandSHeadRun.getT_eq s)
set_option maxHeartbeats 0 in
theorem run (w : World) : HandSHeadRun.RunEq R0 (PySem.W.view R0.prog [27]) hk ob 20000 loose w := by
  intro os
  kernel_rfl
theorem facts {w : World} {K : PySem.W.Frag} {h : Heap} {mg : Str → Option Value} {f : Addr} (X : K.In h) (G : h.Ns mainGlobals mg) (hfa : mg ("law" : Str) = some (.ref f)) (c : He.SaysY fa fn tf xd ex w h K) :
    ∃ fd : FuncData, (∀ (s : Shared) (v : Value), BindsTo s fd ⟨[v], []⟩ [("_law_script", v)]) ∧ ((tq K).map (·.1)).Nodup ∧ ∀ base : Heap, (∀ p ∈ tf.map (He.cT K), LamX.TabB base mg p.1 p.2) → FnOk R0.prog w K mg base CX0 9 f fd ["_law_script"] (toSp K (spLawT (tq K))) := by
  have B : Bn mg := ⟨He.free_ok X G (c.x.t.d.fact 25 rfl), He.free_ok X G (c.x.t.d.fact 26 rfl), He.free_ok X G (c.x.t.d.fact 27 rfl), He.free_ok X G (c.x.t.d.fact 28 rfl), He.free_ok X G (c.x.t.d.fact 29 rfl), He.free_ok X G (c.x.t.d.fact 30 rfl), He.free_ok X G (c.x.t.d.fact 31 rfl), He.free_ok X G (c.x.t.d.fact 32 rfl), He.free_ok X G (c.x.t.d.fact 33 rfl), He.free_ok X G (c.x.t.d.fact 34 rfl), He.free_ok X G (c.x.t.d.fact 35 rfl), He.free_ok X G (c.x.t.d.fact 36 rfl), He.free_ok X G (c.x.t.d.fact 37 rfl), He.free_ok X G (c.x.t.d.fact 38 rfl), He.free_ok X G (c.x.t.d.fact 39 rfl), He.free_ok X G (c.x.t.d.fact 40 rfl), He.free_ok X G (c.x.t.d.fact 41 rfl), He.free_ok X G (c.x.t.d.fact 42 rfl), He.free_ok X G (c.x.t.d.fact 43 rfl), He.free_ok X G (c.x.t.d.fact 44 rfl), He.free_ok X G (c.x.t.d.fact 45 rfl)⟩
  have g_WAYS : GTup K mg "WAYS" [.str "across", .str "up"] := gtup_of (show (He.tupB K "WAYS" [.str "across", .str "up"]) = true from (He.ba (He.ba (He.ba (He.ba c.x.more).1).1).1).1) (He.glo_ok X G (c.x.t.d.fact 20 rfl)) rfl
  have ex_InvalidEdge : ∀ base, Exn R0.prog w K mg base "InvalidEdge" (He.ga K "InvalidEdge") 1 [("given", .inl 0), ("code", .inr "InvalidEdge")] := fun base => exn_of (d := x_InvalidEdge) (N := ["self", "given", "__class__"]) (ps := ["self", "given"]) rfl (c.at 0 rfl) (show (exnB R0.prog K "InvalidEdge" "InvalidEdge.__init__" ["given", "code"]) = true from (He.ba (He.ba (He.ba (He.ba c.x.more).1).1).1).2) (He.glo_ok X G (c.x.t.d.fact 21 rfl)) B.super (by decide +kernel) (nscope_by (by decide +kernel)) rfl rfl rfl (by decide +kernel) (by decide +kernel) rfl (fun _ _ _ _ => rfl) (.var rfl (.inl rfl) (by decide) (by decide) (.str .nil)) (by simp) (by decide) (by decide) (by decide) (by simp) (fun _ _ _ _ _ _ _ us hl => match us, hl with | [_, _], _ => rfl)
  have g_InkError : mg "InkError" = some (.ref (He.ga K "InkError")) := He.glo_ok X G (c.x.t.d.fact 22 rfl)
  have g_Missing : mg "Missing" = some (.ref (He.ga K "Missing")) := He.glo_ok X G (c.x.t.d.fact 23 rfl)
  have g_NothingLeft : mg "NothingLeft" = some (.ref (He.ga K "NothingLeft")) := He.glo_ok X G (c.x.t.d.fact 24 rfl)
  have xf_InvalidEdge_code : XfK K (He.ga K "InvalidEdge") "code" := xfk_ok (show (xfkB K (He.ga K "InvalidEdge") ["code", "given"]) = true from (He.ba (He.ba (He.ba c.x.more).1).1).2) (by simp)
  have xf_InvalidEdge_given : XfK K (He.ga K "InvalidEdge") "given" := xfk_ok (show (xfkB K (He.ga K "InvalidEdge") ["code", "given"]) = true from (He.ba (He.ba (He.ba c.x.more).1).1).2) (by simp)
  have xm_InvalidEdge := exm_ok (show (exmB K (He.ga K "InvalidEdge") [.ref (He.ga K "InkError"), .ref (He.ga K "Missing"), .ref (He.ga K "NothingLeft")] true) = true from (He.ba (He.ba c.x.more).1).2)
  have I_is_number : DefIn K mg "is_number" "is_number" s_is_number := defIn_of (c.x.t.d.def_ 0 rfl) (He.glo_ok X G (c.x.t.d.fact 0 rfl))
  have I_is_place : DefIn K mg "is_place" "is_place" s_is_place := defIn_of (c.x.t.d.def_ 1 rfl) (He.glo_ok X G (c.x.t.d.fact 1 rfl))
  have I_is_way : DefIn K mg "is_way" "is_way" s_is_way := defIn_of (c.x.t.d.def_ 2 rfl) (He.glo_ok X G (c.x.t.d.fact 2 rfl))
  have I_is_edge : DefIn K mg "is_edge" "is_edge" s_is_edge := defIn_of (c.x.t.d.def_ 3 rfl) (He.glo_ok X G (c.x.t.d.fact 3 rfl))
  have I_need_edge : DefIn K mg "need_edge" "need_edge" s_need_edge := defIn_of (c.x.t.d.def_ 4 rfl) (He.glo_ok X G (c.x.t.d.fact 4 rfl))
  have I_turned_place : DefIn K mg "turned_place" "turned_place" s_turned_place := defIn_of (c.x.t.d.def_ 5 rfl) (He.glo_ok X G (c.x.t.d.fact 5 rfl))
  have I_turned_edge : DefIn K mg "turned_edge" "turned_edge" s_turned_edge := defIn_of (c.x.t.d.def_ 6 rfl) (He.glo_ok X G (c.x.t.d.fact 6 rfl))
  have I_law_same : DefIn K mg "_law_same" "_law_same" s_law_same := defIn_of (c.x.t.d.def_ 7 rfl) (He.glo_ok X G (c.x.t.d.fact 7 rfl))
  have I_law_field : DefIn K mg "_law_field" "_law_field" s_law_field := defIn_of (c.x.t.d.def_ 8 rfl) (He.glo_ok X G (c.x.t.d.fact 8 rfl))
  have I_law_got : DefIn K mg "_law_got" "_law_got" s_law_got := defIn_of (c.x.t.d.def_ 9 rfl) (He.glo_ok X G (c.x.t.d.fact 9 rfl))
  have I_law_all_got : DefIn K mg "_law_all_got" "_law_all_got" s_law_all_got := defIn_of (c.x.t.d.def_ 10 rfl) (He.glo_ok X G (c.x.t.d.fact 10 rfl))
  have I_law_pull : DefIn K mg "_law_pull" "_law_pull" s_law_pull := defIn_of (c.x.t.d.def_ 11 rfl) (He.glo_ok X G (c.x.t.d.fact 11 rfl))
  have I_law_of : DefIn K mg "_law_of" "_law_of" s_law_of := defIn_of (c.x.t.d.def_ 12 rfl) (He.glo_ok X G (c.x.t.d.fact 12 rfl))
  have I_mirrored_edge : DefIn K mg "mirrored_edge" "mirrored_edge" s_mirrored_edge := defIn_of (c.x.t.d.def_ 13 rfl) (He.glo_ok X G (c.x.t.d.fact 13 rfl))
  have I_law_flipped : DefIn K mg "_law_flipped" "_law_flipped" s_law_flipped := defIn_of (c.x.t.d.def_ 14 rfl) (He.glo_ok X G (c.x.t.d.fact 14 rfl))
  have I_law_turned : DefIn K mg "_law_turned" "_law_turned" s_law_turned := defIn_of (c.x.t.d.def_ 15 rfl) (He.glo_ok X G (c.x.t.d.fact 15 rfl))
  have I_law_near : DefIn K mg "_law_near" "_law_near" s_law_near := defIn_of (c.x.t.d.def_ 16 rfl) (He.glo_ok X G (c.x.t.d.fact 16 rfl))
  have I_law_any : DefIn K mg "_law_any" "_law_any" s_law_any := defIn_of (c.x.t.d.def_ 17 rfl) (He.glo_ok X G (c.x.t.d.fact 17 rfl))
  have I_law_bag : DefIn K mg "_law_bag" "_law_bag" s_law_bag := defIn_of (c.x.t.d.def_ 18 rfl) (He.glo_ok X G (c.x.t.d.fact 18 rfl))
  obtain ⟨fd, F⟩ := c.x.t.d.def_ 19 rfl
  have e : mg ("law" : Str) = some (.ref (He.fAd K ("law", none))) := He.glo_ok X G (c.x.t.d.fact 19 rfl)
  cases hfa.symm.trans e
  have b := FunD.bindsA (ps := ["_law_script"]) F fun _ _ _ _ _ _ us hl => match us, hl with | [_], _ => rfl
  refine ⟨fd, fun s v => b s [v] rfl, of_decide_eq_true (show (decide ([(He.cT K ("law", none)).2].Nodup)) = true from (He.ba c.x.more).2), fun base tb => ?_⟩
  have c_is_number := cal_is_number (P := R0.prog) (w := w) (base := base) B I_is_number
  have c_is_place := cal_is_place (P := R0.prog) (w := w) (base := base) B I_is_place c_is_number
  have c_is_way := cal_is_way (P := R0.prog) (w := w) (base := base) B I_is_way g_WAYS
  have c_is_edge := cal_is_edge (P := R0.prog) (w := w) (base := base) B I_is_edge c_is_place c_is_way
  have c_need_edge := cal_need_edge (P := R0.prog) (w := w) (base := base) B I_need_edge c_is_edge (ex_InvalidEdge base)
  have c_turned_place := cal_turned_place (P := R0.prog) (w := w) (base := base) B I_turned_place
  have c_turned_edge := cal_turned_edge (P := R0.prog) (w := w) (base := base) B I_turned_edge c_need_edge c_turned_place
  have c_law_same : Cal R0.prog w K mg base CX0 5 "_law_same" ["_law_found", "_law_due"] (sp_same 4) := cal_same B I_law_same 4
  have c_law_field := cal_field (P := R0.prog) (w := w) (base := base) B I_law_field
  have c_law_got := cal_got (k := 6) (by decide) (P := R0.prog) (w := w) (base := base) B I_law_got c_law_field g_InkError g_Missing g_NothingLeft
  have c_law_all_got := cal_all (P := R0.prog) (w := w) (base := base) B I_law_all_got c_law_got
  have c_law_pull : Cal R0.prog w K mg base CX0 1 "_law_pull" ["_law_bag_here", "_law_many"] sp_pull := cal_pull B I_law_pull
  have c_law_of : Cal R0.prog w K mg base CX0 2 "_law_of" ["_law_bag_here", "_law_some"] sp_of := cal_of B I_law_of c_law_pull
  have c_mirrored_edge := cal_mirrored_edge (P := R0.prog) (w := w) (base := base) B I_mirrored_edge c_need_edge
  have c_law_flipped := cal_law_flipped (P := R0.prog) (w := w) (base := base) B I_law_flipped
  have c_law_turned := cal_law_turned (P := R0.prog) (w := w) (base := base) B I_law_turned
  have c_law_near : Cal R0.prog w K mg base CX0 2 "_law_near" ["_law_bag_here", "_law_far"] sp_near := cal_near B I_law_near c_law_pull
  have c_law_any : Cal R0.prog w K mg base CX0 3 "_law_any" ["_law_bag_here"] sp_any := cal_any B I_law_any c_law_near c_law_of
  have c_law_bag : CalFr R0.prog w K mg base CX0 1 "_law_bag" ["_law_script"] sp_bag := cal_bag B I_law_bag
  have cg_mirrored_edge_0_edge : CalG R0.prog w K mg base (L2.CX R0.prog w) 5 "mirrored_edge" 0 ["edge"] (sp_mirrored_edge (He.ga K "InvalidEdge")) (gdP [.w 0] [] []) := (c_mirrored_edge.toD I_mirrored_edge).g (fun _ _ F => kb_mirrored_edge_0_edge F)
  have cg_turned_edge_0_quarters_edge : CalG R0.prog w K mg base (L2.CX R0.prog w) 5 "turned_edge" 0 ["quarters", "edge"] (sp_turned_edge (He.ga K "InvalidEdge")) (gdP [.w 1, .w 0] [] []) := (c_turned_edge.toD I_turned_edge).g (fun _ _ F => kb_turned_edge_0_quarters_edge F)
  exact law_hw B c_turned_edge c_law_same c_law_all_got (tb _ (by simp [tf])) c_law_of c_mirrored_edge cg_mirrored_edge_0_edge cg_turned_edge_0_quarters_edge c_law_flipped c_law_turned c_law_near c_law_any c_law_bag (fun _ _ => fn_0 B c_turned_edge) (fun _ _ => fn_1 B c_mirrored_edge) xm_InvalidEdge xf_InvalidEdge_code xf_InvalidEdge_given F codeIs_of
end LW
open PySem PySem.W PySem.Calls PyProof.Rows
theorem PySem.Challenge.cw_inkfractions_k02_edges_turned_holds : PySem.Challenge.rw_inkfractions_k02_edges_turned.Holds := by
  w_on; o_law
  refine HandSHeadRun.head_any (r := OpenLaw.row PySem.Challenge.rw_inkfractions_k02_edges_turned) (q := view (OpenLaw.row PySem.Challenge.rw_inkfractions_k02_edges_turned).prog [27]) (H := LW.hk) (ob := LW.ob) (M := 20000) (loose := LW.loose) (d := HandSHeadRun.topDef (OpenLaw.row PySem.Challenge.rw_inkfractions_k02_edges_turned).prog 27) (kwd := []) LW.ob_eq
    (by kernel_rfl) (fun s => by kernel_rfl) LW.run (by kernel_rfl) (by kernel_rfl) (by kernel_rfl) (by rfl) (by first | assumption | decide +kernel) (by decide +kernel) ⟨rfl, rfl, rfl, rfl, rfl, by decide +kernel⟩ ?hw ?hc
  case hw => w_witness2
  case hc =>
    refine LamX.walk_ofTsE (l := PySem.Challenge.rw_inkfractions_k02_edges_turned) (n := 63) (k := 9) (x := "_law_script") (CX := fun _ => L2.CX0) rfl (by decide) (by kernel_rfl) ⟨rfl, by decide, by decide⟩ ?F (fun _ _ _ _ _ z => z)
    intro w mg fa h Y G hmg0
    obtain ⟨K, KX, c⟩ := Y
    have hmg : mg ("law" : PySem.Str) = some (.ref fa) := by
      have e : (HandSHeadRun.topDef (OpenLaw.row PySem.Challenge.rw_inkfractions_k02_edges_turned).prog 27).name = ("law" : PySem.Str) := by kernel_rfl
      rw [← e]
      exact hmg0
    obtain ⟨fd, hb, hnd, hF⟩ := LW.facts (w := w) KX G hmg c
    refine ⟨K, KX, fd, LW.tf.map (He.cT K), DL.toSp K (DL.spLawT (LW.tq K)), fun p hp => ?_, fun p hp => ?_, fun p hp => ?_, hb, fun H a ns hl _ hH hS => DL.law_spT hnd (fun t ht => ?_) hl hS, fun base _ _ tb => hF base tb⟩
    · obtain ⟨q, hq, rfl⟩ := List.mem_map.mp hp
      exact c.x.empty q hq
    · obtain ⟨q, hq, rfl⟩ := List.mem_map.mp hp
      exact c.x.out q hq
    · obtain ⟨q, hq, rfl⟩ := List.mem_map.mp hp
      exact codeHd_of_K KX (c.x.hd q hq)
    · have key : ∀ t ∈ LW.tq K, t.1 ∈ (LW.tf.map (He.cT K)).map (·.2) := by simp [LW.tq, LW.tf]
      obtain ⟨q, hq, e⟩ := List.mem_map.mp (key t ht)
      rw [← e]
      exact hH q hq
