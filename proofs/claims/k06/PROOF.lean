import PyProof.Rows.All
import Wide.All
import OpenK.AllK
import Wide.FinOn
import HandS.ForMost
import HandS.ForExc
import HandS.Wide
import HandS.IsInst
import HandS.Defaults
import HandS.TupAny
import HandS.TupLe
import HandS.Lambda
import HandS.Conv
import HandS.CallSlots
import HandS.Style
import HandS.Zip
import HandS.Iter
import HandS.Head0
import HandS.Head1
import HandS.Head2
import HandS.HeadEnd
import HandS.HeadHook1
import HandS.HeadHook2
import HandS.HeadHook3
import HandS.HeadHook4
import HandS.TupLen
import HandS.Dict
import HandS.DictComp
import HandS.MakeKw
import HandS.MakeKwOnly
import KE.KDictPairs
import HandS.SlotsOwn
import KE.KEqDict
import HandS.TupSets
import HandS.FStr
import KE.GoesMore
import PyProof.Rows.Range3
import HandS.Codes
import KE.SortKeyHeap
import HandS.HeadWalk
import HandS.NestedK
import PySem.Challenge.RW_inkfractions_k06_first_and_last_marks
set_option Elab.async false
set_option linter.all false
set_option Elab.async false
set_option maxRecDepth 100000
set_option maxHeartbeats 2000000
/-! DL: data as trees over the hand layer. R: a value of the abstract heap stands for a tree; mutable objects are cells of a store, named by loc. -/
namespace DL
open PySem PySem.Spec PyProof.Rows L2
inductive D where
  | non | bl (b : Bool) | int (i : Int) | str (s : Str) | ty (n : String) | cst (a : Addr) | loc (i : Nat) | scr (ns : List Int)
  | lst (ds : List D) | tup (ds : List D) | ktp (ds : List D) | dk (es : List (Key × D)) | dt (es : List (List Key × D)) | obj (C : Addr) (fs : List (Str × D)) | tb (P : Addr) (q : Str)
abbrev Sto := List D
abbrev Loc := List (Option D)
def keyD : Key → D
  | .inl i => .int i
  | .inr s => .str s
/-- a list of the written part -/
def SqLK (K : PySem.W.Frag) (a : Addr) (xs : List V) : Prop :=
  ∃ (o : Obj) (its : Array Value) (n : Nat), K.lookup a = some o ∧ o.cls = .type "list" ∧ o.dict = none ∧ o.data = .seq its n ∧ its.size ≤ sizeLine ∧ Vals xs its.toList
/-- a tuple of the written part -/
def SqTK (K : PySem.W.Frag) (a : Addr) (xs : List V) : Prop :=
  ∃ (o : Obj) (its : Array Value) (n : Nat), K.lookup a = some o ∧ o.cls = .type "tuple" ∧ o.data = .seq its n ∧ its.size ≤ sizeLine ∧ Vals xs its.toList
section
variable (K : PySem.W.Frag) (M : Addr → Prop) (mu : List Addr) (H : Hp)
mutual
def R : D → V → Prop
  | .non, v => v = .non
  | .bl b, v => v = .bl b
  | .int i, v => v = .int i
  | .str s, v => v = .str s
  | .ty n, v => v = .ty n
  | .cst a, v => v = .ref a
  | .loc i, v => ∃ a, v = .ref a ∧ mu[i]? = some a
  | .scr ns, v => ∃ a, v = .ref a ∧ ((¬ M a ∧ L2.Rd H a (.lst (ns.map V.int))) ∨ SqLK K a (ns.map V.int))
  | .lst ds, v => ∃ a vs, v = .ref a ∧ ¬ M a ∧ H a = some (.lst vs) ∧ Rs ds vs
  | .tup ds, v => ∃ a vs, v = .ref a ∧ H a = some (.tup vs) ∧ Rs ds vs
  | .ktp ds, v => ∃ a vs, v = .ref a ∧ SqTK K a vs ∧ Rs ds vs
  | .dk kvs, v => ∃ a od es, v = .ref a ∧ H a = some (.frz od (.dK es)) ∧ es.map (·.1) = kvs.map (·.1) ∧ Rk kvs (es.map (·.2))
  | .dt kvs, v => ∃ a od es, v = .ref a ∧ H a = some (.frz od (.dT es)) ∧ es.map (·.1) = kvs.map (·.1) ∧ Rt kvs (es.map (·.2))
  | .obj C fs, v => ∃ a dx gs, v = .ref a ∧ ¬ M a ∧ H a = some (.ins C dx gs) ∧ gs.map (·.1) = fs.map (·.1) ∧ Rfs fs (gs.map (·.2))
  | .tb _ _, _ => False
def Rs : List D → List V → Prop
  | [], vs => vs = []
  | d :: ds, vs => ∃ v r, vs = v :: r ∧ R d v ∧ Rs ds r
def Rk : List (Key × D) → List V → Prop
  | [], vs => vs = []
  | (_, d) :: ds, vs => ∃ v r, vs = v :: r ∧ R d v ∧ Rk ds r
def Rt : List (List Key × D) → List V → Prop
  | [], vs => vs = []
  | (_, d) :: ds, vs => ∃ v r, vs = v :: r ∧ R d v ∧ Rt ds r
def Rfs : List (Str × D) → List V → Prop
  | [], vs => vs = []
  | (_, d) :: ds, vs => ∃ v r, vs = v :: r ∧ R d v ∧ Rfs ds r
end
/-- the table of code objects at P: each that it tells bears the name q, and is no cell -/
def TabM (P : Addr) (q : Str) : Prop := ∃ ps : Array Value, H P = some (.tbl ps) ∧ TriplesOk ps.toList ∧ ∀ (pos : Pos) (cv : Value), codeAmong pos ps.toList = some cv → ∃ c, cv = .ref c ∧ ¬ M c ∧ H c = some (LamX.CodeO c q)
/-- what stands at a cell's address -/
def Cl : D → Addr → Prop
  | .lst ds, a => ∃ vs, H a = some (.lst vs) ∧ Rs K M mu H ds vs
  | .dk kvs, a => ∃ es, H a = some (.dK es) ∧ es.map (·.1) = kvs.map (·.1) ∧ Rk K M mu H kvs (es.map (·.2))
  | .dt kvs, a => ∃ es, H a = some (.dT es) ∧ es.map (·.1) = kvs.map (·.1) ∧ Rt K M mu H kvs (es.map (·.2))
  | .obj C fs, a => ∃ dx gs, H a = some (.ins C dx gs) ∧ gs.map (·.1) = fs.map (·.1) ∧ Rfs K M mu H fs (gs.map (·.2))
  | .tb P q, a => a = P ∧ TabM M H P q
  | .non, _ => True
  | _, _ => False
structure Wok (S : Sto) : Prop where
  len : S.length = mu.length
  sub : ∀ a ∈ mu, M a
  nd : mu.Nodup
  tr : ∀ a, M a → H a ≠ none
  at_ : ∀ (i : Nat) a d, mu[i]? = some a → S[i]? = some d → Cl K M mu H d a
structure Env (ρ : Loc) (σ : L2.St) : Prop where
  len : ρ.length = σ.length
  get : ∀ (i : Nat) d, ρ[i]? = some (some d) → ∃ v, σ[i]? = some (some v) ∧ R K M mu H d v
end
/-- frozen, or a tuple: it stays for good -/
def isF (o : HO) : Prop := (∃ od u, o = .frz od u) ∨ ∃ xs, o = .tup xs
theorem isF_tup {xs : List V} : isF (.tup xs) := .inr ⟨xs, rfl⟩
theorem isF_frz {od : Obj} {u : HO} : isF (.frz od u) := .inl ⟨od, u, rfl⟩
/-- all but the cells is kept, and what is frozen -/
def Keep (mu : List Addr) (H H' : Hp) : Prop := ∀ b o, H b = some o → (b ∉ mu ∨ isF o) → H' b = some o
theorem Keep.refl (mu : List Addr) (H : Hp) : Keep mu H H := fun _ _ h _ => h
theorem Keep.trans {mu : List Addr} {H H1 H2 : Hp} (a : Keep mu H H1) (b : Keep mu H1 H2) : Keep mu H H2 := fun c o h n => b c o (a c o h n) n
theorem Keep.same {mu : List Addr} {H H1 : Hp} (a : Same H H1) : Keep mu H H1 := fun c o h _ => a c o h
/-- what trees lean on -/
structure Ext0 (M : Addr → Prop) (mu : List Addr) (H : Hp) (M' : Addr → Prop) (mu' : List Addr) (H' : Hp) : Prop where
  keepM : ∀ b o, H b = some o → (¬ M b ∨ isF o) → H' b = some o
  pre : ∃ l, mu' = mu ++ l
  dn : ∀ a, M' a → M a ∨ H a = none
/-- the world has grown -/
structure Ext (M : Addr → Prop) (mu : List Addr) (H : Hp) (M' : Addr → Prop) (mu' : List Addr) (H' : Hp) : Prop extends Ext0 M mu H M' mu' H' where
  keep : Keep mu H H'
  new : ∀ a ∈ mu', a ∈ mu ∨ H a = none
  up : ∀ a, M a → M' a
  sub : ∀ a ∈ mu, M a
theorem Ext.of {M : Addr → Prop} {mu : List Addr} {H H' : Hp} (s : ∀ a ∈ mu, M a) (k : Keep mu H H') : Ext M mu H M mu H' := ⟨⟨fun b o h n => k b o h (n.imp (fun n z => n (s b z)) id), ⟨[], by simp⟩, fun _ h => .inl h⟩, k, fun _ h => .inl h, fun _ h => h, s⟩
theorem Ext.refl {M : Addr → Prop} {mu : List Addr} {H : Hp} (s : ∀ a ∈ mu, M a) : Ext M mu H M mu H := .of s (.refl _ _)
theorem Ext.back {M M' : Addr → Prop} {mu mu' : List Addr} {H H' : Hp} (e : Ext M mu H M' mu' H') {a : Addr} (h : H' a = none) (n : a ∉ mu) : H a = none := by
  cases q : H a with
  | none => rfl
  | some o => rw [e.keep a o q (.inl n)] at h; cases h
theorem Ext.trans {M M1 M2 : Addr → Prop} {mu mu1 mu2 : List Addr} {H H1 H2 : Hp} (a : Ext M mu H M1 mu1 H1) (b : Ext M1 mu1 H1 M2 mu2 H2) : Ext M mu H M2 mu2 H2 := by
  have kp : Keep mu H H2 := fun c o h n => b.keep c o (a.keep c o h n) (n.imp (fun n z => by
    rcases a.new c z with q | q
    · exact n q
    · rw [h] at q; cases q) id)
  refine ⟨⟨fun c o h n => kp c o h (n.imp (fun n z => n (a.sub c z)) id), ?_, fun c h => ?_⟩, kp, fun c hc => ?_, fun c h => b.up c (a.up c h), a.sub⟩
  · obtain ⟨l, rfl⟩ := a.pre
    obtain ⟨l', rfl⟩ := b.pre
    exact ⟨l ++ l', by rw [List.append_assoc]⟩
  · rcases b.dn c h with q | q
    · exact a.dn c q
    · by_cases n : c ∈ mu
      · exact .inl (a.sub c n)
      · exact .inr (a.back q n)
  · rcases b.new c hc with q | q
    · exact a.new c q
    · by_cases n : c ∈ mu
      · exact .inl n
      · exact .inr (a.back q n)
section
variable {K : PySem.W.Frag} {M M' : Addr → Prop} {mu mu' : List Addr} {H H' : Hp}
theorem Ext0.okM (e : Ext0 M mu H M' mu' H') {a : Addr} {o : HO} (n : ¬ M a) (h : H a = some o) : ¬ M' a ∧ H' a = some o :=
  ⟨fun z => (e.dn a z).elim n fun q => (by rw [h] at q; cases q), e.keepM a o h (.inl n)⟩
theorem Ext0.at_ (e : Ext0 M mu H M' mu' H') {i : Nat} {a : Addr} (h : mu[i]? = some a) : mu'[i]? = some a := by
  obtain ⟨l, rfl⟩ := e.pre
  rw [List.getElem?_append_left (List.getElem?_eq_some_iff.mp h).1]
  exact h
mutual
theorem R.mono (e : Ext0 M mu H M' mu' H') : ∀ (d : D) (v : V), R K M mu H d v → R K M' mu' H' d v
  | .non, v, h => h
  | .bl b, v, h => h
  | .int i, v, h => h
  | .str s, v, h => h
  | .ty n, v, h => h
  | .cst a, v, h => h
  | .loc i, v, ⟨a, h1, h2⟩ => ⟨a, h1, e.at_ h2⟩
  | .scr ns, v, ⟨a, h1, h2⟩ => ⟨a, h1, h2.imp (fun ⟨m, q⟩ => q.elim (fun q => ⟨(e.okM m q).1, .inl (e.okM m q).2⟩) (fun ⟨o, q⟩ => ⟨(e.okM m q).1, .inr ⟨o, (e.okM m q).2⟩⟩)) id⟩
  | .lst ds, v, ⟨a, vs, h1, h2, h3, h4⟩ => ⟨a, vs, h1, (e.okM h2 h3).1, (e.okM h2 h3).2, Rs.mono e ds vs h4⟩
  | .tup ds, v, ⟨a, vs, h1, h2, h4⟩ => ⟨a, vs, h1, e.keepM a _ h2 (.inr isF_tup), Rs.mono e ds vs h4⟩
  | .ktp ds, v, ⟨a, vs, h1, h2, h4⟩ => ⟨a, vs, h1, h2, Rs.mono e ds vs h4⟩
  | .dk kvs, v, ⟨a, od, es, h1, h3, h4, h5⟩ => ⟨a, od, es, h1, e.keepM a _ h3 (.inr isF_frz), h4, Rk.mono e kvs _ h5⟩
  | .dt kvs, v, ⟨a, od, es, h1, h3, h4, h5⟩ => ⟨a, od, es, h1, e.keepM a _ h3 (.inr isF_frz), h4, Rt.mono e kvs _ h5⟩
  | .obj C fs, v, ⟨a, dx, gs, h1, h2, h3, h4, h5⟩ => ⟨a, dx, gs, h1, (e.okM h2 h3).1, (e.okM h2 h3).2, h4, Rfs.mono e fs _ h5⟩
  | .tb _ _, _, h => h
theorem Rs.mono (e : Ext0 M mu H M' mu' H') : ∀ (ds : List D) (vs : List V), Rs K M mu H ds vs → Rs K M' mu' H' ds vs
  | [], vs, h => h
  | d :: ds, vs, ⟨v, r, h1, h2, h3⟩ => ⟨v, r, h1, R.mono e d v h2, Rs.mono e ds r h3⟩
theorem Rk.mono (e : Ext0 M mu H M' mu' H') : ∀ (ds : List (Key × D)) (vs : List V), Rk K M mu H ds vs → Rk K M' mu' H' ds vs
  | [], vs, h => h
  | (_, d) :: ds, vs, ⟨v, r, h1, h2, h3⟩ => ⟨v, r, h1, R.mono e d v h2, Rk.mono e ds r h3⟩
theorem Rt.mono (e : Ext0 M mu H M' mu' H') : ∀ (ds : List (List Key × D)) (vs : List V), Rt K M mu H ds vs → Rt K M' mu' H' ds vs
  | [], vs, h => h
  | (_, d) :: ds, vs, ⟨v, r, h1, h2, h3⟩ => ⟨v, r, h1, R.mono e d v h2, Rt.mono e ds r h3⟩
theorem Rfs.mono (e : Ext0 M mu H M' mu' H') : ∀ (ds : List (Str × D)) (vs : List V), Rfs K M mu H ds vs → Rfs K M' mu' H' ds vs
  | [], vs, h => h
  | (_, d) :: ds, vs, ⟨v, r, h1, h2, h3⟩ => ⟨v, r, h1, R.mono e d v h2, Rfs.mono e ds r h3⟩
end
theorem TabM.mono (e : Ext0 M mu H M' mu' H') {P : Addr} {q : Str} (hq : H' P = H P) (t : TabM M H P q) : TabM M' H' P q := by
  obtain ⟨ps, h1, h2, h3⟩ := t
  refine ⟨ps, hq.trans h1, h2, fun pos cv hc => ?_⟩
  obtain ⟨c, e1, n, e2⟩ := h3 pos cv hc
  exact ⟨c, e1, (e.okM n e2).1, (e.okM n e2).2⟩
theorem Env.mono (e : Ext0 M mu H M' mu' H') {ρ : Loc} {σ : L2.St} (h : Env K M mu H ρ σ) : Env K M' mu' H' ρ σ := ⟨h.len, fun i d q => by
  obtain ⟨v, h1, h2⟩ := h.get i d q
  exact ⟨v, h1, R.mono e d v h2⟩⟩
end
end DL
set_option maxRecDepth 100000
set_option maxHeartbeats 2000000
namespace DL
open PySem PySem.Spec PyProof.Rows L2
abbrev Ex := Addr → List (Str × D) → Sto → Prop
abbrev DK := D → Sto → Prop
abbrev DW := Loc → Sto → DK → Ex → Prop
abbrev DWA := Loc → Sto → (List D → Sto → Prop) → Ex → Prop
abbrev DWT := Loc → Sto → (Bool → Sto → Prop) → Ex → Prop
section
variable (K : PySem.W.Frag) (M : Addr → Prop) (mu : List Addr) (H : Hp)
/-- an exception as a tree: its class, its fields -/
def XR (C : Value) (d : Option Addr) (c : Addr) (fs : List (Str × D)) : Prop :=
  C = .ref c ∧ ∃ a gs, d = some a ∧ ¬ M a ∧ H a = some (.xd gs) ∧ gs.map (·.1) = fs.map (·.1) ∧ Rfs K M mu H fs (gs.map (·.2))
def Nrm (P : DK) (Q : VK) : Prop := ∀ v H' d S', Keep mu H H' → Wok K M mu H' S' → R K M mu H' d v → P d S' → Q v H'
def NrmA (P : List D → Sto → Prop) (Q : List V → Hp → Prop) : Prop := ∀ v H' d S', Keep mu H H' → Wok K M mu H' S' → Rs K M mu H' d v → P d S' → Q v H'
def NrmT (P : Bool → Sto → Prop) (Q : Bool → Hp → Prop) : Prop := ∀ b H' S', Keep mu H H' → Wok K M mu H' S' → P b S' → Q b H'
def Exc (E : Ex) (W : Value → Option Addr → Hp → Prop) : Prop := ∀ C d H' c fs S', Keep mu H H' → Wok K M mu H' S' → XR K M mu H' C d c fs → E c fs S' → W C d H'
end
structure Rd (K : PySem.W.Frag) (W : WX) (t : TE) (w : DW) : Prop where
  run : ∀ (M : Addr → Prop) (mu : List Addr) (σ : L2.St) (ρ : Loc) (S : Sto) (H : Hp) (P : DK) (E : Ex) (Q : VK), Wok K M mu H S → Env K M mu H ρ σ → w ρ S P E → Nrm K M mu H P Q → Exc K M mu H E (fun C d H' => W C d σ H') → t σ H Q
structure RdA (K : PySem.W.Frag) (W : WX) (t : TA) (w : DWA) : Prop where
  run : ∀ (M : Addr → Prop) (mu : List Addr) (σ : L2.St) (ρ : Loc) (S : Sto) (H : Hp) (P : List D → Sto → Prop) (E : Ex) (Q : List V → Hp → Prop), Wok K M mu H S → Env K M mu H ρ σ → w ρ S P E → NrmA K M mu H P Q → Exc K M mu H E (fun C d H' => W C d σ H') → t σ H Q
structure RdT (K : PySem.W.Frag) (W : WX) (t : TT) (w : DWT) : Prop where
  run : ∀ (M : Addr → Prop) (mu : List Addr) (σ : L2.St) (ρ : Loc) (S : Sto) (H : Hp) (P : Bool → Sto → Prop) (E : Ex) (Q : Bool → Hp → Prop), Wok K M mu H S → Env K M mu H ρ σ → w ρ S P E → NrmT K M mu H P Q → Exc K M mu H E (fun C d H' => W C d σ H') → t σ H Q
structure DE (X : Cx) (W : WX) (e : Expr) (w : DW) : Prop where
  ex : ∃ t, PE X e t ∧ Rd X.K W t w
structure DA (X : Cx) (W : WX) (es : List Expr) (w : DWA) : Prop where
  ex : ∃ t, PA X es t ∧ RdA X.K W t w
structure DT (X : Cx) (W : WX) (e : Expr) (w : DWT) : Prop where
  ex : ∃ t, PT X e t ∧ RdT X.K W t w
structure DTW (X : Cx) (W : WX) (e : Expr) (w : DWT) : Prop where
  ex : ∃ t, PW X e t ∧ RdT X.K W t w
section
variable {K : PySem.W.Frag} {M : Addr → Prop} {mu : List Addr} {H H' : Hp} {S : Sto}
theorem Wok.ext (w : Wok K M mu H S) (k : Keep mu H H') : Ext M mu H M mu H' := .of w.sub k
theorem R.keep (w : Wok K M mu H S) (k : Keep mu H H') {d : D} {v : V} (r : R K M mu H d v) : R K M mu H' d v := R.mono (w.ext k).toExt0 d v r
theorem Rs.keep (w : Wok K M mu H S) (k : Keep mu H H') {d : List D} {v : List V} (r : Rs K M mu H d v) : Rs K M mu H' d v := Rs.mono (w.ext k).toExt0 d v r
theorem Env.keep (w : Wok K M mu H S) (k : Keep mu H H') {ρ : Loc} {σ : L2.St} (r : Env K M mu H ρ σ) : Env K M mu H' ρ σ := r.mono (w.ext k).toExt0
theorem Nrm.mono {P : DK} {Q : VK} (k : Keep mu H H') (n : Nrm K M mu H P Q) : Nrm K M mu H' P Q := fun v H2 d S' k2 => n v H2 d S' (k.trans k2)
theorem NrmA.mono {P : List D → Sto → Prop} {Q : List V → Hp → Prop} (k : Keep mu H H') (n : NrmA K M mu H P Q) : NrmA K M mu H' P Q := fun v H2 d S' k2 => n v H2 d S' (k.trans k2)
theorem NrmT.mono {P : Bool → Sto → Prop} {Q : Bool → Hp → Prop} (k : Keep mu H H') (n : NrmT K M mu H P Q) : NrmT K M mu H' P Q := fun b H2 S' k2 => n b H2 S' (k.trans k2)
theorem Exc.mono {E : Ex} {W : Value → Option Addr → Hp → Prop} (k : Keep mu H H') (n : Exc K M mu H E W) : Exc K M mu H' E W := fun C d H2 c fs S' k2 => n C d H2 c fs S' (k.trans k2)
theorem Rs.len : ∀ {ds : List D} {vs : List V}, Rs K M mu H ds vs → ds.length = vs.length
  | [], _, h => by rw [show _ = [] from h]; rfl
  | _ :: ds, _, ⟨v, r, e, _, t⟩ => by rw [e, List.length_cons, List.length_cons, Rs.len t]
theorem Rs.app : ∀ {ds es : List D} {vs us : List V}, Rs K M mu H ds vs → Rs K M mu H es us → Rs K M mu H (ds ++ es) (vs ++ us)
  | [], _, _, _, h, q => by rw [show _ = [] from h]; exact q
  | _ :: ds, _, _, _, ⟨v, r, e, a, t⟩, q => ⟨v, r ++ _, by rw [e]; rfl, a, Rs.app t q⟩
theorem Rs.get : ∀ {ds : List D} {vs : List V} {i : Nat} {d : D}, Rs K M mu H ds vs → ds[i]? = some d → ∃ v, vs[i]? = some v ∧ R K M mu H d v
  | [], _, _, _, _, h => by simp at h
  | x :: ds, _, 0, d, ⟨v, r, e, a, t⟩, h => by
    have h' : x = d := by simpa using h
    subst h'
    exact ⟨v, by rw [e]; rfl, a⟩
  | _ :: ds, _, i + 1, d, ⟨v, r, e, a, t⟩, h => by
    obtain ⟨u, h1, h2⟩ := Rs.get (i := i) (d := d) t (by simpa using h)
    exact ⟨u, by rw [e]; simpa using h1, h2⟩
theorem Rs.getV : ∀ {ds : List D} {vs : List V} {i : Nat} {v : V}, Rs K M mu H ds vs → vs[i]? = some v → ∃ d, ds[i]? = some d ∧ R K M mu H d v
  | [], _, i, _, e, h => by rw [show _ = [] from e] at h; simp at h
  | x :: ds, _, 0, v, ⟨u, r, e, a, t⟩, h => by
    rw [e] at h
    have h' : u = v := by simpa using h
    subst h'
    exact ⟨x, rfl, a⟩
  | _ :: ds, _, i + 1, v, ⟨u, r, e, a, t⟩, h => by
    rw [e] at h
    obtain ⟨d, h1, h2⟩ := Rs.getV (i := i) (v := v) t (by simpa using h)
    exact ⟨d, by simpa using h1, h2⟩
theorem Rs.take : ∀ {ds : List D} {vs : List V} (n : Nat), Rs K M mu H ds vs → Rs K M mu H (ds.take n) (vs.take n)
  | _, _, 0, _ => by simp only [List.take_zero]; rfl
  | [], _, n + 1, e => by rw [show _ = [] from e]; exact rfl
  | x :: ds, _, n + 1, ⟨u, r, e, a, t⟩ => ⟨u, r.take n, by rw [e]; rfl, a, Rs.take n t⟩
theorem Rs.drop : ∀ {ds : List D} {vs : List V} (n : Nat), Rs K M mu H ds vs → Rs K M mu H (ds.drop n) (vs.drop n)
  | _, _, 0, h => h
  | [], _, n + 1, e => by rw [show _ = [] from e]; exact rfl
  | x :: ds, _, n + 1, ⟨u, r, e, a, t⟩ => by rw [e]; exact Rs.drop n t
theorem Rs.set {d : D} {v : V} (hr : R K M mu H d v) : ∀ {ds : List D} {vs : List V} (n : Nat), Rs K M mu H ds vs → Rs K M mu H (ds.set n d) (vs.set n v)
  | [], _, n, e => by rw [show _ = [] from e]; exact rfl
  | x :: ds, _, 0, ⟨u, r, e, a, t⟩ => ⟨v, r, by rw [e]; rfl, hr, t⟩
  | x :: ds, _, n + 1, ⟨u, r, e, a, t⟩ => ⟨u, r.set n v, by rw [e]; rfl, a, Rs.set hr n t⟩
theorem notF_lst {H : Hp} {a : Addr} {xs : List V} (h : H a = some (.lst xs)) : ∀ q, H a = some q → ¬ isF q := fun q e z => by
  rw [h] at e
  rcases z with ⟨od, u, z⟩ | ⟨xs, z⟩ <;> (rw [z] at e; cases e)
theorem notF_dK {H : Hp} {a : Addr} {xs : List (Key × V)} (h : H a = some (.dK xs)) : ∀ q, H a = some q → ¬ isF q := fun q e z => by
  rw [h] at e
  rcases z with ⟨od, u, z⟩ | ⟨xs, z⟩ <;> (rw [z] at e; cases e)
theorem notF_dT {H : Hp} {a : Addr} {xs : List (List Key × V)} (h : H a = some (.dT xs)) : ∀ q, H a = some q → ¬ isF q := fun q e z => by
  rw [h] at e
  rcases z with ⟨od, u, z⟩ | ⟨xs, z⟩ <;> (rw [z] at e; cases e)
theorem notF_ins {H : Hp} {a C dx : Addr} {fs : List (Str × V)} (h : H a = some (.ins C dx fs)) : ∀ q, H a = some q → ¬ isF q := fun q e z => by
  rw [h] at e
  rcases z with ⟨od, u, z⟩ | ⟨xs, z⟩ <;> (rw [z] at e; cases e)
theorem Cl.keep (w : Wok K M mu H S) (k : Keep mu H H') {d : D} {a : Addr} (q : H' a = H a) (h : Cl K M mu H d a) : Cl K M mu H' d a := by
  have e := (w.ext k).toExt0
  cases d with
  | lst ds => obtain ⟨vs, h1, h2⟩ := h; exact ⟨vs, q.trans h1, Rs.mono e _ _ h2⟩
  | dk kvs => obtain ⟨es, h1, h2, h3⟩ := h; exact ⟨es, q.trans h1, h2, Rk.mono e _ _ h3⟩
  | dt kvs => obtain ⟨es, h1, h2, h3⟩ := h; exact ⟨es, q.trans h1, h2, Rt.mono e _ _ h3⟩
  | obj C fs => obtain ⟨dx, gs, h1, h2, h3⟩ := h; exact ⟨dx, gs, q.trans h1, h2, Rfs.mono e _ _ h3⟩
  | tb P z => obtain ⟨rfl, h⟩ := h; exact ⟨rfl, TabM.mono e q h⟩
  | _ => exact h
theorem Wok.alloc (w : Wok K M mu H S) {p : Addr} (hp : H p = none) (o : HO) : Wok K M mu (upd H p o) S ∧ Keep mu H (upd H p o) ∧ ¬ M p := by
  have k : Keep mu H (upd H p o) := fun b q h _ => by rw [upd_ne (ne_of_none h hp)]; exact h
  refine ⟨⟨w.len, w.sub, w.nd, fun a h => ?_, fun i a d h1 h2 => ?_⟩, k, fun h => w.tr p h hp⟩
  · by_cases e : a = p
    · rw [e, upd_same]; simp
    · rw [upd_ne e]; exact w.tr a h
  · have c := w.at_ i a d h1 h2
    have n : a ≠ p := fun e => w.tr a (w.sub a (List.mem_of_getElem? h1)) (by rw [e]; exact hp)
    exact c.keep w k (upd_ne n)
/-- a new list, a new tuple -/
theorem newL (w : Wok K M mu H S) {p : Addr} (hp : H p = none) {ds : List D} {vs : List V} (r : Rs K M mu H ds vs) : R K M mu (upd H p (.lst vs)) (.lst ds) (.ref p) :=
  let ⟨_, k, n⟩ := w.alloc hp (.lst vs)
  ⟨p, vs, rfl, n, upd_same, Rs.mono (w.ext k).toExt0 _ _ r⟩
theorem newT (w : Wok K M mu H S) {p : Addr} (hp : H p = none) {ds : List D} {vs : List V} (r : Rs K M mu H ds vs) : R K M mu (upd H p (.tup vs)) (.tup ds) (.ref p) :=
  let ⟨_, k, n⟩ := w.alloc hp (.tup vs)
  ⟨p, vs, rfl, upd_same, Rs.mono (w.ext k).toExt0 _ _ r⟩
/-- what a tree is worth: a cell's content -/
def cont (c z : D) : D := match c with
  | .lst ds => .lst ds
  | .dk ds => .dk ds
  | .dt ds => .dt ds
  | .obj C ds => .obj C ds
  | _ => z
def val (S : Sto) : D → D
  | .loc i => cont (S.getD i .non) (.loc i)
  | .ktp ds => .tup ds
  | d => d
theorem val_loc {S : Sto} {i : Nat} {c : D} (h : val S (.loc i) = c) (n : c ≠ .loc i) : S[i]? = some c := by
  have h' : cont (S.getD i .non) (.loc i) = c := h
  rw [List.getD_eq_getElem?_getD] at h'
  cases e : S[i]? with
  | none => rw [e] at h'; exact absurd h'.symm n
  | some x =>
    rw [e] at h'
    cases x with
    | lst _ => exact congrArg some h'
    | dk _ => exact congrArg some h'
    | dt _ => exact congrArg some h'
    | obj _ _ => exact congrArg some h'
    | _ => exact absurd h'.symm n
theorem val_ne_non {S : Sto} {i : Nat} : val S (.loc i) ≠ .non := fun h => by
  have h' : cont (S.getD i .non) (.loc i) = .non := h
  cases q : S.getD i .non <;> rw [q] at h' <;> simp [cont] at h'
theorem seq_lst (w : Wok K M mu H S) {x : D} {v : V} {ds : List D} (r : R K M mu H x v) (e : val S x = .lst ds) : ∃ a vs, v = .ref a ∧ H a = some (.lst vs) ∧ Rs K M mu H ds vs := by
  cases x with
  | loc i =>
    obtain ⟨a, h1, h2⟩ := r
    obtain ⟨vs, h3, h4⟩ : Cl K M mu H (.lst ds) a := w.at_ i a _ h2 (val_loc e (by simp))
    exact ⟨a, vs, h1, h3, h4⟩
  | lst es =>
    have e' : es = ds := by simpa [val] using e
    subst e'
    obtain ⟨a, vs, h1, _, h3, h4⟩ := r
    exact ⟨a, vs, h1, h3, h4⟩
  | _ => simp [val] at e
theorem SqTK.to {a : Addr} {xs : List V} (h : SqTK K a xs) : SqT K H a xs := .inr h
theorem seq_tup (w : Wok K M mu H S) {x : D} {v : V} {ds : List D} (r : R K M mu H x v) (e : val S x = .tup ds) : ∃ a vs, v = .ref a ∧ SqT K H a vs ∧ Rs K M mu H ds vs := by
  cases x with
  | loc i =>
    obtain ⟨a, h1, h2⟩ := r
    exact (show False from w.at_ i a _ h2 (val_loc e (by simp))).elim
  | tup es =>
    have e' : es = ds := by simpa [val] using e
    subst e'
    obtain ⟨a, vs, h1, h3, h4⟩ := r
    exact ⟨a, vs, h1, SqT.of h3, h4⟩
  | ktp es =>
    have e' : es = ds := by simpa [val] using e
    subst e'
    obtain ⟨a, vs, h1, h3, h4⟩ := r
    exact ⟨a, vs, h1, h3.to, h4⟩
  | _ => simp [val] at e
end
end DL
set_option maxRecDepth 100000
set_option maxHeartbeats 2000000
namespace DL
open PySem PySem.Spec PyProof.Rows L2
/-! ### names, constants -/
def wVar (i : Nat) : DW := fun ρ S P _ => match ρ.getD i none with
  | some d => P d S
  | none => False
def wC (d : D) : DW := fun _ S P _ => P d S
section
variable {X : Cx} {W : WX} {e a b c : Expr} {es : List Expr} {wa wb wc : DW} {w : DWA} {pos : Pos}
theorem de_of {t : TE} {w : DW} (h : PE X e t) (r : Rd X.K W t w) : DE X W e w := ⟨t, h, r⟩
theorem de_var (i : Nat) (h : PE X e (tVar i)) : DE X W e (wVar i) := ⟨_, h, ⟨fun M mu σ ρ S H P E Q ok en hw n _ => by
  unfold wVar at hw
  rw [List.getD_eq_getElem?_getD] at hw
  cases q : ρ[i]? with
  | none => rw [q] at hw; exact hw.elim
  | some o =>
    cases o with
    | none => rw [q] at hw; exact hw.elim
    | some d =>
      rw [q] at hw
      obtain ⟨v, h1, h2⟩ := en.get i d q
      exact ⟨v, h1, n v H d S (.refl _ _) ok h2 hw⟩⟩⟩
theorem de_tC {v : V} {d : D} (hr : ∀ M mu H, R X.K M mu H d v) (h : PE X e (tC v)) : DE X W e (wC d) := ⟨_, h, ⟨fun M mu σ ρ S H P E Q ok en hw n _ => n v H d S (.refl _ _) ok (hr M mu H) hw⟩⟩
theorem de_int {i : Int} {j : Nat} : DE X W (.Constant (.int i) j pos) (wC (.int i)) := de_tC (fun _ _ _ => rfl) pe_int
theorem de_str {s : Str} {j : Nat} : DE X W (.Constant (.str s) j pos) (wC (.str s)) := de_tC (fun _ _ _ => rfl) pe_str
theorem de_bl {i : Bool} {j : Nat} : DE X W (.Constant (.bool i) j pos) (wC (.bl i)) := de_tC (fun _ _ _ => rfl) pe_bl
theorem de_non {j : Nat} : DE X W (.Constant .none j pos) (wC .non) := de_tC (fun _ _ _ => rfl) pe_non
/-- a global that stands for d whatever the heap is -/
theorem de_glob {x : Str} {v : V} {u : Value} {d : D} (hg : Gl X x) (hm : X.mg x = some u) (r : RelV v u) (hr : ∀ M mu H, R X.K M mu H d v) (hd : (x == ("__debug__" : Str)) = false := by decide) : DE X W (.Name x pos) (wC d) := de_tC hr (pe_glob hg hm r hd)
/-- a built-in type as a value -/
theorem de_ty {x : Str} {n : String} (hg : Gl X x) (hm : X.mg x = none) (hv : bootBuiltins x = some (.type n)) (hn : x ≠ "__name__" := by decide) (hd : (x == ("__debug__" : Str)) = false := by decide) : DE X W (.Name x pos) (wC (.ty n)) :=
  de_tC (fun _ _ _ => rfl) (pe_bltn (v := .ty n) hg hm hv rfl hn hd)
/-! ### two in a row -/
def wSeq {α β : Type} (wa : Loc → Sto → (α → Sto → Prop) → Ex → Prop) (k : α → Loc → Sto → (β → Sto → Prop) → Ex → Prop) : Loc → Sto → (β → Sto → Prop) → Ex → Prop := fun ρ S P E => wa ρ S (fun x S1 => k x ρ S1 P E) E
/-! ### argument lists, displays -/
def wNil : DWA := fun _ S P _ => P [] S
def wCons (wa : DW) (w : DWA) : DWA := fun ρ S P E => wa ρ S (fun x S1 => w ρ S1 (fun xs S2 => P (x :: xs) S2) E) E
theorem da_nil : DA X W [] wNil := ⟨_, pa_nil, ⟨fun M mu σ ρ S H P E Q ok en hw n _ => n [] H [] S (.refl _ _) ok rfl hw⟩⟩
theorem da_cons (ha : DE X W e wa) (hs : DA X W es w) (h : starEach (e :: es) X.env = (false, eval e X.env) :: starEach es X.env := by rfl) : DA X W (e :: es) (wCons wa w) := by
  obtain ⟨ta, pa, ra⟩ := ha.ex
  obtain ⟨ts, ps, rs⟩ := hs.ex
  refine ⟨_, pa_cons pa ps h, ⟨fun M mu σ ρ S H P E Q ok en hw n x => ?_⟩⟩
  refine ra.run M mu σ ρ S H _ E _ ok en hw (fun v H1 d S1 k1 ok1 r1 h1 => ?_) x
  refine rs.run M mu σ ρ S1 H1 _ E _ ok1 (en.keep ok k1) h1 (fun vs H2 ds S2 k2 ok2 r2 h2 => ?_) (x.mono k1)
  exact n (v :: vs) H2 (d :: ds) S2 (k1.trans k2) ok2 ⟨v, vs, rfl, r1.keep ok1 k2, r2⟩ h2
def wLst (w : DWA) : DW := fun ρ S P E => w ρ S (fun ds S1 => ds.length ≤ 1000000 ∧ P (.lst ds) S1) E
def wTup (w : DWA) : DW := fun ρ S P E => w ρ S (fun ds S1 => ds.length ≤ 1000000 ∧ P (.tup ds) S1) E
theorem line_of {n : Nat} (h : n ≤ 1000000) : n ≤ sizeLine := by rw [sizeLine_eq]; omega
theorem de_lst (hs : DA X W es w) : DE X W (.List es pos) (wLst w) := by
  obtain ⟨ts, ps, rs⟩ := hs.ex
  refine ⟨_, pe_lst ps, ⟨fun M mu σ ρ S H P E Q ok en hw n x => ?_⟩⟩
  refine rs.run M mu σ ρ S H _ E _ ok en hw (fun vs H1 ds S1 k1 ok1 r1 h1 => ?_) x
  refine ⟨by rw [← r1.len]; exact line_of h1.1, fun p hp => ?_⟩
  obtain ⟨ok2, k2, _⟩ := ok1.alloc hp (.lst vs)
  exact n _ _ _ S1 (k1.trans k2) ok2 (newL ok1 hp r1) h1.2
theorem de_tup {k : Nat} (hs : DA X W es w) : DE X W (.Tuple es k pos) (wTup w) := by
  obtain ⟨ts, ps, rs⟩ := hs.ex
  refine ⟨_, pe_tup ps, ⟨fun M mu σ ρ S H P E Q ok en hw n x => ?_⟩⟩
  refine rs.run M mu σ ρ S H _ E _ ok en hw (fun vs H1 ds S1 k1 ok1 r1 h1 => ?_) x
  refine ⟨by rw [← r1.len]; exact line_of h1.1, fun p hp => ?_⟩
  obtain ⟨ok2, k2, _⟩ := ok1.alloc hp (.tup vs)
  exact n _ _ _ S1 (k1.trans k2) ok2 (newT ok1 hp r1) h1.2
/-! ### operators by values -/
abbrev DF2 := D → D → Sto → DK → Prop
def OpD (K : PySem.W.Frag) (r : R2) (f : DF2) : Prop := ∀ (M : Addr → Prop) (mu : List Addr) (H : Hp) (S : Sto) (x y : D) (v u : V) (P : DK) (Q : VK), Wok K M mu H S → R K M mu H x v → R K M mu H y u → f x y S P → Nrm K M mu H P Q → r v u H Q
def wOp (f : DF2) (wa wb : DW) : DW := fun ρ S P E => wa ρ S (fun x S1 => wb ρ S1 (fun y S2 => f x y S2 P) E) E
theorem rd_op {r : R2} {f : DF2} {K : PySem.W.Frag} {ta tb : TE} (hf : OpD K r f) (ra : Rd K W ta wa) (rb : Rd K W tb wb) : Rd K W (tOp r ta tb) (wOp f wa wb) := by
  refine ⟨fun M mu σ ρ S H P E Q ok en hw n x => ?_⟩
  refine ra.run M mu σ ρ S H _ E _ ok en hw (fun v H1 d S1 k1 ok1 r1 h1 => ?_) x
  refine rb.run M mu σ ρ S1 H1 _ E _ ok1 (en.keep ok k1) h1 (fun u H2 d2 S2 k2 ok2 r2 h2 => ?_) (x.mono k1)
  exact hf M mu H2 S2 d d2 v u P Q ok2 (r1.keep ok1 k2) r2 h2 (n.mono (k1.trans k2))
theorem de_op {op : Operator} {r : R2} {f : DF2} (ho : OpR X (binaryOp op) r) (hf : OpD X.K r f) (ha : DE X W a wa) (hb : DE X W b wb) : DE X W (.BinOp a op b pos) (wOp f wa wb) := by
  obtain ⟨ta, pa, ra⟩ := ha.ex
  obtain ⟨tb, pb, rb⟩ := hb.ex
  exact ⟨_, pe_op ho pa pb, rd_op hf ra rb⟩
theorem de_cmp {op : CmpOp} {r : R2} {f : DF2} (ho : OpR X (compareOp op) r) (hf : OpD X.K r f) (ha : DE X W a wa) (hb : DE X W b wb) (hm : behindInMarks op b = false := by first | exact nomark _ | rfl) : DE X W (.Compare a [op] [b] pos) (wOp f wa wb) := by
  obtain ⟨ta, pa, ra⟩ := ha.ex
  obtain ⟨tb, pb, rb⟩ := hb.ex
  exact ⟨_, pe_cmpR ho pa pb hm, rd_op hf ra rb⟩
/-- a value that is a bool, as a test -/
def wB (w : DW) : DWT := fun ρ S P E => w ρ S (fun x S1 => match x with
  | .bl k => P k S1
  | _ => False) E
theorem rd_test {K : PySem.W.Frag} {t : TE} {w : DW} (r : Rd K W t w) : RdT K W (tTest t) (wB w) := by
  refine ⟨fun M mu σ ρ S H P E Q ok en hw n x => ?_⟩
  refine r.run M mu σ ρ S H _ E _ ok en hw (fun v H1 d S1 k1 ok1 r1 h1 => ?_) x
  cases d with
  | bl k => exact ⟨k, r1, n k H1 S1 k1 ok1 h1⟩
  | _ => exact h1.elim
theorem dt_cmp {op : CmpOp} {r : R2} {f : DF2} (ho : OpR X (compareOp op) r) (hf : OpD X.K r f) (ha : DE X W a wa) (hb : DE X W b wb) (hm : behindInMarks op b = false := by first | exact nomark _ | rfl) : DT X W (.Compare a [op] [b] pos) (wB (wOp f wa wb)) := by
  obtain ⟨ta, pa, ra⟩ := ha.ex
  obtain ⟨tb, pb, rb⟩ := hb.ex
  exact ⟨_, pt_cmpR ho pa pb hm, rd_test (rd_op hf ra rb)⟩
theorem de_chain {op op' : CmpOp} {r r' : R2} {f f' : DF2} (ho : OpR X (compareOp op) r) (ho' : OpR X (compareOp op') r') (hf : OpD X.K r f) (hf' : OpD X.K r' f') (ha : DE X W a wa) (hb : DE X W b wb) (hc : DE X W c wc)
    (hm : lastMarks [op, op'] [b, c] = false := by with_unfolding_all rfl) : DE X W (.Compare a [op, op'] [b, c] pos)
      (fun ρ S P E => wa ρ S (fun x S1 => wb ρ S1 (fun y S2 => f x y S2 (fun z S3 => match z with
        | .bl k => if k = true then wc ρ S3 (fun u S4 => f' y u S4 P) E else P (.bl false) S3
        | _ => False)) E) E) := by
  obtain ⟨ta, pa, ra⟩ := ha.ex
  obtain ⟨tb, pb, rb⟩ := hb.ex
  obtain ⟨tc, pc, rc⟩ := hc.ex
  refine ⟨_, pe_chain ho ho' pa pb pc hm, ⟨fun M mu σ ρ S H P E Q ok en hw n x => ?_⟩⟩
  refine ra.run M mu σ ρ S H _ E _ ok en hw (fun v H1 d S1 k1 ok1 r1 h1 => ?_) x
  refine rb.run M mu σ ρ S1 H1 _ E _ ok1 (en.keep ok k1) h1 (fun u H2 d2 S2 k2 ok2 r2 h2 => ?_) (x.mono k1)
  refine hf M mu H2 S2 d d2 v u _ _ ok2 (r1.keep ok1 k2) r2 h2 (fun z H3 d3 S3 k3 ok3 r3 h3 => ?_)
  cases d3 with
  | bl k =>
    refine ⟨k, r3, ?_⟩
    cases k with
    | true =>
      have h3 : wc ρ S3 (fun u S4 => f' d2 u S4 P) E := h3
      rw [if_pos rfl]
      refine rc.run M mu σ ρ S3 H3 _ E _ ok3 ((en.keep ok k1).keep ok1 (k2.trans k3)) h3 (fun u' H4 d4 S4 k4 ok4 r4 h4 => ?_) (x.mono (k1.trans (k2.trans k3)))
      exact hf' M mu H4 S4 d2 d4 u u' P Q ok4 (r2.keep ok2 (k3.trans k4)) r4 h4 (n.mono (k1.trans (k2.trans (k3.trans k4))))
    | false =>
      have h3 : P (.bl false) S3 := h3
      rw [if_neg Bool.false_ne_true]
      exact n _ H3 (.bl false) S3 (k1.trans (k2.trans k3)) ok3 rfl h3
  | _ => exact h3.elim
theorem dt_chain {op op' : CmpOp} {r r' : R2} {f f' : DF2} (ho : OpR X (compareOp op) r) (ho' : OpR X (compareOp op') r') (hf : OpD X.K r f) (hf' : OpD X.K r' f') (ha : DE X W a wa) (hb : DE X W b wb) (hc : DE X W c wc)
    (hm : lastMarks [op, op'] [b, c] = false := by with_unfolding_all rfl) : DT X W (.Compare a [op, op'] [b, c] pos)
      (wB (fun ρ S P E => wa ρ S (fun x S1 => wb ρ S1 (fun y S2 => f x y S2 (fun z S3 => match z with
        | .bl k => if k = true then wc ρ S3 (fun u S4 => f' y u S4 P) E else P (.bl false) S3
        | _ => False)) E) E)) := by
  obtain ⟨ta, pa, ra⟩ := ha.ex
  obtain ⟨tb, pb, rb⟩ := hb.ex
  obtain ⟨tc, pc, rc⟩ := hc.ex
  refine ⟨_, pt_chain ho ho' pa pb pc hm, rd_test ⟨fun M mu σ ρ S H P E Q ok en hw n x => ?_⟩⟩
  refine ra.run M mu σ ρ S H _ E _ ok en hw (fun v H1 d S1 k1 ok1 r1 h1 => ?_) x
  refine rb.run M mu σ ρ S1 H1 _ E _ ok1 (en.keep ok k1) h1 (fun u H2 d2 S2 k2 ok2 r2 h2 => ?_) (x.mono k1)
  refine hf M mu H2 S2 d d2 v u _ _ ok2 (r1.keep ok1 k2) r2 h2 (fun z H3 d3 S3 k3 ok3 r3 h3 => ?_)
  cases d3 with
  | bl k =>
    refine ⟨k, r3, ?_⟩
    cases k with
    | true =>
      have h3 : wc ρ S3 (fun u S4 => f' d2 u S4 P) E := h3
      rw [if_pos rfl]
      refine rc.run M mu σ ρ S3 H3 _ E _ ok3 ((en.keep ok k1).keep ok1 (k2.trans k3)) h3 (fun u' H4 d4 S4 k4 ok4 r4 h4 => ?_) (x.mono (k1.trans (k2.trans k3)))
      exact hf' M mu H4 S4 d2 d4 u u' P Q ok4 (r2.keep ok2 (k3.trans k4)) r4 h4 (n.mono (k1.trans (k2.trans (k3.trans k4))))
    | false =>
      have h3 : P (.bl false) S3 := h3
      rw [if_neg Bool.false_ne_true]
      exact n _ H3 (.bl false) S3 (k1.trans (k2.trans k3)) ok3 rfl h3
  | _ => exact h3.elim
/-- one-place operators -/
def wUn (f : D → Sto → DK → Prop) (wa : DW) : DW := fun ρ S P E => wa ρ S (fun x S1 => f x S1 P) E
def negD (x : D) (S : Sto) (P : DK) : Prop := match x with
  | .int i => P (.int (-i)) S
  | _ => False
theorem de_neg (ha : DE X W a wa) : DE X W (.UnaryOp .USub a pos) (wUn negD wa) := by
  obtain ⟨ta, pa, ra⟩ := ha.ex
  refine ⟨_, pe_un un_neg pa, ⟨fun M mu σ ρ S H P E Q ok en hw n x => ?_⟩⟩
  refine ra.run M mu σ ρ S H _ E _ ok en hw (fun v H1 d S1 k1 ok1 r1 h1 => ?_) x
  cases d with
  | int i => exact ⟨i, r1, n _ H1 (.int (-i)) S1 k1 ok1 rfl h1⟩
  | _ => exact h1.elim
end
/-! ### int operators -/
section
variable {K : PySem.W.Frag}
def intD (C : Int → Int → Prop) (g : Int → Int → D) : DF2 := fun x y S P => match x, y with
  | .int i, .int j => C i j ∧ P (g i j) S
  | _, _ => False
theorem opd_I {C : Int → Int → Prop} {g : Int → Int → V} {g' : Int → Int → D} (hg : ∀ i j M mu H, R K M mu H (g' i j) (g i j)) : OpD K (rI C g) (intD C g') := by
  intro M mu H S x y v u P Q ok rx ry h n
  cases x with
  | int i =>
    cases y with
    | int j => exact ⟨i, j, rx, ry, h.1, n _ H _ S (.refl _ _) ok (hg i j M mu H) h.2⟩
    | _ => exact h.elim
  | _ => exact h.elim
def cmpD (g : Int → Int → Bool) : DF2 := fun x y S P => match x, y with
  | .int i, .int j => P (.bl (g i j)) S
  | _, _ => False
theorem opd_B {g : Int → Int → Bool} : OpD K (rI0 fun i j => .bl (g i j)) (cmpD g) := by
  intro M mu H S x y v u P Q ok rx ry h n
  cases x with
  | int i =>
    cases y with
    | int j => exact ⟨i, j, rx, ry, n _ H (.bl (g i j)) S (.refl _ _) ok rfl h⟩
    | _ => exact h.elim
  | _ => exact h.elim
/-- plus: ints, texts, lists, tuples -/
def rAddA (K : PySem.W.Frag) : R2 := fun x y H Q => (rI0 (fun i j => .int (i + j)) x y H Q ∨ (∃ i j, x = V.str i ∧ y = V.str j ∧ i.length + j.length ≤ sizeLine ∧ Q (.str (i ++ j)) H)) ∨ (rCat x y H Q ∨ rCatA K x y H Q)
theorem op_addA {X : Cx} : OpR X (binaryOp .Add) (rAddA X.K) := (OpR.or (OpR.or op_add op_add_str) (OpR.or op_cat op_catA))
/-- a tuple of the written part -/
def isK : D → Bool
  | .ktp _ => true
  | _ => false
theorem isK_tup {l : List D} : (isK (.tup l) = false) = True := propext ⟨fun _ => True.intro, fun _ => rfl⟩
def addD : DF2 := fun x y S P => match val S x, val S y with
  | .int i, .int j => P (.int (i + j)) S
  | .str a, .str b => a.length + b.length ≤ 1000000 ∧ P (.str (a ++ b)) S
  | .lst a, .lst b => a.length + b.length ≤ 1000000 ∧ P (.lst (a ++ b)) S
  | .tup a, .tup b => (isK x = false ∧ isK y = false) ∧ a.length + b.length ≤ 1000000 ∧ P (.tup (a ++ b)) S
  | _, _ => False
theorem val_int {M : Addr → Prop} {mu : List Addr} {H : Hp} {S : Sto} (w : Wok K M mu H S) {x : D} {v : V} {i : Int} (r : R K M mu H x v) (e : val S x = .int i) : v = .int i := by
  cases x with
  | loc j =>
    obtain ⟨a, h1, h2⟩ := r
    exact (show False from w.at_ j a _ h2 (val_loc e (by simp))).elim
  | int j =>
    have e' : j = i := by simpa [val] using e
    subst e'
    exact r
  | _ => simp [val] at e
theorem val_str {M : Addr → Prop} {mu : List Addr} {H : Hp} {S : Sto} (w : Wok K M mu H S) {x : D} {v : V} {i : Str} (r : R K M mu H x v) (e : val S x = .str i) : v = .str i := by
  cases x with
  | loc j =>
    obtain ⟨a, h1, h2⟩ := r
    exact (show False from w.at_ j a _ h2 (val_loc e (by simp))).elim
  | str j =>
    have e' : j = i := by simpa [val] using e
    subst e'
    exact r
  | _ => simp [val] at e
theorem opd_add : OpD K (rAddA K) addD := by
  intro M mu H S x y v u P Q ok rx ry h n
  unfold addD at h
  cases e1 : val S x with
  | int i =>
    cases e2 : val S y with
    | int j => rw [e1, e2] at h; exact .inl (.inl ⟨i, j, val_int ok rx e1, val_int ok ry e2, n _ H (.int (i + j)) S (.refl _ _) ok rfl h⟩)
    | _ => rw [e1, e2] at h; exact h.elim
  | str i =>
    cases e2 : val S y with
    | str j => rw [e1, e2] at h; exact .inl (.inr ⟨i, j, val_str ok rx e1, val_str ok ry e2, line_of h.1, n _ H (.str (i ++ j)) S (.refl _ _) ok rfl h.2⟩)
    | _ => rw [e1, e2] at h; exact h.elim
  | lst ds =>
    cases e2 : val S y with
    | lst es =>
      rw [e1, e2] at h
      obtain ⟨a, vs, rfl, ha, ra⟩ := seq_lst ok rx e1
      obtain ⟨b, us, rfl, hb, rb⟩ := seq_lst ok ry e2
      refine .inr (.inl ⟨a, b, vs, us, rfl, rfl, ha, hb, by rw [← ra.len, ← rb.len]; exact line_of h.1, fun p hp => ?_⟩)
      obtain ⟨ok2, k2, _⟩ := ok.alloc hp (.lst (vs ++ us))
      exact n _ _ _ S k2 ok2 (newL ok hp (ra.app rb)) h.2
    | _ => rw [e1, e2] at h; exact h.elim
  | tup ds =>
    cases e2 : val S y with
    | tup es =>
      rw [e1, e2] at h
      obtain ⟨a, vs, rfl, ha, ra⟩ := seq_tup ok rx e1
      obtain ⟨b, us, rfl, hb, rb⟩ := seq_tup ok ry e2
      have fin : ∀ p, H p = none → Q (.ref p) (upd H p (.tup (vs ++ us))) := fun p hp => by
        obtain ⟨ok2, k2, _⟩ := ok.alloc hp (.tup (vs ++ us))
        exact n _ _ _ S k2 ok2 (newT ok hp (ra.app rb)) h.2.2
      have as_ : ∀ {z : D} {q : Addr}, isK z = false → val S z = .tup (ds ++ es) → R K M mu H z (.ref q) → Q (.ref q) H := fun {z q} hk e r => by
        cases z with
        | tup l =>
          have e' : l = ds ++ es := by simpa [val] using e
          subst e'
          exact n _ H _ S (.refl _ _) ok r h.2.2
        | ktp _ => cases hk
        | loc j =>
          obtain ⟨a, h1, h2⟩ := r
          exact (show False from ok.at_ j a _ h2 (val_loc e (by simp))).elim
        | _ => simp [val] at e
      refine .inr (.inr ⟨a, b, vs, us, rfl, rfl, ha, hb, by rw [← ra.len, ← rb.len]; exact line_of h.2.1, fun z => ?_, fun _ z => ?_, fun _ _ => fin⟩)
      · have : ds = [] := by
          have := ra.len
          rw [z] at this
          exact List.length_eq_zero_iff.mp this
        subst this
        exact as_ (z := y) h.1.2 e2 ry
      · have : es = [] := by
          have := rb.len
          rw [z] at this
          exact List.length_eq_zero_iff.mp this
        subst this
        exact as_ (z := x) h.1.1 (by rw [e1, List.append_nil]) rx
    | _ => rw [e1, e2] at h; exact h.elim
  | _ => rw [e1] at h; exact h.elim
/-- times: ints; a list a number of times -/
def MulOk (i j : Int) : Prop := i.natAbs < 2 ^ 64 ∨ j.natAbs < 2 ^ 64 ∨ (i.natAbs < 10 ^ 3000 ∧ j.natAbs < 10 ^ 3000)
def rMulA : R2 := fun x y H Q => (rI CMulW (fun i j => .int (i * j)) x y H Q ∨ rI CMul (fun i j => .int (i * j)) x y H Q) ∨ rRep x y H Q
theorem op_mulA {X : Cx} : OpR X (binaryOp .Mult) rMulA := OpR.or (OpR.or op_mulW op_mul) op_rep
def mulD : DF2 := fun x y S P => match val S x, y with
  | .int i, .int j => MulOk i j ∧ P (.int (i * j)) S
  | .lst ds, .int k => (k ≤ 1000000 ∧ -1000000 ≤ k ∧ ds.length * k.toNat ≤ 1000000) ∧ P (.lst (List.replicate k.toNat ds).flatten) S
  | _, _ => False
theorem MulOk.wide {i j : Int} (h : i.natAbs < 10 ^ 3000 ∧ j.natAbs < 10 ^ 3000) : CMulW i j :=
  wide_mul (a := 10000) (b := 10000) (Nat.lt_of_lt_of_le h.1 (by decide +kernel)) (Nat.lt_of_lt_of_le h.2 (by decide +kernel)) (by decide) (by decide) (by decide)
theorem Rs.rep {M : Addr → Prop} {mu : List Addr} {H : Hp} {ds : List D} {vs : List V} (r : Rs K M mu H ds vs) : ∀ k : Nat, Rs K M mu H (List.replicate k ds).flatten (List.replicate k vs).flatten
  | 0 => rfl
  | k + 1 => by
    rw [List.replicate_succ, List.replicate_succ, List.flatten_cons, List.flatten_cons]
    exact r.app (Rs.rep r k)
theorem opd_mul : OpD K rMulA mulD := by
  intro M mu H S x y v u P Q ok rx ry h n
  unfold mulD at h
  cases e1 : val S x with
  | int i =>
    cases y with
    | int j =>
      rw [e1] at h
      have fin := n _ H (.int (i * j)) S (.refl _ _) ok rfl h.2
      rcases h.1 with q | q | q
      · exact .inl (.inr ⟨i, j, val_int ok rx e1, ry, .inl (by omega), fin⟩)
      · exact .inl (.inr ⟨i, j, val_int ok rx e1, ry, .inr (by omega), fin⟩)
      · exact .inl (.inl ⟨i, j, val_int ok rx e1, ry, MulOk.wide q, fin⟩)
    | _ => rw [e1] at h; exact h.elim
  | lst ds =>
    cases y with
    | int k =>
      rw [e1] at h
      obtain ⟨a, vs, rfl, ha, ra⟩ := seq_lst ok rx e1
      refine .inr ⟨a, k, vs, rfl, ry, ha, by omega, by omega, by rw [← ra.len]; exact line_of h.1.2.2, fun p hp => ?_⟩
      obtain ⟨ok2, k2, _⟩ := ok.alloc hp (.lst (List.replicate k.toNat vs).flatten)
      exact n _ _ _ S k2 ok2 (newL ok hp (ra.rep _)) h.2
    | _ => rw [e1] at h; exact h.elim
  | _ => rw [e1] at h; exact h.elim
end
end DL
set_option maxRecDepth 100000
set_option maxHeartbeats 2000000
namespace DL
open PySem PySem.Spec PyProof.Rows L2
/-! ### trees as the library's data -/
mutual
def toPy : D → Option PyData
  | .non => some .none
  | .bl b => some (.bool b)
  | .int i => some (.int i)
  | .str s => some (.str s)
  | .lst ds => (toPys ds).map .list
  | .tup ds => (toPys ds).map .tuple
  | .ktp ds => (toPys ds).map .tuple
  | _ => none
def toPys : List D → Option (List PyData)
  | [] => some []
  | d :: ds => match toPy d, toPys ds with
    | some p, some ps => some (p :: ps)
    | _, _ => none
end
section
variable {K : PySem.W.Frag} {M : Addr → Prop} {mu : List Addr} {H : Hp} {S : Sto}
mutual
theorem R.dp : ∀ (d : D) (v : V) (p : PyData), R K M mu H d v → toPy d = some p → Dp K H v p
  | .non, v, p, r, e => by obtain rfl : v = .non := r; obtain rfl : PyData.none = p := Option.some.inj e; exact .non
  | .bl b, v, p, r, e => by obtain rfl : v = .bl b := r; obtain rfl : PyData.bool b = p := Option.some.inj e; exact .bl b
  | .int b, v, p, r, e => by obtain rfl : v = .int b := r; obtain rfl : PyData.int b = p := Option.some.inj e; exact .int b
  | .str b, v, p, r, e => by obtain rfl : v = .str b := r; obtain rfl : PyData.str b = p := Option.some.inj e; exact .str b
  | .lst ds, v, p, r, e => by
    obtain ⟨a, vs, rfl, _, h3, h4⟩ := r
    obtain ⟨ps, h5, rfl⟩ := Option.map_eq_some_iff.mp (show (toPys ds).map PyData.list = some p from e)
    exact .lst (SqL.of h3) (Rs.dp ds vs ps h4 h5)
  | .tup ds, v, p, r, e => by
    obtain ⟨a, vs, rfl, h3, h4⟩ := r
    obtain ⟨ps, h5, rfl⟩ := Option.map_eq_some_iff.mp (show (toPys ds).map PyData.tuple = some p from e)
    exact .tup (SqT.of h3) (Rs.dp ds vs ps h4 h5)
  | .ty _, _, _, _, e => by simp [toPy] at e
  | .cst _, _, _, _, e => by simp [toPy] at e
  | .loc _, _, _, _, e => by simp [toPy] at e
  | .scr _, _, _, _, e => by simp [toPy] at e
  | .dk _, _, _, _, e => by simp [toPy] at e
  | .dt _, _, _, _, e => by simp [toPy] at e
  | .ktp ds, v, p, r, e => by
    obtain ⟨a, vs, rfl, h3, h4⟩ := r
    obtain ⟨ps, h5, rfl⟩ := Option.map_eq_some_iff.mp (show (toPys ds).map PyData.tuple = some p from e)
    exact .tup h3.to (Rs.dp ds vs ps h4 h5)
  | .obj _ _, _, _, _, e => by simp [toPy] at e
theorem Rs.dp : ∀ (ds : List D) (vs : List V) (ps : List PyData), Rs K M mu H ds vs → toPys ds = some ps → DpAll K H vs ps
  | [], vs, ps, r, e => by obtain rfl : vs = [] := r; obtain rfl : ([] : List PyData) = ps := Option.some.inj e; exact .nil
  | d :: ds, vs, ps, r, e => by
    obtain ⟨v, rr, rfl, h1, h2⟩ := r
    have e' : (match toPy d, toPys ds with
      | some p, some ps => some (p :: ps)
      | _, _ => none) = some ps := by rw [← e]; rfl
    cases e1 : toPy d with
    | none => rw [e1] at e'; cases e'
    | some p =>
      cases e2 : toPys ds with
      | none => rw [e1, e2] at e'; cases e'
      | some qs =>
        rw [e1, e2] at e'
        obtain rfl : p :: qs = ps := Option.some.inj e'
        exact .cons (R.dp d v p h1 e1) (Rs.dp ds rr qs h2 e2)
end
theorem val_dp (w : Wok K M mu H S) {x : D} {v : V} {p : PyData} (r : R K M mu H x v) (e : toPy (val S x) = some p) : Dp K H v p := by
  cases x with
  | loc i =>
    obtain ⟨a, rfl, h2⟩ := r
    cases q : val S (.loc i) with
    | lst ds =>
      rw [q] at e
      obtain ⟨vs, h3, h4⟩ : Cl K M mu H (.lst ds) a := w.at_ i a _ h2 (val_loc q (by simp))
      obtain ⟨ps, h5, rfl⟩ := Option.map_eq_some_iff.mp (show (toPys ds).map PyData.list = some p from e)
      exact .lst (SqL.of h3) (Rs.dp ds vs ps h4 h5)
    | loc _ => rw [q] at e; simp [toPy] at e
    | dk _ => rw [q] at e; simp [toPy] at e
    | dt _ => rw [q] at e; simp [toPy] at e
    | ktp _ => exact (show False from w.at_ i a _ h2 (val_loc q (by simp))).elim
    | obj _ _ => rw [q] at e; simp [toPy] at e
    | tb _ _ => rw [q] at e; simp [toPy] at e
    | ty _ => rw [q] at e; simp [toPy] at e
    | cst _ => rw [q] at e; simp [toPy] at e
    | scr _ => rw [q] at e; simp [toPy] at e
    | non => exact absurd q val_ne_non
    | _ => exact (show False from w.at_ i a _ h2 (val_loc q (by simp))).elim
  | _ => exact R.dp _ v p r e
/-! ### equality -/
def scalD : D → D → Option Bool
  | .non, .non => some true
  | .int i, .int j => some (decide (i = j))
  | .str i, .str j => some (decide (i = j))
  | .bl i, .bl j => some (decide (i = j))
  | .non, .int _ => some false | .int _, .non => some false | .non, .bl _ => some false | .bl _, .non => some false | .non, .str _ => some false | .str _, .non => some false
  | .int _, .str _ => some false | .str _, .int _ => some false | .bl _, .str _ => some false | .str _, .bl _ => some false
  | _, _ => none
theorem scalD_ok {x y : D} {v u : V} {b : Bool} (rx : R K M mu H x v) (ry : R K M mu H y u) (e : scalD x y = some b) : scal v u = true ∧ decide (v = u) = b := by
  cases x with
  | non =>
    obtain rfl : v = .non := rx
    cases y with
    | non => obtain rfl : u = .non := ry; cases e; exact ⟨rfl, by simp⟩
    | int j => obtain rfl : u = .int j := ry; cases e; exact ⟨rfl, by simp⟩
    | bl j => obtain rfl : u = .bl j := ry; cases e; exact ⟨rfl, by simp⟩
    | str j => obtain rfl : u = .str j := ry; cases e; exact ⟨rfl, by simp⟩
    | _ => cases e
  | int i =>
    obtain rfl : v = .int i := rx
    cases y with
    | non => obtain rfl : u = .non := ry; cases e; exact ⟨rfl, by simp⟩
    | int j => obtain rfl : u = .int j := ry; cases e; exact ⟨rfl, by simp⟩
    | str j => obtain rfl : u = .str j := ry; cases e; exact ⟨rfl, by simp⟩
    | _ => cases e
  | bl i =>
    obtain rfl : v = .bl i := rx
    cases y with
    | non => obtain rfl : u = .non := ry; cases e; exact ⟨rfl, by simp⟩
    | bl j => obtain rfl : u = .bl j := ry; cases e; exact ⟨rfl, by simp⟩
    | str j => obtain rfl : u = .str j := ry; cases e; exact ⟨rfl, by simp⟩
    | _ => cases e
  | str i =>
    obtain rfl : v = .str i := rx
    cases y with
    | non => obtain rfl : u = .non := ry; cases e; exact ⟨rfl, by simp⟩
    | int j => obtain rfl : u = .int j := ry; cases e; exact ⟨rfl, by simp⟩
    | bl j => obtain rfl : u = .bl j := ry; cases e; exact ⟨rfl, by simp⟩
    | str j => obtain rfl : u = .str j := ry; cases e; exact ⟨rfl, by simp⟩
    | _ => cases e
  | _ => cases y <;> cases e
def eqD (neg : Bool) : DF2 := fun x y S P => match scalD x y with
  | some b => P (.bl (if neg then !b else b)) S
  | none => match toPy (val S x), toPy (val S y) with
    | some p, some q => SeqAt.shaped p = true ∧ SeqAt.shaped q = true ∧ P (.bl (if neg then !PyData.eqv p q else PyData.eqv p q)) S
    | _, _ => False
theorem opd_eq : OpD K (fun x y H Q => rEq x y H Q ∨ rEqD K x y H Q) (eqD false) := by
  intro M mu H S x y v u P Q ok rx ry h n
  unfold eqD at h
  cases e0 : scalD x y with
  | some b =>
    rw [e0] at h
    obtain ⟨h1, h2⟩ := scalD_ok rx ry e0
    exact .inl ⟨h1, by rw [h2]; exact n _ H (.bl b) S (.refl _ _) ok rfl h⟩
  | none =>
    rw [e0] at h
    cases e1 : toPy (val S x) with
    | none => simp only [e1] at h
    | some p =>
      cases e2 : toPy (val S y) with
      | none => simp only [e1, e2] at h
      | some q =>
        simp only [e1, e2] at h
        exact .inr ⟨p, q, val_dp ok rx e1, val_dp ok ry e2, h.1, h.2.1, n _ H (.bl (PyData.eqv p q)) S (.refl _ _) ok rfl h.2.2⟩
theorem opd_ne : OpD K (fun x y H Q => rNe x y H Q ∨ rNeD K x y H Q) (eqD true) := by
  intro M mu H S x y v u P Q ok rx ry h n
  unfold eqD at h
  cases e0 : scalD x y with
  | some b =>
    rw [e0] at h
    obtain ⟨h1, h2⟩ := scalD_ok rx ry e0
    exact .inl ⟨h1, by rw [h2]; exact n _ H (.bl (!b)) S (.refl _ _) ok rfl h⟩
  | none =>
    rw [e0] at h
    cases e1 : toPy (val S x) with
    | none => simp only [e1] at h
    | some p =>
      cases e2 : toPy (val S y) with
      | none => simp only [e1, e2] at h
      | some q =>
        simp only [e1, e2] at h
        exact .inr ⟨p, q, val_dp ok rx e1, val_dp ok ry e2, h.1, h.2.1, n _ H (.bl (!PyData.eqv p q)) S (.refl _ _) ok rfl h.2.2⟩
/-! ### in -/
def toV : D → Option V
  | .non => some .non
  | .bl b => some (.bl b)
  | .int i => some (.int i)
  | .str s => some (.str s)
  | _ => none
theorem toV_ok {d : D} {v u : V} (r : R K M mu H d v) (e : toV d = some u) : v = u ∧ flatV u = true := by
  cases d with
  | non => obtain rfl : V.non = u := Option.some.inj e; exact ⟨r, rfl⟩
  | bl _ => obtain rfl : V.bl _ = u := Option.some.inj e; exact ⟨r, rfl⟩
  | int _ => obtain rfl : V.int _ = u := Option.some.inj e; exact ⟨r, rfl⟩
  | str _ => obtain rfl : V.str _ = u := Option.some.inj e; exact ⟨r, rfl⟩
  | _ => exact absurd e (by simp [toV])
def toVs : List D → Option (List V)
  | [] => some []
  | d :: ds => match toV d, toVs ds with
    | some v, some vs => some (v :: vs)
    | _, _ => none
theorem toVs_ok : ∀ {ds : List D} {vs us : List V}, Rs K M mu H ds vs → toVs ds = some us → vs = us ∧ us.all flatV = true
  | [], vs, us, r, e => by obtain rfl : vs = [] := r; obtain rfl : ([] : List V) = us := Option.some.inj e; exact ⟨rfl, rfl⟩
  | d :: ds, vs, us, r, e => by
    obtain ⟨v, rr, rfl, h1, h2⟩ := r
    have e' : (match toV d, toVs ds with
      | some v, some vs => some (v :: vs)
      | _, _ => none) = some us := by rw [← e]; rfl
    cases e1 : toV d with
    | none => rw [e1] at e'; cases e'
    | some p =>
      cases e2 : toVs ds with
      | none => rw [e1, e2] at e'; cases e'
      | some qs =>
        rw [e1, e2] at e'
        obtain rfl : p :: qs = us := Option.some.inj e'
        obtain ⟨a1, a2⟩ := toV_ok h1 e1
        obtain ⟨b1, b2⟩ := toVs_ok h2 e2
        exact ⟨by rw [a1, b1], by rw [List.all_cons, a2, b2]; rfl⟩
def inD (neg : Bool) : DF2 := fun x y S P => match toV x, val S y with
  | some v, .lst ds => (match toVs ds with
    | some vs => P (.bl (if neg then !inV v vs else inV v vs)) S
    | none => False)
  | some v, .tup ds => (match toVs ds with
    | some vs => P (.bl (if neg then !inV v vs else inV v vs)) S
    | none => False)
  | _, _ => False
theorem opd_in {neg : Bool} : OpD K (rIn K neg) (inD neg) := by
  intro M mu H S x y v u P Q ok rx ry h n
  unfold inD at h
  cases e1 : toV x with
  | none => rw [e1] at h; exact h.elim
  | some x' =>
    rw [e1] at h
    obtain ⟨rfl, fx⟩ := toV_ok rx e1
    cases e2 : val S y with
    | lst ds =>
      rw [e2] at h
      obtain ⟨a, vs, rfl, ha, ra⟩ := seq_lst ok ry e2
      cases e3 : toVs ds with
      | none => simp only [e3] at h
      | some us =>
        simp only [e3] at h
        obtain ⟨rfl, fs⟩ := toVs_ok ra e3
        exact ⟨a, _, rfl, .inl (SqL.of ha), fx, fs, n _ H (.bl _) S (.refl _ _) ok rfl h⟩
    | tup ds =>
      rw [e2] at h
      obtain ⟨a, vs, rfl, ha, ra⟩ := seq_tup ok ry e2
      cases e3 : toVs ds with
      | none => simp only [e3] at h
      | some us =>
        simp only [e3] at h
        obtain ⟨rfl, fs⟩ := toVs_ok ra e3
        exact ⟨a, _, rfl, .inr ha, fx, fs, n _ H (.bl _) S (.refl _ _) ok rfl h⟩
    | _ => rw [e2] at h; exact h.elim
/-! ### is None -/
def isNonD : D → Bool
  | .non => true
  | _ => false
theorem isNon_ok {d : D} {v : V} (r : R K M mu H d v) : decide (v = .non) = isNonD d := by
  cases d with
  | non => obtain rfl : v = .non := r; rfl
  | bl _ => obtain rfl : v = .bl _ := r; rfl
  | int _ => obtain rfl : v = .int _ := r; rfl
  | str _ => obtain rfl : v = .str _ := r; rfl
  | ty _ => obtain rfl : v = .ty _ := r; rfl
  | cst _ => obtain rfl : v = .ref _ := r; rfl
  | loc _ => obtain ⟨a, rfl, _⟩ := r; rfl
  | scr _ => obtain ⟨a, rfl, _⟩ := r; rfl
  | lst _ => obtain ⟨a, vs, rfl, _⟩ := r; rfl
  | tup _ => obtain ⟨a, vs, rfl, _⟩ := r; rfl
  | dk _ => obtain ⟨a, od, es, rfl, _⟩ := r; rfl
  | dt _ => obtain ⟨a, od, es, rfl, _⟩ := r; rfl
  | ktp _ => obtain ⟨a, es, rfl, _⟩ := r; rfl
  | obj _ _ => obtain ⟨a, dx, gs, rfl, _⟩ := r; rfl
  | tb _ _ => exact r.elim
def isD (neg : Bool) : DF2 := fun x y S P => match y with
  | .non => P (.bl (if neg then !isNonD x else isNonD x)) S
  | _ => False
theorem opd_is : OpD K (fun x y H Q => y = .non ∧ Q (.bl (decide (x = .non))) H) (isD false) := by
  intro M mu H S x y v u P Q ok rx ry h n
  cases y with
  | non => exact ⟨ry, n _ H (.bl (isNonD x)) S (.refl _ _) ok (by rw [isNon_ok rx]; rfl) h⟩
  | _ => exact h.elim
theorem opd_isnot : OpD K (fun x y H Q => y = .non ∧ Q (.bl (!decide (x = .non))) H) (isD true) := by
  intro M mu H S x y v u P Q ok rx ry h n
  cases y with
  | non => exact ⟨ry, n _ H (.bl (!isNonD x)) S (.refl _ _) ok (by rw [isNon_ok rx]; rfl) h⟩
  | _ => exact h.elim
/-! ### subscripts, slices -/
def ixD : DF2 := fun x y S P => match val S x, y with
  | .lst ds, .int i => (match atI ds i with
    | some d => P d S
    | none => False)
  | .tup ds, .int i => (match atI ds i with
    | some d => P d S
    | none => False)
  | .str s, .int i => s.length ≤ 1000000 ∧ (match atI s.cps.toList i with
    | some c => P (.str ⟨#[c]⟩) S
    | none => False)
  | _, _ => False
theorem Rs.at_ {ds : List D} {vs : List V} (r : Rs K M mu H ds vs) {i : Int} {d : D} (h : atI ds i = some d) : ∃ v, atI vs i = some v ∧ R K M mu H d v := by
  unfold atI at h ⊢
  rw [← r.len]
  cases e : ixN ds.length i with
  | none => rw [e] at h; cases h
  | some j => rw [e] at h; exact r.get (i := j) h
theorem opd_ix : OpD K (rIx K) ixD := by
  intro M mu H S x y v u P Q ok rx ry h n
  unfold ixD at h
  cases y with
  | int i =>
    cases e1 : val S x with
    | lst ds =>
      simp only [e1] at h
      obtain ⟨a, vs, rfl, ha, ra⟩ := seq_lst ok rx e1
      cases e2 : atI ds i with
      | none => simp only [e2] at h
      | some d =>
        simp only [e2] at h
        obtain ⟨w, h1, h2⟩ := ra.at_ e2
        exact .inl ⟨a, vs, i, w, rfl, ry, SqL.of ha, h1, n w H d S (.refl _ _) ok h2 h⟩
    | tup ds =>
      simp only [e1] at h
      obtain ⟨a, vs, rfl, ha, ra⟩ := seq_tup ok rx e1
      cases e2 : atI ds i with
      | none => simp only [e2] at h
      | some d =>
        simp only [e2] at h
        obtain ⟨w, h1, h2⟩ := ra.at_ e2
        exact .inr (.inl ⟨a, vs, i, w, rfl, ry, ha, h1, n w H d S (.refl _ _) ok h2 h⟩)
    | str s =>
      simp only [e1] at h
      cases e2 : atI s.cps.toList i with
      | none => simp only [e2] at h; exact h.2.elim
      | some c =>
        simp only [e2] at h
        exact .inr (.inr ⟨s, i, c, val_str ok rx e1, ry, line_of h.1, e2, n _ H (.str ⟨#[c]⟩) S (.refl _ _) ok rfl h.2⟩)
    | _ => simp only [e1] at h
  | _ => cases e1 : val S x <;> simp only [e1] at h
end
section
variable {X : Cx} {W : WX} {e a b c : Expr} {es rest : List Expr} {wa wb wc : DW} {w : DWA} {ta tb tc : DWT} {pos : Pos}
theorem de_ix (ha : DE X W a wa) (hb : DE X W b wb) (hs : PlainIx b := by exact fun _ _ => rfl) : DE X W (.Subscript a b pos) (wOp ixD wa wb) := by
  obtain ⟨_, pa, ra⟩ := ha.ex
  obtain ⟨_, pb, rb⟩ := hb.ex
  exact ⟨_, pe_ix ix_seq pa pb hs, rd_op opd_ix ra rb⟩
theorem de_eq (hu : X.A.units + 64 < cLine) (ha : DE X W a wa) (hb : DE X W b wb) : DE X W (.Compare a [.Eq] [b] pos) (wOp (eqD false) wa wb) := de_cmp (OpR.or op_eq (op_eqD hu)) opd_eq ha hb
theorem de_ne (hu : X.A.units + 64 < cLine) (ha : DE X W a wa) (hb : DE X W b wb) : DE X W (.Compare a [.NotEq] [b] pos) (wOp (eqD true) wa wb) := de_cmp (OpR.or op_ne (op_neD hu)) opd_ne ha hb
theorem dt_eq (hu : X.A.units + 64 < cLine) (ha : DE X W a wa) (hb : DE X W b wb) : DT X W (.Compare a [.Eq] [b] pos) (wB (wOp (eqD false) wa wb)) := dt_cmp (OpR.or op_eq (op_eqD hu)) opd_eq ha hb
theorem dt_ne (hu : X.A.units + 64 < cLine) (ha : DE X W a wa) (hb : DE X W b wb) : DT X W (.Compare a [.NotEq] [b] pos) (wB (wOp (eqD true) wa wb)) := dt_cmp (OpR.or op_ne (op_neD hu)) opd_ne ha hb
/-! ### slices -/
abbrev DWO := Loc → Sto → (Option Int → Sto → Prop) → Ex → Prop
structure DO (X : Cx) (W : WX) (e : Option Expr) (w : DWO) : Prop where
  ex : ∃ t, PO X e t ∧ ∀ (M : Addr → Prop) (mu : List Addr) (σ : L2.St) (ρ : Loc) (S : Sto) (H : Hp) (P : Option Int → Sto → Prop) (E : Ex) (Q : Option Int → Hp → Prop), Wok X.K M mu H S → Env X.K M mu H ρ σ → w ρ S P E →
    (∀ o H' S', Keep mu H H' → Wok X.K M mu H' S' → P o S' → Q o H') → Exc X.K M mu H E (fun C d H' => W C d σ H') → t σ H Q
def wNoPart : DWO := fun _ S P _ => P none S
def wPart (w : DW) : DWO := fun ρ S P E => w ρ S (fun x S1 => match x with
  | .int i => P (some i) S1
  | _ => False) E
theorem do_none : DO X W none wNoPart := ⟨_, po_none, fun M mu σ ρ S H P E Q ok en hw n x => n none H S (.refl _ _) ok hw⟩
theorem do_some (h : DE X W e wa) : DO X W (some e) (wPart wa) := by
  obtain ⟨_, pa, ra⟩ := h.ex
  refine ⟨_, po_some pa, fun M mu σ ρ S H P E Q ok en hw n x => ?_⟩
  refine ra.run M mu σ ρ S H _ E _ ok en hw (fun v H1 d S1 k1 ok1 r1 h1 => ?_) x
  cases d with
  | int i => exact ⟨i, r1, n _ H1 S1 k1 ok1 h1⟩
  | _ => exact h1.elim
def cutD (ds : List D) (lo hi : Option Int) : List D := (ds.drop (HT.sIx ds.length 0 lo)).take (HT.sIx ds.length ds.length hi - HT.sIx ds.length 0 lo)
def sliceD (x : D) (lo hi : Option Int) (S : Sto) (P : DK) : Prop := match val S x with
  | .lst ds => P (.lst (cutD ds lo hi)) S
  | .tup ds => isK x = false ∧ P (.tup (cutD ds lo hi)) S
  | .str s => s.length ≤ 1000000 ∧ P (.str (cutS s lo hi)) S
  | .scr ns => P (.lst (cutD (ns.map D.int) lo hi)) S
  | _ => False
def wSl (wa : DW) (wl wh : DWO) : DW := fun ρ S P E => wa ρ S (fun x S1 => wl ρ S1 (fun l S2 => wh ρ S2 (fun u S3 => sliceD x l u S3 P) E) E) E
theorem Rs.cut {K : PySem.W.Frag} {M : Addr → Prop} {mu : List Addr} {H : Hp} {ds : List D} {vs : List V} (r : Rs K M mu H ds vs) (lo hi : Option Int) : Rs K M mu H (cutD ds lo hi) (cutV vs lo hi) := by
  unfold cutD cutV
  rw [← r.len]
  exact (r.drop _).take _
theorem rs_ints {K : PySem.W.Frag} {M : Addr → Prop} {mu : List Addr} {H : Hp} : ∀ ns : List Int, Rs K M mu H (ns.map D.int) (ns.map V.int)
  | [] => rfl
  | n :: ns => ⟨_, _, rfl, rfl, rs_ints ns⟩
theorem seq_scr {K : PySem.W.Frag} {M : Addr → Prop} {mu : List Addr} {H : Hp} {S : Sto} (w : Wok K M mu H S) {x : D} {v : V} {ns : List Int} (r : R K M mu H x v) (e : val S x = .scr ns) : ∃ a, v = .ref a ∧ SqL K H a (ns.map V.int) := by
  cases x with
  | loc i =>
    obtain ⟨a, h1, h2⟩ := r
    exact (show False from w.at_ i a _ h2 (val_loc e (by simp))).elim
  | scr ms =>
    obtain rfl : ms = ns := by simpa [val] using e
    obtain ⟨a, h1, h2⟩ := r
    exact ⟨a, h1, h2.elim (fun ⟨_, q⟩ => .inl q) fun q => .inr q⟩
  | _ => simp [val] at e
theorem de_slice {l u : Option Expr} {wl wu : DWO} {p2 : Pos} (ha : DE X W a wa) (hl : DO X W l wl) (hu : DO X W u wu) : DE X W (.Subscript a (.Slice l u none p2) pos) (wSl wa wl wu) := by
  obtain ⟨_, pa, ra⟩ := ha.ex
  obtain ⟨_, pl, rl⟩ := hl.ex
  obtain ⟨_, pu, ru⟩ := hu.ex
  refine ⟨_, pe_slice (SlR.or sl_list (SlR.or sl_tupA sl_str)) pa pl pu, ⟨fun M mu σ ρ S H P E Q ok en hw n x => ?_⟩⟩
  refine ra.run M mu σ ρ S H _ E _ ok en hw (fun v H1 d S1 k1 ok1 r1 h1 => ?_) x
  refine rl M mu σ ρ S1 H1 _ E _ ok1 (en.keep ok k1) h1 (fun lo H2 S2 k2 ok2 h2 => ?_) (x.mono k1)
  refine ru M mu σ ρ S2 H2 _ E _ ok2 ((en.keep ok k1).keep ok1 k2) h2 (fun hi H3 S3 k3 ok3 h3 => ?_) (x.mono (k1.trans k2))
  have r3 := r1.keep ok1 (k2.trans k3)
  have kk := k1.trans (k2.trans k3)
  unfold sliceD at h3
  cases e1 : val S3 d with
  | lst ds =>
    simp only [e1] at h3
    obtain ⟨p, vs, rfl, hp, rp⟩ := seq_lst ok3 r3 e1
    refine .inl ⟨p, vs, rfl, SqL.of hp, fun q hq => ?_⟩
    obtain ⟨ok4, k4, _⟩ := ok3.alloc hq (.lst (cutV vs lo hi))
    exact n _ _ _ S3 (kk.trans k4) ok4 (newL ok3 hq (rp.cut lo hi)) h3
  | tup ds =>
    simp only [e1] at h3
    obtain ⟨p, vs, rfl, hp, rp⟩ := seq_tup ok3 r3 e1
    refine .inr (.inl ⟨p, vs, rfl, hp, fun q => ?_, fun _ q hq => ?_⟩)
    · have ec : cutD ds lo hi = ds := by
        unfold cutD
        rw [rp.len, q.1, q.2, List.drop_zero, Nat.sub_zero, ← rp.len, List.take_length]
      rw [ec] at h3
      have rr : R X.K M mu H3 (.tup ds) (.ref p) := by
        cases d with
        | ktp _ => cases h3.1
        | tup l =>
          obtain rfl : l = ds := by simpa [val] using e1
          exact r3
        | loc j =>
          obtain ⟨a, h1, h2⟩ := r3
          exact (show False from ok3.at_ j a _ h2 (val_loc e1 (by simp))).elim
        | _ => simp [val] at e1
      exact n _ H3 _ S3 kk ok3 rr h3.2
    · obtain ⟨ok4, k4, _⟩ := ok3.alloc hq (.tup (cutV vs lo hi))
      exact n _ _ _ S3 (kk.trans k4) ok4 (newT ok3 hq (rp.cut lo hi)) h3.2
  | str s =>
    simp only [e1] at h3
    exact .inr (.inr ⟨s, val_str ok3 r3 e1, line_of h3.1, n _ H3 (.str _) S3 kk ok3 rfl h3.2⟩)
  | scr ns =>
    simp only [e1] at h3
    obtain ⟨p, rfl, hp⟩ := seq_scr ok3 r3 e1
    refine .inl ⟨p, _, rfl, hp, fun q hq => ?_⟩
    obtain ⟨ok4, k4, _⟩ := ok3.alloc hq (.lst (cutV (ns.map V.int) lo hi))
    exact n _ _ _ S3 (kk.trans k4) ok4 (newL ok3 hq ((rs_ints ns).cut lo hi)) h3
  | _ => simp only [e1] at h3
/-! ### and, or, not, if -/
def wAndT (a b : DWT) : DWT := fun ρ S P E => a ρ S (fun k S1 => if k = true then b ρ S1 P E else P false S1) E
def wOrT (a b : DWT) : DWT := fun ρ S P E => a ρ S (fun k S1 => if k = true then P true S1 else b ρ S1 P E) E
def wNotT (a : DWT) : DWT := fun ρ S P E => a ρ S (fun k S1 => P (!k) S1) E
theorem rd_and {K : PySem.W.Frag} {t1 t2 : TT} (r1 : RdT K W t1 ta) (r2 : RdT K W t2 tb) : RdT K W (tAnd t1 t2) (wAndT ta tb) := by
  refine ⟨fun M mu σ ρ S H P E Q ok en hw n x => ?_⟩
  refine r1.run M mu σ ρ S H _ E _ ok en hw (fun k H1 S1 k1 ok1 h1 => ?_) x
  cases k with
  | true => rw [if_pos rfl] at h1 ⊢; exact r2.run M mu σ ρ S1 H1 P E Q ok1 (en.keep ok k1) h1 (n.mono k1) (x.mono k1)
  | false => rw [if_neg Bool.false_ne_true] at h1 ⊢; exact n _ H1 S1 k1 ok1 h1
theorem rd_or {K : PySem.W.Frag} {t1 t2 : TT} (r1 : RdT K W t1 ta) (r2 : RdT K W t2 tb) : RdT K W (tOr t1 t2) (wOrT ta tb) := by
  refine ⟨fun M mu σ ρ S H P E Q ok en hw n x => ?_⟩
  refine r1.run M mu σ ρ S H _ E _ ok en hw (fun k H1 S1 k1 ok1 h1 => ?_) x
  cases k with
  | false => rw [if_neg Bool.false_ne_true] at h1 ⊢; exact r2.run M mu σ ρ S1 H1 P E Q ok1 (en.keep ok k1) h1 (n.mono k1) (x.mono k1)
  | true => rw [if_pos rfl] at h1 ⊢; exact n _ H1 S1 k1 ok1 h1
theorem dw_and1 (h : DT X W a ta) : DTW X W (.BoolOp .And [a] pos) ta := let ⟨_, p, r⟩ := h.ex; ⟨_, pw_and1 p, r⟩
theorem dw_or1 (h : DT X W a ta) : DTW X W (.BoolOp .Or [a] pos) ta := let ⟨_, p, r⟩ := h.ex; ⟨_, pw_or1 p, r⟩
theorem dw_and (h : DT X W a ta) (h2 : DTW X W (.BoolOp .And (b :: rest) pos) tb) : DTW X W (.BoolOp .And (a :: b :: rest) pos) (wAndT ta tb) :=
  let ⟨_, p, r⟩ := h.ex; let ⟨_, p2, r2⟩ := h2.ex; ⟨_, pw_and p p2, rd_and r r2⟩
theorem dw_or (h : DT X W a ta) (h2 : DTW X W (.BoolOp .Or (b :: rest) pos) tb) : DTW X W (.BoolOp .Or (a :: b :: rest) pos) (wOrT ta tb) :=
  let ⟨_, p, r⟩ := h.ex; let ⟨_, p2, r2⟩ := h2.ex; ⟨_, pw_or p p2, rd_or r r2⟩
theorem dt_w (h : DTW X W a ta) : DT X W a ta := let ⟨_, p, r⟩ := h.ex; ⟨_, p.pt, r⟩
theorem dt_not (h : DT X W a ta) : DT X W (.UnaryOp .Not a pos) (wNotT ta) := by
  obtain ⟨_, p, r⟩ := h.ex
  exact ⟨_, pt_not p, ⟨fun M mu σ ρ S H P E Q ok en hw n x => r.run M mu σ ρ S H _ E _ ok en hw (fun k H1 S1 k1 ok1 h1 => n _ H1 S1 k1 ok1 h1) x⟩⟩
def wAndV (a b : DW) : DW := fun ρ S P E => a ρ S (fun x S1 => match x with
  | .bl k => if k = true then b ρ S1 P E else P (.bl false) S1
  | _ => False) E
def wOrV (a b : DW) : DW := fun ρ S P E => a ρ S (fun x S1 => match x with
  | .bl k => if k = true then P (.bl true) S1 else b ρ S1 P E
  | _ => False) E
def notD (x : D) (S : Sto) (P : DK) : Prop := match x with
  | .bl k => P (.bl (!k)) S
  | _ => False
theorem de_one {op} (h : DE X W a wa) : DE X W (.BoolOp op [a] pos) wa := let ⟨_, p, r⟩ := h.ex; ⟨_, pe_one p, r⟩
theorem de_and (h : DE X W a wa) (h2 : DE X W (.BoolOp .And (b :: rest) pos) wb) : DE X W (.BoolOp .And (a :: b :: rest) pos) (wAndV wa wb) := by
  obtain ⟨_, p, r⟩ := h.ex
  obtain ⟨_, p2, r2⟩ := h2.ex
  refine ⟨_, pe_and p p2, ⟨fun M mu σ ρ S H P E Q ok en hw n x => ?_⟩⟩
  refine r.run M mu σ ρ S H _ E _ ok en hw (fun v H1 d S1 k1 ok1 r1 h1 => ?_) x
  cases d with
  | bl k =>
    refine ⟨k, r1, ?_⟩
    cases k with
    | true => rw [if_pos rfl]; exact r2.run M mu σ ρ S1 H1 P E Q ok1 (en.keep ok k1) h1 (n.mono k1) (x.mono k1)
    | false => rw [if_neg Bool.false_ne_true]; exact n _ H1 (.bl false) S1 k1 ok1 rfl h1
  | _ => exact h1.elim
theorem de_or (h : DE X W a wa) (h2 : DE X W (.BoolOp .Or (b :: rest) pos) wb) : DE X W (.BoolOp .Or (a :: b :: rest) pos) (wOrV wa wb) := by
  obtain ⟨_, p, r⟩ := h.ex
  obtain ⟨_, p2, r2⟩ := h2.ex
  refine ⟨_, pe_or p p2, ⟨fun M mu σ ρ S H P E Q ok en hw n x => ?_⟩⟩
  refine r.run M mu σ ρ S H _ E _ ok en hw (fun v H1 d S1 k1 ok1 r1 h1 => ?_) x
  cases d with
  | bl k =>
    refine ⟨k, r1, ?_⟩
    cases k with
    | false => rw [if_neg Bool.false_ne_true]; exact r2.run M mu σ ρ S1 H1 P E Q ok1 (en.keep ok k1) h1 (n.mono k1) (x.mono k1)
    | true => rw [if_pos rfl]; exact n _ H1 (.bl true) S1 k1 ok1 rfl h1
  | _ => exact h1.elim
theorem de_not (h : DE X W a wa) : DE X W (.UnaryOp .Not a pos) (wUn notD wa) := by
  obtain ⟨_, p, r⟩ := h.ex
  refine ⟨_, pe_not p, ⟨fun M mu σ ρ S H P E Q ok en hw n x => ?_⟩⟩
  refine r.run M mu σ ρ S H _ E _ ok en hw (fun v H1 d S1 k1 ok1 r1 h1 => ?_) x
  cases d with
  | bl k => exact ⟨k, r1, n _ H1 (.bl (!k)) S1 k1 ok1 rfl h1⟩
  | _ => exact h1.elim
def wIf (t : DWT) (a b : DW) : DW := fun ρ S P E => t ρ S (fun k S1 => if k = true then a ρ S1 P E else b ρ S1 P E) E
theorem de_if (ht : DT X W c tc) (ha : DE X W a wa) (hb : DE X W b wb) : DE X W (.IfExp c a b pos) (wIf tc wa wb) := by
  obtain ⟨_, p, r⟩ := ht.ex
  obtain ⟨_, p1, r1⟩ := ha.ex
  obtain ⟨_, p2, r2⟩ := hb.ex
  refine ⟨_, pe_ifExp p p1 p2, ⟨fun M mu σ ρ S H P E Q ok en hw n x => ?_⟩⟩
  refine r.run M mu σ ρ S H _ E _ ok en hw (fun k H1 S1 k1 ok1 h1 => ?_) x
  cases k with
  | true => rw [if_pos rfl] at h1 ⊢; exact r1.run M mu σ ρ S1 H1 P E Q ok1 (en.keep ok k1) h1 (n.mono k1) (x.mono k1)
  | false => rw [if_neg Bool.false_ne_true] at h1 ⊢; exact r2.run M mu σ ρ S1 H1 P E Q ok1 (en.keep ok k1) h1 (n.mono k1) (x.mono k1)
/-! ### truth -/
def truD (x : D) (S : Sto) (P : Bool → Sto → Prop) : Prop := match val S x with
  | .non => P false S
  | .bl k => P k S
  | .int i => P (i != 0) S
  | .str s => s.length ≤ 1000000 ∧ P ((s.length : Int) != 0) S
  | .lst ds => P (!ds.isEmpty) S
  | .tup ds => P (!ds.isEmpty) S
  | _ => False
def wTru (w : DW) : DWT := fun ρ S P E => w ρ S (fun x S1 => truD x S1 P) E
theorem Rs.emp {K : PySem.W.Frag} {M : Addr → Prop} {mu : List Addr} {H : Hp} {ds : List D} {vs : List V} (r : Rs K M mu H ds vs) : vs.isEmpty = ds.isEmpty := by
  have := r.len
  cases ds <;> cases vs <;> simp_all
theorem val_non {K : PySem.W.Frag} {M : Addr → Prop} {mu : List Addr} {H : Hp} {S : Sto} {x : D} {v : V} (r : R K M mu H x v) (e : val S x = .non) : v = .non := by
  cases x with
  | loc j => exact absurd e val_ne_non
  | non => exact r
  | _ => simp [val] at e
theorem val_bl {K : PySem.W.Frag} {M : Addr → Prop} {mu : List Addr} {H : Hp} {S : Sto} (w : Wok K M mu H S) {x : D} {v : V} {i : Bool} (r : R K M mu H x v) (e : val S x = .bl i) : v = .bl i := by
  cases x with
  | loc j =>
    obtain ⟨a, h1, h2⟩ := r
    exact (show False from w.at_ j a _ h2 (val_loc e (by simp))).elim
  | bl j =>
    have e' : j = i := by simpa [val] using e
    subst e'
    exact r
  | _ => simp [val] at e
theorem dt_tru (h : DE X W a wa) (he : ∀ whole, isTrue a X.env whole = (do let v ← whole; standAt a.pos; holding [v] (truthy v)) := by intro _; rfl) : DT X W a (wTru wa) := by
  obtain ⟨_, p, r⟩ := h.ex
  refine ⟨_, pt_truth p he, ⟨fun M mu σ ρ S H P E Q ok en hw n x => ?_⟩⟩
  refine r.run M mu σ ρ S H _ E _ ok en hw (fun v H1 d S1 k1 ok1 r1 h1 => ?_) x
  unfold truD at h1
  cases e1 : val S1 d with
  | non => simp only [e1] at h1; obtain rfl := val_non r1 e1; exact ⟨false, rfl, n _ H1 S1 k1 ok1 h1⟩
  | bl k => simp only [e1] at h1; obtain rfl := val_bl ok1 r1 e1; exact ⟨k, rfl, n _ H1 S1 k1 ok1 h1⟩
  | int i => simp only [e1] at h1; obtain rfl := val_int ok1 r1 e1; exact ⟨_, rfl, n _ H1 S1 k1 ok1 h1⟩
  | str s => simp only [e1] at h1; obtain rfl := val_str ok1 r1 e1; exact ⟨_, ⟨line_of h1.1, rfl⟩, n _ H1 S1 k1 ok1 h1.2⟩
  | lst ds => simp only [e1] at h1; obtain ⟨q, vs, rfl, hp, rp⟩ := seq_lst ok1 r1 e1; exact ⟨_, .inl ⟨vs, SqL.of hp, by rw [rp.emp]⟩, n _ H1 S1 k1 ok1 h1⟩
  | tup ds => simp only [e1] at h1; obtain ⟨q, vs, rfl, hp, rp⟩ := seq_tup ok1 r1 e1; exact ⟨_, .inr (.inl ⟨vs, hp, by rw [rp.emp]⟩), n _ H1 S1 k1 ok1 h1⟩
  | _ => simp only [e1] at h1
end
end DL
set_option maxRecDepth 100000
set_option maxHeartbeats 2000000
namespace DL
open PySem PySem.Spec PyProof.Rows L2
/-! ### built-ins by their values -/
abbrev DFn := List D → Sto → DK → Prop
def CallD (K : PySem.W.Frag) (r : List V → Hp → VK → Prop) (f : DFn) : Prop := ∀ (M : Addr → Prop) (mu : List Addr) (H : Hp) (S : Sto) (xs : List D) (vs : List V) (P : DK) (Q : VK), Wok K M mu H S → Rs K M mu H xs vs → f xs S P → Nrm K M mu H P Q → r vs H Q
def wCB (f : DFn) (w : DWA) : DW := fun ρ S P E => w ρ S (fun xs S1 => f xs S1 P) E
theorem rd_cb {K : PySem.W.Frag} {W : WX} {r : List V → Hp → VK → Prop} {f : DFn} {t : TA} {w : DWA} (hf : CallD K r f) (ra : RdA K W t w) : Rd K W (tCB r t) (wCB f w) := by
  refine ⟨fun M mu σ ρ S H P E Q ok en hw n x => ?_⟩
  refine ra.run M mu σ ρ S H _ E _ ok en hw (fun vs H1 ds S1 k1 ok1 r1 h1 => ?_) x
  exact hf M mu H1 S1 ds vs P Q ok1 r1 h1 (n.mono k1)
section
variable {X : Cx} {W : WX} {x : Str} {p pos : Pos} {e : Expr} {es : List Expr} {w : DWA} {id T : String} {r : List V → Hp → VK → Prop} {f : DFn}
theorem de_callB (hc : CallR X (.builtin id) r) (hf : CallD X.K r f) (hg : Gl X x) (hm : X.mg x = none) (hv : bootBuiltins x = some (.builtin id)) (ha : DA X W (e :: es) w) (hn : x ≠ "__name__" := by decide) (hdb : (x == ("__debug__" : Str)) = false := by decide)
    (he : starEach (e :: es) X.env = (false, eval e X.env) :: starEach es X.env := by rfl) (hpl : (backTo pos (starEach es X.env)).any (·.1) = false := by rfl) : DE X W (.Call (.Name x p) (e :: es) [] pos) (wCB f w) :=
  let ⟨_, pa, ra⟩ := ha.ex; ⟨_, pe_callB hc hg hm hv pa hn hdb he hpl, rd_cb hf ra⟩
theorem de_callTy (hc : CallR X (.type T) r) (hf : CallD X.K r f) (hg : Gl X x) (hm : X.mg x = none) (hv : bootBuiltins x = some (.type T)) (ha : DA X W (e :: es) w) (hn : x ≠ "__name__" := by decide) (hdb : (x == ("__debug__" : Str)) = false := by decide)
    (he : starEach (e :: es) X.env = (false, eval e X.env) :: starEach es X.env := by rfl) (hpl : (backTo pos (starEach es X.env)).any (·.1) = false := by rfl) : DE X W (.Call (.Name x p) (e :: es) [] pos) (wCB f w) :=
  let ⟨_, pa, ra⟩ := ha.ex; ⟨_, pe_callTy hc hg hm hv pa hn hdb he hpl, rd_cb hf ra⟩
end
section
variable {K : PySem.W.Frag}
/-- len -/
def lenD : DFn := fun xs S P => match xs with
  | [x] => (match val S x with
    | .lst ds => P (.int ds.length) S
    | .tup ds => P (.int ds.length) S
    | .str s => s.length ≤ 1000000 ∧ P (.int s.length) S
    | _ => False)
  | _ => False
theorem Rs.one {M : Addr → Prop} {mu : List Addr} {H : Hp} {d : D} {vs : List V} (r : Rs K M mu H [d] vs) : ∃ v, vs = [v] ∧ R K M mu H d v := by
  obtain ⟨v, r, rfl, h1, h2⟩ := r
  obtain rfl : r = [] := h2
  exact ⟨v, rfl, h1⟩
theorem Rs.two {M : Addr → Prop} {mu : List Addr} {H : Hp} {d e : D} {vs : List V} (r : Rs K M mu H [d, e] vs) : ∃ v u, vs = [v, u] ∧ R K M mu H d v ∧ R K M mu H e u := by
  obtain ⟨v, r, rfl, h1, h2⟩ := r
  obtain ⟨u, rfl, h3⟩ := Rs.one h2
  exact ⟨v, u, rfl, h1, h3⟩
theorem calld_len : CallD K (fun xs H Q => ∃ x n, xs = [x] ∧ LenV K x H n ∧ Q (.int n) H) lenD := by
  intro M mu H S xs vs P Q ok r h n
  match xs, r, h with
  | [x], r, h =>
    obtain ⟨v, rfl, r1⟩ := r.one
    unfold lenD at h
    cases e1 : val S x with
    | lst ds =>
      simp only [e1] at h
      obtain ⟨a, us, rfl, ha, ra⟩ := seq_lst ok r1 e1
      exact ⟨_, us.length, rfl, .inl ⟨us, SqL.of ha, rfl⟩, n _ H (.int ds.length) S (.refl _ _) ok (by rw [ra.len]; rfl) h⟩
    | tup ds =>
      simp only [e1] at h
      obtain ⟨a, us, rfl, ha, ra⟩ := seq_tup ok r1 e1
      exact ⟨_, us.length, rfl, .inr ⟨us, ha, rfl⟩, n _ H (.int ds.length) S (.refl _ _) ok (by rw [ra.len]; rfl) h⟩
    | str s =>
      simp only [e1] at h
      obtain rfl := val_str ok r1 e1
      exact ⟨_, s.length, rfl, ⟨line_of h.1, rfl⟩, n _ H (.int s.length) S (.refl _ _) ok rfl h.2⟩
    | _ => simp only [e1] at h
  | [], _, h => exact h.elim
  | _ :: _ :: _, _, h => exact h.elim
/-- abs -/
def absD : DFn := fun xs S P => match xs with
  | [.int i] => P (.int (if i < 0 then -i else i)) S
  | _ => False
theorem calld_abs : CallD K (fun xs H Q => ∃ i, xs = [V.int i] ∧ Q (.int (if i < 0 then -i else i)) H) absD := by
  intro M mu H S xs vs P Q ok r h n
  unfold absD at h
  split at h
  · rename_i i
    obtain ⟨v, rfl, r1⟩ := r.one
    obtain rfl : v = .int i := r1
    exact ⟨i, rfl, n _ H (.int (if i < 0 then -i else i)) S (.refl _ _) ok rfl h⟩
  · exact h.elim
/-- int -/
def intOfD : DFn := fun xs S P => match xs with
  | [.int i] => P (.int i) S
  | [.bl k] => P (.int (if k then 1 else 0)) S
  | _ => False
theorem calld_int : CallD K (fun xs H Q => (∃ i, xs = [V.int i] ∧ Q (.int i) H) ∨ ∃ k, xs = [V.bl k] ∧ Q (.int (if k then 1 else 0)) H) intOfD := by
  intro M mu H S xs vs P Q ok r h n
  unfold intOfD at h
  split at h
  · rename_i i
    obtain ⟨v, rfl, r1⟩ := r.one
    obtain rfl : v = .int i := r1
    exact .inl ⟨i, rfl, n _ H (.int i) S (.refl _ _) ok rfl h⟩
  · rename_i k
    obtain ⟨v, rfl, r1⟩ := r.one
    obtain rfl : v = .bl k := r1
    exact .inr ⟨k, rfl, n _ H (.int (if k then 1 else 0)) S (.refl _ _) ok rfl h⟩
  · exact h.elim
/-- list(x), tuple(x) of a list or tuple -/
def listD : DFn := fun xs S P => match xs with
  | [x] => (match val S x with
    | .lst ds => P (.lst ds) S
    | .tup ds => P (.lst ds) S
    | _ => False)
  | _ => False
theorem calld_list : CallD K (fun xs H Q => ∃ p ys, xs = [V.ref p] ∧ (SqL K H p ys ∨ SqT K H p ys) ∧ ∀ l, H l = none → Q (.ref l) (upd H l (.lst ys))) listD := by
  intro M mu H S xs vs P Q ok r h n
  match xs, r, h with
  | [x], r, h =>
    obtain ⟨v, rfl, r1⟩ := r.one
    unfold listD at h
    cases e1 : val S x with
    | lst ds =>
      simp only [e1] at h
      obtain ⟨a, us, rfl, ha, ra⟩ := seq_lst ok r1 e1
      refine ⟨a, us, rfl, .inl (SqL.of ha), fun l hl => ?_⟩
      obtain ⟨ok2, k2, _⟩ := ok.alloc hl (.lst us)
      exact n _ _ _ S k2 ok2 (newL ok hl ra) h
    | tup ds =>
      simp only [e1] at h
      obtain ⟨a, us, rfl, ha, ra⟩ := seq_tup ok r1 e1
      refine ⟨a, us, rfl, .inr ha, fun l hl => ?_⟩
      obtain ⟨ok2, k2, _⟩ := ok.alloc hl (.lst us)
      exact n _ _ _ S k2 ok2 (newL ok hl ra) h
    | _ => simp only [e1] at h
  | [], _, h => exact h.elim
  | _ :: _ :: _, _, h => exact h.elim
/-- all, any of bools -/
def blsD : List D → Option (List Bool)
  | [] => some []
  | .bl b :: ds => (blsD ds).map (b :: ·)
  | _ :: _ => none
theorem bls_ok {M : Addr → Prop} {mu : List Addr} {H : Hp} : ∀ {ds : List D} {vs : List V} {bs : List Bool}, Rs K M mu H ds vs → blsD ds = some bs → vs = bs.map V.bl
  | [], vs, bs, r, e => by obtain rfl : vs = [] := r; obtain rfl : ([] : List Bool) = bs := Option.some.inj e; rfl
  | d :: ds, vs, bs, r, e => by
    obtain ⟨v, rr, rfl, h1, h2⟩ := r
    cases d with
    | bl b =>
      obtain ⟨cs, e1, rfl⟩ := Option.map_eq_some_iff.mp (show (blsD ds).map (b :: ·) = some bs from e)
      obtain rfl : v = .bl b := h1
      rw [bls_ok h2 e1]
      rfl
    | _ => simp [blsD] at e
def allD (any : Bool) : DFn := fun xs S P => match xs with
  | [x] => (match val S x with
    | .lst ds => (match blsD ds with
      | some bs => P (.bl (if any then bs.any id else bs.all id)) S
      | none => False)
    | _ => False)
  | _ => False
theorem calld_all : CallD K (rAll K) (allD false) := by
  intro M mu H S xs vs P Q ok r h n
  match xs, r, h with
  | [x], r, h =>
    obtain ⟨v, rfl, r1⟩ := r.one
    unfold allD at h
    cases e1 : val S x with
    | lst ds =>
      simp only [e1] at h
      obtain ⟨a, us, rfl, ha, ra⟩ := seq_lst ok r1 e1
      cases e2 : blsD ds with
      | none => simp only [e2] at h
      | some bs =>
        simp only [e2] at h
        rw [bls_ok ra e2] at ha
        exact ⟨a, bs, rfl, SqL.of ha, n _ H (.bl (bs.all id)) S (.refl _ _) ok rfl h⟩
    | _ => simp only [e1] at h
  | [], _, h => exact h.elim
  | _ :: _ :: _, _, h => exact h.elim
theorem calld_any : CallD K (rAny K) (allD true) := by
  intro M mu H S xs vs P Q ok r h n
  match xs, r, h with
  | [x], r, h =>
    obtain ⟨v, rfl, r1⟩ := r.one
    unfold allD at h
    cases e1 : val S x with
    | lst ds =>
      simp only [e1] at h
      obtain ⟨a, us, rfl, ha, ra⟩ := seq_lst ok r1 e1
      cases e2 : blsD ds with
      | none => simp only [e2] at h
      | some bs =>
        simp only [e2] at h
        rw [bls_ok ra e2] at ha
        exact ⟨a, bs, rfl, SqL.of ha, n _ H (.bl (bs.any id)) S (.refl _ _) ok rfl h⟩
    | _ => simp only [e1] at h
  | [], _, h => exact h.elim
  | _ :: _ :: _, _, h => exact h.elim
/-- isinstance against built-in types -/
def isiN (d : D) (T : String) : Option Bool :=
  if T = "int" then (match d with
    | .int _ | .bl _ => some true
    | .non | .str _ | .lst _ | .tup _ | .dk _ => some false
    | _ => none)
  else if T = "bool" then (match d with
    | .bl _ => some true
    | .non | .int _ | .str _ | .lst _ | .tup _ | .dk _ => some false
    | _ => none)
  else if T = "str" then (match d with
    | .str _ => some true
    | .non | .int _ | .bl _ | .lst _ | .tup _ | .dk _ => some false
    | _ => none)
  else if T = "list" then (match d with
    | .lst _ => some true
    | .non | .int _ | .bl _ | .str _ | .tup _ | .dk _ => some false
    | _ => none)
  else if T = "tuple" then (match d with
    | .tup _ => some true
    | .non | .int _ | .bl _ | .str _ | .lst _ | .dk _ => some false
    | _ => none)
  else none
def tyN : D → Option String
  | .non => some "NoneType" | .bl _ => some "bool" | .int _ => some "int" | .str _ => some "str" | .lst _ => some "list" | .tup _ => some "tuple" | .dk _ => some "dict" | _ => none
theorem ty_of {M : Addr → Prop} {mu : List Addr} {H : Hp} {S : Sto} (ok : Wok K M mu H S) {d : D} {v : V} {n : String} (r : R K M mu H d v)
    (e : tyN (val S d) = some n) : TyX K H v (.type n) := by
  cases e1 : val S d with
  | non => rw [e1] at e; cases e; obtain rfl := val_non r e1; exact .base .non
  | bl b => rw [e1] at e; cases e; obtain rfl := val_bl ok r e1; exact .base (.bl b)
  | int b => rw [e1] at e; cases e; obtain rfl := val_int ok r e1; exact .base (.int b)
  | str b => rw [e1] at e; cases e; obtain rfl := val_str ok r e1; exact .base (.str b)
  | lst ds => rw [e1] at e; cases e; obtain ⟨a, vs, rfl, h, _⟩ := seq_lst ok r e1; exact .base (.lst h)
  | tup ds =>
    rw [e1] at e; cases e
    obtain ⟨a, vs, rfl, h, _⟩ := seq_tup ok r e1
    rcases h with (h | ⟨o, h⟩) | ⟨o, its, m, h1, h2, h3⟩
    · exact .base (.tup h)
    · exact .fTuple h
    · exact .kTuple h1 h2
  | dk ds =>
    rw [e1] at e; cases e
    cases d with
    | loc i =>
      obtain ⟨a, rfl, h2⟩ := r
      obtain ⟨es, q, _⟩ := (show Cl K M mu H (.dk ds) a from ok.at_ i a _ h2 (val_loc e1 (by simp)))
      exact .base (.dK q)
    | dk _ =>
      obtain ⟨a, od, es, rfl, q, _⟩ := r
      exact .fDict q
    | _ => simp [val] at e1
  | _ => rw [e1] at e; cases e
theorem isiN_ok {M : Addr → Prop} {mu : List Addr} {H : Hp} {S : Sto} (ok : Wok K M mu H S) {d : D} {v : V} {T : String} {b : Bool} (r : R K M mu H d v) (e : isiN (val S d) T = some b) : ∃ n, tyN (val S d) = some n ∧ TyX K H v (.type n) ∧ PySem.W.kitOne K (.type n) (.type T) = some b := by
  have go : ∀ n, tyN (val S d) = some n → kitB n T = some b → ∃ n, tyN (val S d) = some n ∧ TyX K H v (.type n) ∧ PySem.W.kitOne K (.type n) (.type T) = some b := fun n h1 h2 => ⟨n, h1, ty_of ok r h1, kit_ty h2⟩
  unfold isiN at e
  split at e
  · rename_i hT; subst hT
    cases q : val S d <;> rw [q] at e go <;> first | (cases e; done) | (cases e; exact go _ rfl (by decide +kernel))
  · split at e
    · rename_i hT; subst hT
      cases q : val S d <;> rw [q] at e go <;> first | (cases e; done) | (cases e; exact go _ rfl (by decide +kernel))
    · split at e
      · rename_i hT; subst hT
        cases q : val S d <;> rw [q] at e go <;> first | (cases e; done) | (cases e; exact go _ rfl (by decide +kernel))
      · split at e
        · rename_i hT; subst hT
          cases q : val S d <;> rw [q] at e go <;> first | (cases e; done) | (cases e; exact go _ rfl (by decide +kernel))
        · split at e
          · rename_i hT; subst hT
            cases q : val S d <;> rw [q] at e go <;> first | (cases e; done) | (cases e; exact go _ rfl (by decide +kernel))
          · cases e
/-- one of two types -/
def isiD : DFn := fun xs S P => match xs with
  | [d, .ty T] => (match isiN (val S d) T with
    | some b => P (.bl b) S
    | none => False)
  | [d, .tup [.ty T, .ty U]] => (match isiN (val S d) T, isiN (val S d) U with
    | some b, some c => P (.bl (b || c)) S
    | _, _ => False)
  | _ => False
theorem calld_isi : CallD K (fun xs H Q => rIsi K xs H Q ∨ (rIsiT K xs H Q ∨ rIsiK K xs H Q)) isiD := by
  intro M mu H S xs vs P Q ok r h n
  unfold isiD at h
  split at h
  · rename_i d T
    obtain ⟨v, u, rfl, r1, r2⟩ := r.two
    obtain rfl : u = .ty T := r2
    cases e : isiN (val S d) T with
    | none => simp only [e] at h
    | some b =>
      simp only [e] at h
      obtain ⟨t, _, h1, h2⟩ := isiN_ok ok r1 e
      exact .inl ⟨v, .ty T, .type t, .type T, b, rfl, .ty T, h1, h2, n _ H (.bl b) S (.refl _ _) ok rfl h⟩
  · rename_i d T U
    obtain ⟨v, u, rfl, r1, a, ws, rfl, hk, hs⟩ := r.two
    obtain ⟨c1, c2, rfl, q1, q2⟩ := Rs.two hs
    obtain rfl : c1 = .ty T := q1
    obtain rfl : c2 = .ty U := q2
    cases e : isiN (val S d) T with
    | none => simp only [e] at h
    | some b =>
      cases e' : isiN (val S d) U with
      | none => simp only [e, e'] at h
      | some c =>
        simp only [e, e'] at h
        obtain ⟨t, h0, h1, h2⟩ := isiN_ok ok r1 e
        obtain ⟨t', h0', h1', h2'⟩ := isiN_ok ok r1 e'
        obtain rfl : t = t' := Option.some.inj (h0.symm.trans h0')
        have ka : PySem.W.kitAny K (.type t) [.type T, .type U] = some (b || c) := by
          refine kitAny_cons h2 (fun hb => ?_) (fun hb => by rw [hb]; rfl)
          subst hb
          exact kitAny_cons h2' (fun hc => by rw [hc]; exact kitAny_nil) (fun hc => by rw [hc]; rfl)
        have fin : Q (.bl (b || c)) H := n _ H (.bl (b || c)) S (.refl _ _) ok rfl h
        exact .inr (.inl ⟨v, a, [.ty T, .ty U], .type t, [.type T, .type U], b || c, rfl, hk, .cons (.ty T) (.cons (.ty U) .nil), h1, ka, fin⟩)
  · exact h.elim
end
end DL
set_option maxRecDepth 100000
set_option maxHeartbeats 2000000
namespace DL
open PySem PySem.Spec PyProof.Rows L2
/-! ### a def's promise over trees -/
abbrev DSp := List D → Sto → DK → Ex → Prop
def toSp (K : PySem.W.Frag) (sp : DSp) : Sp := fun vs H Q E => ∃ (M : Addr → Prop) (mu : List Addr) (S : Sto) (ds : List D) (P : DK) (Ex : Ex), Wok K M mu H S ∧ Rs K M mu H ds vs ∧ sp ds S P Ex ∧ Nrm K M mu H P Q ∧ Exc K M mu H Ex (fun C d H' => E C d H')
def wCall (sp : DSp) (dd : List D) (w : DWA) : DW := fun ρ S P E => w ρ S (fun ds S1 => sp (ds ++ dd) S1 P E) E
section
variable {X : Cx} {W : WX} {CX : CXT} {k : Nat} {f : Addr} {fd : FuncData} {ps : List Str} {sp : DSp} {dvs : List V} {dd : List D} {ds : List Value} {x : Str} {p pos : Pos} {e : Expr} {es : List Expr} {w : DWA}
theorem rd_call {ta : TA} (rd : ∀ M mu H, Rs X.K M mu H dd dvs) (ra : RdA X.K W ta w) : Rd X.K W (tCallSD (toSp X.K sp) dvs (WE W) ta) (wCall sp dd w) := by
  refine ⟨fun M mu σ ρ S H P E Q ok en hw n x => ?_⟩
  refine ra.run M mu σ ρ S H _ E _ ok en hw (fun vs H1 ds S1 k1 ok1 r1 h1 => ?_) x
  exact ⟨M, mu, S1, ds ++ dd, P, E, ok1, r1.app (rd _ _ _), h1, n.mono k1, x.mono k1⟩
theorem de_call (F : FnOk X.prog X.w X.K X.mg X.base CX k f fd ps (toSp X.K sp)) (hr : Room k X.A) (hg : Gl X x) (hm : X.mg x = some (.ref f)) (hk : PySem.W.keepIn X.K (.ref f) = true) (hb : Binds X.K fd ps ds) (hd : Vals dvs ds) (rd : ∀ M mu H, Rs X.K M mu H dd dvs) (hx : ∀ σ, PassesAt CX X σ (WE W σ))
    (ha : DA X W (e :: es) w) (hdb : (x == ("__debug__" : Str)) = false := by decide) (he : starEach (e :: es) X.env = (false, eval e X.env) :: starEach es X.env := by rfl) (hpl : (backTo pos (starEach es X.env)).any (·.1) = false := by rfl) :
    DE X W (.Call (.Name x p) (e :: es) [] pos) (wCall sp dd w) :=
  let ⟨_, pa, ra⟩ := ha.ex; ⟨_, pe_callSD F hr hg hm hk hb hd hx pa hdb he hpl, rd_call rd ra⟩
theorem pe_call0SD {sp : Sp} {E : L2.St → XK} (F : FnOk X.prog X.w X.K X.mg X.base CX k f fd ps sp) (hr : Room k X.A) (hg : Gl X x) (hm : X.mg x = some (.ref f)) (hk : PySem.W.keepIn X.K (.ref f) = true) (hb : Binds X.K fd ps ds) (hd : Vals dvs ds) (hx : ∀ σ, PassesAt CX X σ (E σ))
    (hdb : (x == ("__debug__" : Str)) = false := by decide) : PE X (.Call (.Name x p) [] [] pos) (tCallSD sp dvs E tNil) := by
  refine ⟨fun pins s σ H Q I h => ?_⟩
  refine wpAny_Call_Name_kw (ld_glob I hg hm ?_ hdb)
  exact PySem.W.callWith_K0 I.kIn hk (run_fnSD (us := []) F hr hb hd (hx σ) I .nil h)
theorem de_call0 (F : FnOk X.prog X.w X.K X.mg X.base CX k f fd ps (toSp X.K sp)) (hr : Room k X.A) (hg : Gl X x) (hm : X.mg x = some (.ref f)) (hk : PySem.W.keepIn X.K (.ref f) = true) (hb : Binds X.K fd ps ds) (hd : Vals dvs ds) (rd : ∀ M mu H, Rs X.K M mu H dd dvs) (hx : ∀ σ, PassesAt CX X σ (WE W σ))
    (hdb : (x == ("__debug__" : Str)) = false := by decide) : DE X W (.Call (.Name x p) [] [] pos) (wCall sp dd wNil) :=
  ⟨_, pe_call0SD F hr hg hm hk hb hd hx hdb, rd_call (w := wNil) rd ⟨fun M mu σ ρ S H P E Q ok en hw n x => n [] H [] S (.refl _ _) ok rfl hw⟩⟩
/-- what never raises passes everywhere -/
theorem pass00 : ∀ σ, PassesAt CX0 X σ (WE W σ) := fun _ _ _ _ _ _ _ h => h.elim
/-- keywords: the names' values behind the positional ones -/
theorem run_fnkSD {ks : List Str} {g : List Value → List Value → List Value} {gV : List V → List V → List V} {sp : Sp} {E : L2.St → XK} {pins : List (Addr × Obj)} {σ : L2.St} {H : Hp} {s : Shared} {Q : VK} {us ws : List Value} {vs zs : List V} (F : FnOk X.prog X.w X.K X.mg X.base CX k f fd ps sp) (hr : Room k X.A)
    (hb : KBinds X.K fd ps ks g gV) (hx : PassesAt CX X σ (E σ)) (I : Inv X pins σ H s) (r : Vals vs us) (rz : Vals zs ws) (h : sp (gV vs zs) H Q (E σ)) : wpAny (model X.prog X.w) X.A (call (.ref f) us (ks.zip ws)) (EP X pins σ Q) X.xe s := by
  have r2 := hb.rel r rz
  have hl : (g us ws).length = ps.length := by rw [← r2.length]; exact F.len _ _ _ _ h
  refine wpAny_call (codeAny_mono (F.run X.A X.stack s H ⟨us, ks.zip ws⟩ (g us ws) (gV vs zs) Q (E σ) hr I.env0 (hb.to s us ws I.kIn hl) r2 h) fun r s' hq => ?_)
  cases r with
  | error e => exact hx pins H s e s' I hq
  | ok fl =>
    cases fl with
    | ret u => exact I.after hq
    | next => exact False.elim hq
    | brk => exact False.elim hq
    | cont => exact False.elim hq
end
/-! ### targets -/
def wD (ρ : Loc) : List Nat → Loc
  | [] => ρ
  | v :: vs => (wD ρ vs).set v none
section
variable {K : PySem.W.Frag} {M : Addr → Prop} {mu : List Addr} {H : Hp} {S : Sto} {ρ : Loc} {σ : L2.St}
theorem Env.set (en : Env K M mu H ρ σ) {i : Nat} {d : D} {v : V} (r : R K M mu H d v) : Env K M mu H (ρ.set i (some d)) (σ.set i (some v)) := by
  refine ⟨by simp [en.len], fun j d' h => ?_⟩
  by_cases e : i = j
  · subst e
    by_cases hi : i < ρ.length
    · rw [List.getElem?_set_self hi] at h
      cases h
      exact ⟨v, by rw [List.getElem?_set_self (by rw [← en.len]; exact hi)], r⟩
    · rw [List.getElem?_eq_none (by simp; omega)] at h
      cases h
  · rw [List.getElem?_set_ne e] at h
    obtain ⟨u, h1, h2⟩ := en.get j d' h
    exact ⟨u, by rw [List.getElem?_set_ne e]; exact h1, h2⟩
theorem Env.wipe (en : Env K M mu H ρ σ) : ∀ vs : List Nat, Env K M mu H (wD ρ vs) (wipe σ vs)
  | [] => en
  | v :: vs => by
    have ih := Env.wipe en vs
    refine ⟨by show ((wD ρ vs).set v none).length = ((L2.wipe σ vs).set v none).length; simp [ih.len], fun j d' h => ?_⟩
    have h' : ((wD ρ vs).set v none)[j]? = some (some d') := h
    by_cases e : v = j
    · subst e
      by_cases hi : v < (wD ρ vs).length
      · rw [List.getElem?_set_self hi] at h'; cases h'
      · rw [List.getElem?_eq_none (by simp; omega)] at h'; cases h'
    · rw [List.getElem?_set_ne e] at h'
      obtain ⟨u, h1, h2⟩ := ih.get j d' h'
      exact ⟨u, by show ((L2.wipe σ vs).set v none)[j]? = _; rw [List.getElem?_set_ne e]; exact h1, h2⟩
end
theorem wipe_get (σ : L2.St) : ∀ (vs : List Nat) (i : Nat), (wipe σ vs)[i]? = if i ∈ vs then σ[i]?.map (fun _ => none) else σ[i]?
  | [], i => by simp [wipe]
  | v :: vs, i => by
    show ((wipe σ vs).set v none)[i]? = _
    by_cases e : v = i
    · subst e
      rw [if_pos (by simp)]
      by_cases hi : v < σ.length
      · rw [List.getElem?_set_self (by rw [wipe_length]; exact hi), List.getElem?_eq_getElem hi]; rfl
      · rw [List.getElem?_eq_none (by simp [wipe_length]; omega), List.getElem?_eq_none (by omega)]; rfl
    · rw [List.getElem?_set_ne e, wipe_get σ vs i]
      have : (i ∈ v :: vs) ↔ i ∈ vs := by simp [Ne.symm e]
      by_cases h : i ∈ vs
      · rw [if_pos h, if_pos (this.mpr h)]
      · rw [if_neg h, if_neg (fun q => h (this.mp q))]
theorem wipe_set {σ : L2.St} {vs : List Nat} {i : Nat} {x : Option V} (h : i ∈ vs) : wipe (σ.set i x) vs = wipe σ vs := by
  apply List.ext_getElem?
  intro j
  rw [wipe_get, wipe_get]
  by_cases hj : j ∈ vs
  · rw [if_pos hj, if_pos hj]
    by_cases e : i = j
    · subst e
      by_cases hi : i < σ.length
      · rw [List.getElem?_set_self hi, List.getElem?_eq_getElem hi]; rfl
      · rw [List.getElem?_eq_none (by simp; omega), List.getElem?_eq_none (by omega)]
    · rw [List.getElem?_set_ne e]
  · rw [if_neg hj, if_neg hj, List.getElem?_set_ne (fun e => hj (by rw [← e]; exact h))]
theorem wipe_wipe {σ : L2.St} {vs : List Nat} : wipe (wipe σ vs) vs = wipe σ vs := by
  apply List.ext_getElem?
  intro j
  rw [wipe_get, wipe_get]
  by_cases hj : j ∈ vs
  · simp only [if_pos hj]; cases σ[j]? <;> rfl
  · rw [if_neg hj]
abbrev DWG := D → Sto → Loc → (Loc → Prop) → Prop
/-- what a target asks and does, at the slots is -/
structure RdG (K : PySem.W.Frag) (g : TG) (wg : DWG) (is : List Nat) : Prop where
  run : ∀ (M : Addr → Prop) (mu : List Addr) (σ : L2.St) (ρ : Loc) (S : Sto) (H : Hp) (d : D) (v : V) (P : Loc → Prop) (Q : L2.St → Hp → Prop), Wok K M mu H S → Env K M mu H ρ σ → R K M mu H d v → wg d S ρ P →
    (∀ σ' ρ', Env K M mu H ρ' σ' → (∀ vs, (∀ i ∈ is, i ∈ vs) → wipe σ' vs = wipe σ vs) → P ρ' → Q σ' H) → g v σ H Q
structure DG (X : Cx) (tg : Expr) (wg : DWG) (is : List Nat) : Prop where
  ex : ∃ g, PG X tg g ∧ RdG X.K g wg is
abbrev DWGs := List D → Sto → Loc → (Loc → Prop) → Prop
structure RdGs (K : PySem.W.Frag) (g : TGs) (wg : DWGs) (is : List Nat) : Prop where
  run : ∀ (M : Addr → Prop) (mu : List Addr) (σ : L2.St) (ρ : Loc) (S : Sto) (H : Hp) (d : List D) (v : List V) (P : Loc → Prop) (Q : L2.St → Hp → Prop), Wok K M mu H S → Env K M mu H ρ σ → Rs K M mu H d v → wg d S ρ P →
    (∀ σ' ρ', Env K M mu H ρ' σ' → (∀ vs, (∀ i ∈ is, i ∈ vs) → wipe σ' vs = wipe σ vs) → P ρ' → Q σ' H) → g v σ H Q
structure DGs (X : Cx) (ts : List Expr) (wg : DWGs) (is : List Nat) : Prop where
  ex : ∃ g, PGs X ts g ∧ RdGs X.K g wg is
def wgName (i : Nat) : DWG := fun d _ ρ P => P (ρ.set i (some d))
def wgNil : DWGs := fun ds _ ρ P => ds = [] ∧ P ρ
def wgCons (g : DWG) (gs : DWGs) : DWGs := fun ds S ρ P => match ds with
  | d :: r => g d S ρ fun ρ' => gs r S ρ' P
  | [] => False
def wgTup (gs : DWGs) : DWG := fun d S ρ P => match val S d with
  | .tup ds => gs ds S ρ P
  | _ => False
section
variable {X : Cx} {W : WX} {pos : Pos} {e : Expr} {es : List Expr} {g : DWG} {gs : DWGs} {is js : List Nat}
theorem dg_name {i : Nat} {x : Str} (h : PG X (.Name x pos) (gName i)) : DG X (.Name x pos) (wgName i) [i] :=
  ⟨_, h, ⟨fun M mu σ ρ S H d v P Q ok en r hw n => n _ _ (en.set r) (fun vs hi => wipe_set (hi i (by simp))) hw⟩⟩
theorem dgs_nil : DGs X [] wgNil [] := ⟨_, pgs_nil, ⟨fun M mu σ ρ S H d v P Q ok en r hw n => by
  obtain ⟨rfl, h⟩ := hw
  obtain rfl : v = [] := r
  exact ⟨rfl, n σ ρ en (fun _ _ => rfl) h⟩⟩⟩
theorem dgs_cons (h1 : DG X e g is) (h2 : DGs X es gs js) (hs : (assignEach (e :: es) X.env).map (·.2) = assign e X.env :: (assignEach es X.env).map (·.2) := by rfl) : DGs X (e :: es) (wgCons g gs) (is ++ js) := by
  obtain ⟨_, p1, r1⟩ := h1.ex
  obtain ⟨_, p2, r2⟩ := h2.ex
  refine ⟨_, pgs_cons p1 p2 hs, ⟨fun M mu σ ρ S H d v P Q ok en r hw n => ?_⟩⟩
  cases d with
  | nil => exact hw.elim
  | cons d ds =>
    obtain ⟨u, us, rfl, q1, q2⟩ := r
    refine ⟨u, us, rfl, r1.run M mu σ ρ S H d u _ _ ok en q1 hw fun σ1 ρ1 en1 w1 h1 => ?_⟩
    exact r2.run M mu σ1 ρ1 S H ds us P Q ok en1 q2 h1 fun σ2 ρ2 en2 w2 h2 => n σ2 ρ2 en2 (fun vs hi => (w2 vs fun i hj => hi i (by simp [hj])).trans (w1 vs fun i hj => hi i (by simp [hj]))) h2
theorem dg_tup {k n : Nat} (hc : X.calm = true) (h : DGs X es gs is) (hn : (assignEach es X.env).length = n := by rfl) (hst : (assignEach es X.env).findIdx? (·.1) = none := by rfl) : DG X (.Tuple es k pos) (fun d S ρ P => (match val S d with
    | .tup ds => ds.length = n
    | _ => False) ∧ wgTup gs d S ρ P) is := by
  obtain ⟨_, p, r⟩ := h.ex
  refine ⟨_, pg_tup hc p hn hst, ⟨fun M mu σ ρ S H d v P Q ok en q hw nn => ?_⟩⟩
  obtain ⟨h1, h2⟩ := hw
  unfold wgTup at h2
  cases e1 : val S d with
  | tup ds =>
    simp only [e1] at h1 h2
    obtain ⟨a, vs, rfl, ha, ra⟩ := seq_tup ok q e1
    exact ⟨a, vs, rfl, ha, by rw [← ra.len]; exact h1, r.run M mu σ ρ S H ds vs P Q ok en ra h2 nn⟩
  | _ => simp only [e1] at h1
end
/-! ### what is walked -/
abbrev Src := Option (Nat × List D)
/-- the items of an iterator, and the cell that they stand in -/
def ItOk (K : PySem.W.Frag) (J : It) (M : Addr → Prop) (mu : List Addr) (H : Hp) (items : List D) (src : Src) : Prop :=
  ∀ (M' : Addr → Prop) (mu' : List Addr) (H' : Hp) (S' : Sto), Ext M mu H M' mu' H' → Wok K M' mu' H' S' → (match src with
    | none => True
    | some (j, l) => S'[j]? = some (.lst l)) → ∀ i : Nat,
    (∀ d, items[i]? = some d → J.go i H' ∧ ∀ x H2, J.yld i H' x H2 → Keep mu' H' H2 ∧ Wok K M' mu' H2 S' ∧ R K M' mu' H2 d x) ∧ (items.length ≤ i → J.stop i H')
abbrev DWI := Loc → Sto → (List D → Src → Sto → Prop) → Ex → Prop
structure RdI (K : PySem.W.Frag) (W : WX) (ti : TI) (w : DWI) : Prop where
  run : ∀ (M : Addr → Prop) (mu : List Addr) (σ : L2.St) (ρ : Loc) (S : Sto) (H : Hp) (P : List D → Src → Sto → Prop) (E : Ex) (Q : It → Hp → Prop), Wok K M mu H S → Env K M mu H ρ σ → w ρ S P E →
    (∀ J H' items src S', Keep mu H H' → Wok K M mu H' S' → ItOk K J M mu H' items src → (match src with
      | none => True
      | some (j, l) => S'[j]? = some (.lst l)) → P items src S' → Q J H') → Exc K M mu H E (fun C d H' => W C d σ H') → ti σ H Q
structure DI (X : Cx) (W : WX) (tg iter : Expr) (w : DWI) : Prop where
  ex : ∃ ti, PI X tg iter ti ∧ RdI X.K W ti w
def wiSeq (w : DW) : DWI := fun ρ S P E => w ρ S (fun d S1 => match d with
  | .lst ds => P ds none S1
  | .tup ds => P ds none S1
  | .ktp ds => P ds none S1
  | .loc i => (match val S1 (.loc i) with
    | .lst ds => P ds (some (i, ds)) S1
    | _ => False)
  | _ => False) E
/-- a list or a tuple -/
def iSeq (K : PySem.W.Frag) (tl : TE) : TI := fun σ H R => tl σ H fun x H1 => ∃ a, x = .ref a ∧ (((∃ xs, SqL K H1 a xs) ∧ R (Itl K a) H1) ∨ ((∃ xs, SqT K H1 a xs) ∧ R (Itt K a) H1))
theorem pi_seq {X : Cx} {tg l : Expr} {tl : TE} (hl : PE X l tl) : PI X tg l (iSeq X.K tl) := by
  refine ⟨fun pins s σ H R I h => ?_⟩
  refine thn (hl.run pins s σ H _ I h) fun v s1 ⟨x, H1, I1, r1, q1⟩ => ?_
  obtain ⟨a, e, ⟨⟨xs, hq⟩, q⟩ | ⟨⟨xs, hq⟩, q⟩⟩ := q1
  · subst e
    cases r1
    obtain ⟨its, rv, p, hz⟩ := I1.list hq
    refine wpAny_pyIter_list p.isList ?_
    refine ⟨s1.heap.objs.size, [s1.heap.objs.size], _, _, H1, rfl, I1.kept (t' := s1.toks) fun b o e => Heap.get?_push_of_some _ e, turn_list a _, ⟨_, Heap.get?_push_size _ rfl, rfl, rfl⟩, fun b hb => ?_, q⟩
    have e : b = s1.heap.objs.size := by simpa using hb
    subst e
    exact I1.fpOk (Nat.le_refl _) (I1.hok.fresh (Nat.le_refl _))
  · subst e
    cases r1
    obtain ⟨its, rv, p, hz⟩ := I1.tuple hq
    refine wpAny_pyIter_tuple (show s1.heap.IsTuple a its.toArray from p) ?_
    refine ⟨s1.heap.objs.size, [s1.heap.objs.size], _, _, H1, rfl, I1.kept (t' := s1.toks) fun b o e => Heap.get?_push_of_some _ e, turn_tuple a _, ⟨_, Heap.get?_push_size _ rfl, rfl, rfl⟩, fun b hb => ?_, q⟩
    have e : b = s1.heap.objs.size := by simpa using hb
    subst e
    exact I1.fpOk (Nat.le_refl _) (I1.hok.fresh (Nat.le_refl _))
section
variable {K : PySem.W.Frag} {M : Addr → Prop} {mu : List Addr} {H : Hp}
theorem itOk_list {a : Addr} {vs : List V} {ds : List D} (hm : ¬ M a) (ha : H a = some (.lst vs)) (r : Rs K M mu H ds vs) : ItOk K (Itl K a) M mu H ds none := fun M' mu' H' S' ex ok _ i => by
  have h' := (ex.toExt0.okM hm ha).2
  have r' := Rs.mono ex.toExt0 _ _ r
  refine ⟨fun d hd => ?_, fun hi => ⟨vs, SqL.of h', by rw [← r.len]; exact hi⟩⟩
  obtain ⟨v, hv, rv⟩ := r'.get hd
  refine ⟨⟨vs, v, SqL.of h', hv⟩, fun x H2 y => ?_⟩
  obtain ⟨rfl, y⟩ := y
  obtain rfl : v = x := Option.some.inj (hv.symm.trans (y vs (SqL.of h')))
  exact ⟨.refl _ _, ok, rv⟩
theorem itOk_loc {a : Addr} {j : Nat} {ds : List D} (h : mu[j]? = some a) : ItOk K (Itl K a) M mu H ds (some (j, ds)) := fun M' mu' H' S' ex ok hs i => by
  obtain ⟨vs, h', r'⟩ : Cl K M' mu' H' (.lst ds) a := ok.at_ j a _ (ex.toExt0.at_ h) hs
  refine ⟨fun d hd => ?_, fun hi => ⟨vs, SqL.of h', by rw [← r'.len]; exact hi⟩⟩
  obtain ⟨v, hv, rv⟩ := r'.get hd
  refine ⟨⟨vs, v, SqL.of h', hv⟩, fun x H2 y => ?_⟩
  obtain ⟨rfl, y⟩ := y
  obtain rfl : v = x := Option.some.inj (hv.symm.trans (y vs (SqL.of h')))
  exact ⟨.refl _ _, ok, rv⟩
theorem itOk_tup {a : Addr} {vs : List V} {ds : List D} (h : H a = some (.tup vs) ∨ SqTK K a vs) (r : Rs K M mu H ds vs) : ItOk K (Itt K a) M mu H ds none := fun M' mu' H' S' ex ok _ i => by
  have h' : SqT K H' a vs := h.elim (fun q => SqT.of (ex.toExt0.keepM a _ q (.inr isF_tup))) fun q => q.to
  have r' := Rs.mono ex.toExt0 _ _ r
  refine ⟨fun d hd => ?_, fun hi => ⟨vs, h', by rw [← r.len]; exact hi⟩⟩
  obtain ⟨v, hv, rv⟩ := r'.get hd
  refine ⟨⟨vs, v, h', hv⟩, fun x H2 y => ?_⟩
  obtain ⟨rfl, y⟩ := y
  obtain rfl : v = x := Option.some.inj (hv.symm.trans (y vs h'))
  exact ⟨.refl _ _, ok, rv⟩
def rangeD (lo : Int) (n : Nat) : List D := (List.range n).map fun i => D.int (lo + (i : Nat))
theorem itOk_range {lo : Int} {n : Nat} : ItOk K (Itr lo n) M mu H (rangeD lo n) none := fun M' mu' H' S' ex ok _ i => by
  have hl : (rangeD lo n).length = n := by simp [rangeD]
  refine ⟨fun d hd => ?_, fun hi => by rw [hl] at hi; exact hi⟩
  have hi : i < n := by rw [← hl]; exact (List.getElem?_eq_some_iff.mp hd).1
  have ed : d = .int (lo + (i : Nat)) := by
    unfold rangeD at hd
    rw [List.getElem?_map, List.getElem?_range hi] at hd
    exact (Option.some.inj hd).symm
  refine ⟨hi, fun x H2 y => ?_⟩
  obtain ⟨rfl, rfl⟩ := y
  exact ⟨.refl _ _, ok, by rw [ed]; rfl⟩
end
section
variable {X : Cx} {W : WX} {tg e : Expr} {we : DW} {pos p : Pos}
theorem di_list (h : DE X W e we) : DI X W tg e (wiSeq we) := by
  obtain ⟨_, pa, ra⟩ := h.ex
  refine ⟨_, pi_seq pa, ⟨fun M mu σ ρ S H P E Q ok en hw n x => ?_⟩⟩
  refine ra.run M mu σ ρ S H _ E _ ok en hw (fun v H1 d S1 k1 ok1 r1 h1 => ?_) x
  cases d with
  | lst ds =>
    obtain ⟨a, vs, rfl, hm, ha, rr⟩ := r1
    exact ⟨a, rfl, .inl ⟨⟨vs, SqL.of ha⟩, n _ H1 ds none S1 k1 ok1 (itOk_list hm ha rr) True.intro h1⟩⟩
  | tup ds =>
    obtain ⟨a, vs, rfl, hm, rr⟩ := r1
    exact ⟨a, rfl, .inr ⟨⟨vs, SqT.of hm⟩, n _ H1 ds none S1 k1 ok1 (itOk_tup (.inl hm) rr) True.intro h1⟩⟩
  | ktp ds =>
    obtain ⟨a, vs, rfl, hm, rr⟩ := r1
    exact ⟨a, rfl, .inr ⟨⟨vs, hm.to⟩, n _ H1 ds none S1 k1 ok1 (itOk_tup (.inr hm) rr) True.intro h1⟩⟩
  | loc i =>
    have h1' : (match val S1 (.loc i) with
      | .lst ds => P ds (some (i, ds)) S1
      | _ => False) := h1
    cases q : val S1 (.loc i) with
    | lst ds =>
      rw [q] at h1'
      obtain ⟨a, rfl, ha⟩ := r1
      obtain ⟨vs, h3, h4⟩ : Cl X.K M mu H1 (.lst ds) a := ok1.at_ i a _ ha (val_loc q (by simp))
      exact ⟨a, rfl, .inl ⟨⟨vs, SqL.of h3⟩, n _ H1 ds (some (i, ds)) S1 k1 ok1 (itOk_loc ha) (val_loc q (by simp)) h1'⟩⟩
    | _ => rw [q] at h1'; exact h1'.elim
  | _ => exact h1.elim
def wiRng1 (w : DWA) : DWI := fun ρ S P E => w ρ S (fun ds S1 => match ds with
  | [.int j] => (-1000000 ≤ j ∧ j ≤ 1000000) ∧ P (rangeD 0 j.toNat) none S1
  | _ => False) E
def wiRng2 (w : DWA) : DWI := fun ρ S P E => w ρ S (fun ds S1 => match ds with
  | [.int i, .int j] => (-1000000 ≤ i ∧ i ≤ 1000000 ∧ -1000000 ≤ j ∧ j ≤ 1000000) ∧ P (rangeD i (j - i).toNat) none S1
  | _ => False) E
theorem di_range1 {a : Expr} {w : DWA} (hg : Gl X "range") (hm : X.mg "range" = none) (ha : DA X W [a] w) (hs : starEach [a] X.env = [(false, eval a X.env)] := by rfl) : DI X W tg (.Call (.Name "range" p) [a] [] pos) (wiRng1 w) := by
  obtain ⟨_, pa, ra⟩ := ha.ex
  refine ⟨_, pi_range1 hg hm pa hs, ⟨fun M mu σ ρ S H P E Q ok en hw n x => ?_⟩⟩
  refine ra.run M mu σ ρ S H _ E _ ok en hw (fun vs H1 ds S1 k1 ok1 r1 h1 => ?_) x
  split at h1
  · rename_i j
    obtain ⟨v, rfl, r2⟩ := Rs.one r1
    obtain rfl : v = .int j := r2
    exact ⟨j, rfl, by omega, by omega, n _ H1 _ none S1 k1 ok1 itOk_range True.intro h1.2⟩
  · exact h1.elim
theorem di_range2 {a b : Expr} {w : DWA} (hg : Gl X "range") (hm : X.mg "range" = none) (ha : DA X W [a, b] w) (hs : starEach [a, b] X.env = [(false, eval a X.env), (false, eval b X.env)] := by rfl) (hs2 : starEach [b] X.env = [(false, eval b X.env)] := by rfl) : DI X W tg (.Call (.Name "range" p) [a, b] [] pos) (wiRng2 w) := by
  obtain ⟨_, pa, ra⟩ := ha.ex
  refine ⟨_, pi_range2 hg hm pa hs hs2, ⟨fun M mu σ ρ S H P E Q ok en hw n x => ?_⟩⟩
  refine ra.run M mu σ ρ S H _ E _ ok en hw (fun vs H1 ds S1 k1 ok1 r1 h1 => ?_) x
  split at h1
  · rename_i i j
    obtain ⟨v, u, rfl, r2, r3⟩ := Rs.two r1
    obtain rfl : v = .int i := r2
    obtain rfl : u = .int j := r3
    exact ⟨i, j, rfl, ⟨by omega, by omega, by omega, by omega⟩, n _ H1 _ none S1 k1 ok1 itOk_range True.intro h1.2⟩
  · exact h1.elim
end
end DL
set_option maxRecDepth 100000
set_option maxHeartbeats 2000000
namespace DL
open PySem PySem.Spec PyProof.Rows L2
/-! ### comprehensions -/
abbrev EF : Ex := fun _ _ _ => False
def lcW (g : DWG) (tt : DWT) (te : DW) (ρ : Loc) (P : List D → Sto → Prop) : List D → List D → Sto → Prop
  | [], acc, S => acc.length ≤ 1000000 ∧ P acc S
  | x :: xs, acc, S => acc.length ≤ 1000000 ∧ g x S ρ fun ρ' => tt ρ' S (fun b S1 => if b = true then te ρ' S1 (fun y S2 => lcW g tt te ρ P xs (acc ++ [y]) S2) EF else lcW g tt te ρ P xs acc S1) EF
theorem lcW_len {g : DWG} {tt : DWT} {te : DW} {ρ : Loc} {P : List D → Sto → Prop} : ∀ {xs acc : List D} {S : Sto}, lcW g tt te ρ P xs acc S → acc.length ≤ 1000000
  | [], _, _, h => h.1
  | _ :: _, _, _, h => h.1
/-- the items' source, then the loop; the block's own slots vs are forgotten -/
def wLc (wi : DWI) (g : DWG) (tt : DWT) (te : DW) (vs : List Nat) : DW := fun ρ S P E => wi ρ S (fun items src S1 => (match src with
  | none => True
  | some _ => False) ∧ lcW g tt te (wD ρ vs) (fun ds S2 => P (.lst ds) S2) items [] S1) E
def wTYes : DWT := fun _ S P _ => P true S
/-- the block's tests -/
structure DTs (X : Cx) (W : WX) (ifs : List Expr) (w : DWT) : Prop where
  ex : ∃ t, PTs X ifs t ∧ RdT X.K W t w
section
variable {X : Cx} {W : WX} {e c : Expr} {w : DWT}
theorem dts_nil : DTs X W [] wTYes := ⟨_, pts_nil, ⟨fun M mu σ ρ S H P E Q ok en hw n x => n true H S (.refl _ _) ok hw⟩⟩
theorem dts_one (h : DT X W c w) : DTs X W [c] w := let ⟨_, p, r⟩ := h.ex; ⟨_, pts_one p, r⟩
end
/-- exceptions that leave a block: none -/
abbrev W0 : WX := fun _ _ _ _ => False
section
variable {K : PySem.W.Frag} {M : Addr → Prop} {mu : List Addr} {H H' : Hp} {S : Sto}
/-- an address set aside: kept, and in no tree -/
theorem Wok.aside (ok : Wok K M mu H S) {p : Addr} (hp : H p = none) (o : HO) : Ext M mu H (fun a => M a ∨ a = p) mu (upd H p o) ∧ Wok K (fun a => M a ∨ a = p) mu (upd H p o) S := by
  obtain ⟨ok2, k2, nm⟩ := ok.alloc hp o
  have ex : Ext M mu H (fun a => M a ∨ a = p) mu (upd H p o) := ⟨⟨fun b q h n => k2 b q h (n.imp (fun n z => n (ok.sub b z)) id), ⟨[], by simp⟩, fun a h => h.imp id fun e => by rw [e]; exact hp⟩, k2, fun a h => .inl h, fun a h => .inl h, ok.sub⟩
  refine ⟨ex, ok.len, fun a h => .inl (ok.sub a h), ok.nd, fun a h => ?_, fun i a d h1 h2 => ?_⟩
  · rcases h with h | rfl
    · exact ok2.tr a h
    · rw [upd_same]; simp
  · have c := ok.at_ i a d h1 h2
    have n : a ≠ p := fun e => ok.tr a (ok.sub a (List.mem_of_getElem? h1)) (by rw [e]; exact hp)
    have q : (upd H p o) a = H a := upd_ne n
    cases d with
    | lst ds => obtain ⟨vs, h1, h2⟩ := c; exact ⟨vs, q.trans h1, Rs.mono ex.toExt0 _ _ h2⟩
    | dk kvs => obtain ⟨es, h1, h2, h3⟩ := c; exact ⟨es, q.trans h1, h2, Rk.mono ex.toExt0 _ _ h3⟩
    | dt kvs => obtain ⟨es, h1, h2, h3⟩ := c; exact ⟨es, q.trans h1, h2, Rt.mono ex.toExt0 _ _ h3⟩
    | obj C fs => obtain ⟨dx, gs, h1, h2, h3⟩ := c; exact ⟨dx, gs, q.trans h1, h2, Rfs.mono ex.toExt0 _ _ h3⟩
    | tb P z => obtain ⟨rfl, h⟩ := c; exact ⟨rfl, TabM.mono ex.toExt0 q h⟩
    | _ => exact c
/-- less set aside -/
theorem ext_less {M' : Addr → Prop} (h : ∀ a, M a → M' a) : Ext0 M' mu H M mu H := ⟨fun _ _ q _ => q, ⟨[], by simp⟩, fun a m => .inl (h a m)⟩
theorem Wok.less {M' : Addr → Prop} (ok : Wok K M' mu H S) (h : ∀ a, M a → M' a) (s : ∀ a ∈ mu, M a) : Wok K M mu H S := by
  have ex : Ext0 M' mu H M mu H := ext_less h
  refine ⟨ok.len, s, ok.nd, fun a m => ok.tr a (h a m), fun i a d h1 h2 => ?_⟩
  have c := ok.at_ i a d h1 h2
  cases d with
  | lst ds => obtain ⟨vs, h1, h2⟩ := c; exact ⟨vs, h1, Rs.mono ex _ _ h2⟩
  | dk kvs => obtain ⟨es, h1, h2, h3⟩ := c; exact ⟨es, h1, h2, Rk.mono ex _ _ h3⟩
  | dt kvs => obtain ⟨es, h1, h2, h3⟩ := c; exact ⟨es, h1, h2, Rt.mono ex _ _ h3⟩
  | obj C fs => obtain ⟨dx, gs, h1, h2, h3⟩ := c; exact ⟨dx, gs, h1, h2, Rfs.mono ex _ _ h3⟩
  | tb P z => exact ⟨c.1, TabM.mono ex rfl c.2⟩
  | _ => exact c
/-- the object set aside is written -/
theorem Wok.wrote {p : Addr} (ok : Wok K (fun a => M a ∨ a = p) mu H S) (np : p ∉ mu) (hx : ∀ q, H p = some q → ¬ isF q) (o : HO) : Ext0 (fun a => M a ∨ a = p) mu H (fun a => M a ∨ a = p) mu (upd H p o) ∧ Wok K (fun a => M a ∨ a = p) mu (upd H p o) S := by
  have ex : Ext0 (fun a => M a ∨ a = p) mu H (fun a => M a ∨ a = p) mu (upd H p o) := ⟨fun b q h n => by rw [upd_ne (fun e => n.elim (fun n => n (.inr e)) (hx q (by rw [← e]; exact h)))]; exact h, ⟨[], by simp⟩, fun a m => .inl m⟩
  refine ⟨ex, ok.len, ok.sub, ok.nd, fun a m => ?_, fun i a d h1 h2 => ?_⟩
  · by_cases e : a = p
    · rw [e, upd_same]; simp
    · rw [upd_ne e]; exact ok.tr a m
  · have c := ok.at_ i a d h1 h2
    have q : (upd H p o) a = H a := upd_ne fun e => np (by rw [← e]; exact List.mem_of_getElem? h1)
    cases d with
    | lst ds => obtain ⟨vs, h1, h2⟩ := c; exact ⟨vs, q.trans h1, Rs.mono ex _ _ h2⟩
    | dk kvs => obtain ⟨es, h1, h2, h3⟩ := c; exact ⟨es, q.trans h1, h2, Rk.mono ex _ _ h3⟩
    | dt kvs => obtain ⟨es, h1, h2, h3⟩ := c; exact ⟨es, q.trans h1, h2, Rt.mono ex _ _ h3⟩
    | obj C fs => obtain ⟨dx, gs, h1, h2, h3⟩ := c; exact ⟨dx, gs, q.trans h1, h2, Rfs.mono ex _ _ h3⟩
    | tb P z => obtain ⟨rfl, h⟩ := c; exact ⟨rfl, TabM.mono ex q h⟩
    | _ => exact c
end
section
variable {K : PySem.W.Frag} {W : WX} {ti : TI} {g : TG} {tt : TT} {te : TE} {wi : DWI} {wg : DWG} {wt : DWT} {we : DW} {vs is : List Nat}
theorem rd_lc (ri : RdI K W ti wi) (rg : RdG K g wg is) (hs : ∀ i ∈ is, i ∈ vs) (rt : RdT K W0 tt wt) (re : Rd K W0 te we) : Rd K W (tLc ti g tt te vs) (wLc wi wg wt we vs) := by
  refine ⟨fun M mu σ ρ S H P E Q ok en hw n x => ?_⟩
  refine ri.run M mu σ ρ S H _ E _ ok en hw (fun J H1 items src S1 k1 ok1 it hsrc h1 => ?_) x
  obtain ⟨hnone, h1⟩ := h1
  have hsrc0 : src = none := by
    cases src with
    | none => rfl
    | some _ => exact hnone.elim
  subst hsrc0
  intro p hp
  have np : p ∉ mu := fun h => ok1.tr p (ok1.sub p h) hp
  obtain ⟨ex1, oka⟩ := ok1.aside hp (.lst [])
  have en1 := en.keep ok k1
  have good : ∀ H', Keep mu H1 H' → Ext M mu H1 (fun a => M a ∨ a = p) mu H' := fun H' k => ⟨⟨fun b q h nb => k b q h (nb.imp (fun nb z => nb (ok1.sub b z)) id), ⟨[], by simp⟩, fun a h => h.imp id fun e => by rw [e]; exact hp⟩, k, fun a h => .inl h, fun a h => .inl h, ok1.sub⟩
  have xf : ∀ (M : Addr → Prop) H' σ', Exc K M mu H' EF (fun C d H' => W0 C d σ' H') := fun _ _ _ _ _ _ _ _ _ _ _ _ h => h
  refine ⟨fun i m H' => m = items.length - i ∧ i ≤ items.length ∧ ∃ S' acc vacc, Keep mu H1 H' ∧ H' p = some (.lst vacc) ∧ Wok K (fun a => M a ∨ a = p) mu H' S' ∧ Rs K (fun a => M a ∨ a = p) mu H' acc vacc ∧ lcW wg wt we (wD ρ vs) (fun ds S2 => P (.lst ds) S2) (items.drop i) acc S',
    ⟨items.length, by simp, Nat.zero_le _, S1, [], [], ex1.keep, upd_same, oka, rfl, by simpa using h1⟩, ?_⟩
  rintro i m H' ⟨rfl, hi, S', acc, vacc, kH, hpa, okp, racc, hl⟩
  have ex' := good H' kH
  by_cases hlt : i < items.length
  · refine .inr ?_
    rw [List.drop_eq_getElem_cons hlt] at hl
    have hl1 := (it _ _ _ S' ex' okp True.intro i).1 items[i] (List.getElem?_eq_getElem hlt)
    refine ⟨hl1.1, fun H2 => ∃ S2 acc2 vacc2, Keep mu H1 H2 ∧ H2 p = some (.lst vacc2) ∧ Wok K (fun a => M a ∨ a = p) mu H2 S2 ∧ Rs K (fun a => M a ∨ a = p) mu H2 acc2 vacc2 ∧ lcW wg wt we (wD ρ vs) (fun ds S2 => P (.lst ds) S2) (items.drop (i + 1)) acc2 S2,
      fun H2 q => ⟨items.length - (i + 1), by omega, rfl, hlt, q⟩, fun y H2 hy => ?_⟩
    obtain ⟨k2, ok2, r2⟩ := hl1.2 y H2 hy
    have enb : Env K (fun a => M a ∨ a = p) mu H2 (wD ρ vs) (wipe σ vs) := (en1.wipe vs).mono (good H2 (kH.trans k2)).toExt0
    have racc2 := racc.keep okp k2
    refine rg.run _ mu _ _ S' H2 items[i] y _ _ ok2 enb r2 hl.2 fun σ3 ρ3 en3 w3 h3 => ?_
    refine ⟨(w3 vs hs).trans wipe_wipe, ?_⟩
    refine rt.run _ mu σ3 ρ3 S' H2 _ EF _ ok2 en3 h3 (fun b H4 S4 k4 ok4 h4 => ?_) (xf _ _ _)
    cases b with
    | false =>
      rw [if_neg Bool.false_ne_true] at h4 ⊢
      exact ⟨S4, acc, vacc, kH.trans (k2.trans k4), k4 _ _ (k2 _ _ hpa (.inl np)) (.inl np), ok4, racc2.keep ok2 k4, h4⟩
    | true =>
      rw [if_pos rfl] at h4 ⊢
      refine re.run _ mu σ3 ρ3 S4 H4 _ EF _ ok4 (en3.keep ok2 k4) h4 (fun v H5 d5 S5 k5 ok5 r5 h5 => ?_) (xf _ _ _)
      have hp5 : H5 p = some (.lst vacc) := k5 _ _ (k4 _ _ (k2 _ _ hpa (.inl np)) (.inl np)) (.inl np)
      have racc5 := (racc2.keep ok2 k4).keep ok4 k5
      have hlen := lcW_len h5
      obtain ⟨exw, okw⟩ := ok5.wrote np (notF_lst hp5) (.lst (vacc ++ [v]))
      refine ⟨vacc, hp5, ?_, S5, acc ++ [d5], vacc ++ [v], ?_, upd_same, okw, (Rs.mono exw _ _ racc5).app ⟨v, [], rfl, R.mono exw _ _ r5, rfl⟩, h5⟩
      · rw [← racc5.len]
        rw [List.length_append, List.length_singleton] at hlen
        rw [sizeLine_eq]
        omega
      · intro b q hb nb
        rw [upd_ne (ne_of_none hb hp)]
        exact k5 _ _ (k4 _ _ (k2 _ _ (kH b q hb nb) nb) nb) nb
  · refine .inl ?_
    have e : i = items.length := by omega
    subst e
    rw [List.drop_length] at hl
    refine ⟨(it _ _ _ S' ex' okp True.intro _).2 (Nat.le_refl _), ?_⟩
    refine n (.ref p) H' (.lst acc) S' (k1.trans kH) (okp.less (fun a h => .inl h) ok1.sub) ?_ hl.2
    exact ⟨p, vacc, rfl, fun h => ok1.tr p h hp, hpa, Rs.mono (ext_less fun a h => .inl h) _ _ racc⟩
end
section
variable {X : Cx} {W : WX} {elt tg iter : Expr} {ifs : List Expr} {scope : Scope} {own : List (Str × Nat)} {pos : Pos} {wi : DWI} {wg : DWG} {wt : DWT} {we : DW} {is : List Nat}
/-- the canonical readings -/
def tOf (K : PySem.W.Frag) (W : WX) (w : DW) : TE := fun σ H Q => ∃ (M : Addr → Prop) (mu : List Addr) (ρ : Loc) (S : Sto) (P : DK) (E : Ex), Wok K M mu H S ∧ Env K M mu H ρ σ ∧ w ρ S P E ∧ Nrm K M mu H P Q ∧ Exc K M mu H E (fun C d H' => W C d σ H')
def ttOf (K : PySem.W.Frag) (W : WX) (w : DWT) : TT := fun σ H Q => ∃ (M : Addr → Prop) (mu : List Addr) (ρ : Loc) (S : Sto) (P : Bool → Sto → Prop) (E : Ex), Wok K M mu H S ∧ Env K M mu H ρ σ ∧ w ρ S P E ∧ NrmT K M mu H P Q ∧ Exc K M mu H E (fun C d H' => W C d σ H')
def gOf (K : PySem.W.Frag) (wg : DWG) (is : List Nat) : TG := fun v σ H Q => ∃ (M : Addr → Prop) (mu : List Addr) (ρ : Loc) (S : Sto) (d : D) (P : Loc → Prop), Wok K M mu H S ∧ Env K M mu H ρ σ ∧ R K M mu H d v ∧ wg d S ρ P ∧
  (∀ σ' ρ', Env K M mu H ρ' σ' → (∀ vs, (∀ i ∈ is, i ∈ vs) → wipe σ' vs = wipe σ vs) → P ρ' → Q σ' H)
theorem rd_tOf {K : PySem.W.Frag} {w : DW} : Rd K W (tOf K W w) w := ⟨fun M mu σ ρ S H P E Q ok en hw n x => ⟨M, mu, ρ, S, P, E, ok, en, hw, n, x⟩⟩
theorem rd_ttOf {K : PySem.W.Frag} {w : DWT} : RdT K W (ttOf K W w) w := ⟨fun M mu σ ρ S H P E Q ok en hw n x => ⟨M, mu, ρ, S, P, E, ok, en, hw, n, x⟩⟩
theorem rd_gOf {K : PySem.W.Frag} {wg : DWG} : RdG K (gOf K wg is) wg is := ⟨fun M mu σ ρ S H d v P Q ok en r hw n => ⟨M, mu, ρ, S, d, P, ok, en, r, hw, n⟩⟩
theorem DE.can {e : Expr} {w : DW} (h : DE X W e w) : PE X e (tOf X.K W w) := by
  obtain ⟨t, p, r⟩ := h.ex
  exact ⟨fun pins s σ H Q I ⟨M, mu, ρ, S, P, E, ok, en, hw, n, x⟩ => p.run pins s σ H Q I (r.run M mu σ ρ S H P E Q ok en hw n x)⟩
theorem DTs.can {w : DWT} (h : DTs X W ifs w) : PTs X ifs (ttOf X.K W w) := by
  obtain ⟨t, p, r⟩ := h.ex
  exact ⟨fun pins s σ H Q I ⟨M, mu, ρ, S, P, E, ok, en, hw, n, x⟩ => p.run pins s σ H Q I (r.run M mu σ ρ S H P E Q ok en hw n x)⟩
theorem DG.can {wg : DWG} (h : DG X tg wg is) : PG X tg (gOf X.K wg is) := by
  obtain ⟨t, p, r⟩ := h.ex
  exact ⟨fun pins s σ H v u Q I rv ⟨M, mu, ρ, S, d, P, ok, en, rd, hw, n⟩ => p.run pins s σ H v u Q I rv (r.run M mu σ ρ S H d v P Q ok en rd hw n)⟩
/-- [elt for tg in iter if ..] -/
theorem de_lc (hc : X.calm = true) (hN : X.N.Nodup) (hi : DI X W tg iter wi) (ok : BlkOk X.N X.env.scope scope own)
    (hg : ∀ (s : Shared) (H : Hp) (C : Addr) (cl : List (Str × Addr)) (fp : List Addr), DG (X.blk s H scope (compEnvC scope cl C X.env) fp) tg wg is)
    (ht : ∀ (s : Shared) (H : Hp) (C : Addr) (cl : List (Str × Addr)) (fp : List Addr), DTs (X.blk s H scope (compEnvC scope cl C X.env) fp) W0 ifs wt)
    (he : ∀ (s : Shared) (H : Hp) (C : Addr) (cl : List (Str × Addr)) (fp : List Addr), DE (X.blk s H scope (compEnvC scope cl C X.env) fp) W0 elt we)
    (his : ∀ i ∈ is, i ∈ own.map (·.2) := by decide) (hs : ∀ x, foldedSetIterable iter X.env x = pure x := by intro _; rfl) :
    DE X W (.ListComp elt [⟨tg, iter, ifs, 0⟩] scope pos) (wLc wi wg wt we (own.map (·.2))) := by
  obtain ⟨ti, pi, ri⟩ := hi.ex
  exact ⟨_, pe_lc hc hN pi ok (fun s H C cl fp => (hg s H C cl fp).can) (fun s H C cl fp => (ht s H C cl fp).can) (fun s H C cl fp => (he s H C cl fp).can) hs, rd_lc ri rd_gOf his rd_ttOf rd_tOf⟩
end
/-! ### statements -/
structure DEnds where
  nx : Loc → Sto → Prop
  rt : DK
  bk : Loc → Sto → Prop := fun _ _ => False
  ct : Loc → Sto → Prop := fun _ _ => False
  ex : Ex := EF
  rf : List D → Sto → Prop := fun _ _ => False
abbrev DWS := DEnds → Loc → Sto → Prop
structure EOk (K : PySem.W.Frag) (W : WX) (M : Addr → Prop) (mu : List Addr) (H : Hp) (D : DEnds) (D' : L2.Ends) : Prop where
  nx : ∀ M' mu' σ' ρ' S' H', Ext M mu H M' mu' H' → Wok K M' mu' H' S' → Env K M' mu' H' ρ' σ' → D.nx ρ' S' → D'.nx σ' H'
  rt : ∀ M' mu' v d S' H', Ext M mu H M' mu' H' → Wok K M' mu' H' S' → R K M' mu' H' d v → D.rt d S' → D'.rt v H'
  bk : ∀ M' mu' σ' ρ' S' H', Ext M mu H M' mu' H' → Wok K M' mu' H' S' → Env K M' mu' H' ρ' σ' → D.bk ρ' S' → D'.bk σ' H'
  ct : ∀ M' mu' σ' ρ' S' H', Ext M mu H M' mu' H' → Wok K M' mu' H' S' → Env K M' mu' H' ρ' σ' → D.ct ρ' S' → D'.ct σ' H'
  ex : ∀ M' mu' C d σ' c fs S' H', Ext M mu H M' mu' H' → Wok K M' mu' H' S' → XR K M' mu' H' C d c fs → D.ex c fs S' → W C d σ' H'
  rf : ∀ M' mu' p vs ds S' H', Ext M mu H M' mu' H' → H' p = some (.lst vs) → H p = none → p ∉ mu' → Wok K (fun a => M' a ∨ a = p) mu' H' S' → Rs K (fun a => M' a ∨ a = p) mu' H' ds vs → D.rf ds S' → D'.rt (.ref p) H'
theorem EOk.mono {K : PySem.W.Frag} {W : WX} {M M1 : Addr → Prop} {mu mu1 : List Addr} {H H1 : Hp} {D : DEnds} {D' : L2.Ends} (x : Ext M mu H M1 mu1 H1) (h : EOk K W M mu H D D') : EOk K W M1 mu1 H1 D D' :=
  ⟨fun M' mu' σ' ρ' S' H' e => h.nx M' mu' σ' ρ' S' H' (x.trans e), fun M' mu' v d S' H' e => h.rt M' mu' v d S' H' (x.trans e), fun M' mu' σ' ρ' S' H' e => h.bk M' mu' σ' ρ' S' H' (x.trans e),
    fun M' mu' σ' ρ' S' H' e => h.ct M' mu' σ' ρ' S' H' (x.trans e), fun M' mu' C d σ' c fs S' H' e => h.ex M' mu' C d σ' c fs S' H' (x.trans e),
    fun M' mu' p vs ds S' H' e a b c => h.rf M' mu' p vs ds S' H' (x.trans e) a (x.back b fun z => c (by
      obtain ⟨l, rfl⟩ := e.pre
      obtain ⟨l', rfl⟩ := x.pre
      exact List.mem_append_left _ (List.mem_append_left _ z))) c⟩
theorem EOk.exc {K : PySem.W.Frag} {W : WX} {M : Addr → Prop} {mu : List Addr} {H : Hp} {D : DEnds} {D' : L2.Ends} (h : EOk K W M mu H D D') (s : ∀ a ∈ mu, M a) (σ : L2.St) : Exc K M mu H D.ex (fun C d H' => W C d σ H') :=
  fun C d H' c fs S' k ok x e => h.ex M mu C d σ c fs S' H' (.of s k) ok x e
structure RdS (K : PySem.W.Frag) (W : WX) (t : TS) (w : DWS) : Prop where
  run : ∀ (M : Addr → Prop) (mu : List Addr) (σ : L2.St) (ρ : Loc) (S : Sto) (H : Hp) (D : DEnds) (D' : L2.Ends), Wok K M mu H S → Env K M mu H ρ σ → w D ρ S → EOk K W M mu H D D' → t D' σ H
structure DS (X : Cx) (W : WX) (st : Stmt) (w : DWS) : Prop where
  ex : ∃ t, PS X st t ∧ RdS X.K W t w
structure DSs (X : Cx) (W : WX) (st : List Stmt) (w : DWS) : Prop where
  ex : ∃ t, PSs X st t ∧ RdS X.K W t w
def wsNext : DWS := fun D ρ S => D.nx ρ S
def wsSeq (a b : DWS) : DWS := fun D ρ S => a { D with nx := b D } ρ S
def wsRet (w : DW) : DWS := fun D ρ S => w ρ S D.rt D.ex
def wsRetN : DWS := fun D _ S => D.rt .non S
def wsDrop (w : DW) : DWS := fun D ρ S => w ρ S (fun _ S1 => D.nx ρ S1) D.ex
def wsIf (t : DWT) (a b : DWS) : DWS := fun D ρ S => t ρ S (fun k S1 => if k = true then a D ρ S1 else b D ρ S1) D.ex
def wsAsg (w : DW) (g : DWG) : DWS := fun D ρ S => w ρ S (fun d S1 => g d S1 ρ fun ρ' => D.nx ρ' S1) D.ex
def wsSet (i : Nat) (w : DW) : DWS := fun D ρ S => w ρ S (fun d S1 => D.nx (ρ.set i (some d)) S1) D.ex
def wsBreak : DWS := fun D ρ S => D.bk ρ S
def wsCont : DWS := fun D ρ S => D.ct ρ S
section
variable {X : Cx} {W : WX} {st : Stmt} {rest a b : List Stmt} {e c : Expr} {wa wb : DWS} {w : DW} {wt : DWT} {pos : Pos} {g : DWG} {is : List Nat}
theorem dss_nil : DSs X W [] wsNext := ⟨_, pss_nil, ⟨fun M mu σ ρ S H D D' ok en hw n => n.nx M mu σ ρ S H (.refl ok.sub) ok en hw⟩⟩
theorem rds_seq {K : PySem.W.Frag} {t u : TS} (r1 : RdS K W t wa) (r2 : RdS K W u wb) : RdS K W (tSeq t u) (wsSeq wa wb) :=
  ⟨fun M mu σ ρ S H D D' ok en hw n => r1.run M mu σ ρ S H _ _ ok en hw ⟨fun M' mu' σ' ρ' S' H' x ok' en' h => r2.run M' mu' σ' ρ' S' H' D D' ok' en' h (n.mono x), n.rt, n.bk, n.ct, n.ex, n.rf⟩⟩
theorem dss_cons (h : DS X W st wa) (h2 : DSs X W rest wb) : DSs X W (st :: rest) (wsSeq wa wb) :=
  let ⟨_, p, r⟩ := h.ex; let ⟨_, p2, r2⟩ := h2.ex; ⟨_, pss_cons p p2, rds_seq r r2⟩
theorem dss_one (h : DS X W st wa) : DSs X W [st] wa := let ⟨_, p, r⟩ := h.ex; ⟨_, pss_one p, r⟩
theorem ds_ret (h : DE X W e w) : DS X W (.Return (some e) pos) (wsRet w) := by
  obtain ⟨_, p, r⟩ := h.ex
  exact ⟨_, ps_ret p, ⟨fun M mu σ ρ S H D D' ok en hw n => r.run M mu σ ρ S H _ _ _ ok en hw (fun v H' d S' k ok' r' h => n.rt M mu v d S' H' (.of ok.sub k) ok' r' h) (n.exc ok.sub σ)⟩⟩
theorem ds_retN : DS X W (.Return none pos) wsRetN := ⟨_, ps_retN, ⟨fun M mu σ ρ S H D D' ok en hw n => n.rt M mu .non .non S H (.refl ok.sub) ok rfl hw⟩⟩
theorem ds_pass : DS X W (.Pass pos) wsNext := ⟨_, ps_pass, ⟨fun M mu σ ρ S H D D' ok en hw n => n.nx M mu σ ρ S H (.refl ok.sub) ok en hw⟩⟩
theorem ds_break : DS X W (.Break pos) wsBreak := ⟨_, ps_break, ⟨fun M mu σ ρ S H D D' ok en hw n => n.bk M mu σ ρ S H (.refl ok.sub) ok en hw⟩⟩
theorem ds_continue : DS X W (.Continue pos) wsCont := ⟨_, ps_continue, ⟨fun M mu σ ρ S H D D' ok en hw n => n.ct M mu σ ρ S H (.refl ok.sub) ok en hw⟩⟩
theorem ds_expr (h : DE X W e w) (hs : swapsWith e none pos.line X.env = pure false := by rfl) : DS X W (.Expr e pos) (wsDrop w) := by
  obtain ⟨_, p, r⟩ := h.ex
  exact ⟨_, ps_expr p hs, ⟨fun M mu σ ρ S H D D' ok en hw n => r.run M mu σ ρ S H _ _ _ ok en hw (fun v H' d S' k ok' r' h => n.nx M mu σ ρ S' H' (.of ok.sub k) ok' (en.keep ok k) h) (n.exc ok.sub σ)⟩⟩
theorem ds_if (h : DT X W c wt) (ha : DSs X W a wa) (hb : DSs X W b wb) : DS X W (.If c a b pos) (wsIf wt wa wb) := by
  obtain ⟨_, p, r⟩ := h.ex
  obtain ⟨_, p1, r1⟩ := ha.ex
  obtain ⟨_, p2, r2⟩ := hb.ex
  refine ⟨_, ps_if p p1 p2, ⟨fun M mu σ ρ S H D D' ok en hw n => ?_⟩⟩
  refine r.run M mu σ ρ S H _ _ _ ok en hw (fun k H' S' kp ok' h => ?_) (n.exc ok.sub σ)
  cases k with
  | true => rw [if_pos rfl] at h ⊢; exact r1.run M mu σ ρ S' H' D D' ok' (en.keep ok kp) h (n.mono (.of ok.sub kp))
  | false => rw [if_neg Bool.false_ne_true] at h ⊢; exact r2.run M mu σ ρ S' H' D D' ok' (en.keep ok kp) h (n.mono (.of ok.sub kp))
theorem ds_set {i : Nat} {x : Str} {pos' : Pos} (hN : X.N.Nodup) (hi : X.N[i]? = some x) (hx : L2.Loc X.env.scope x) (he : DE X W e w) (hs : swapsWith e (some (.Name x pos')) pos.line X.env = pure false := by rfl) (hf : X.fn x = true ∨ X.env.scope.names.lookup x = some .local := by first | exact .inl rfl | exact .inr rfl | assumption) :
    DS X W (.Assign [.Name x pos'] e pos) (wsSet i w) := by
  obtain ⟨_, p, r⟩ := he.ex
  exact ⟨_, ps_set hN hi hx p hs hf, ⟨fun M mu σ ρ S H D D' ok en hw n => r.run M mu σ ρ S H _ _ _ ok en hw (fun v H' d S' k ok' r' h => n.nx M mu _ _ S' H' (.of ok.sub k) ok' ((en.keep ok k).set r') h) (n.exc ok.sub σ)⟩⟩
theorem ds_asg {tg : Expr} (he : DE X W e w) (hg : DG X tg g is) (hs : swapsWithSole [tg] e pos.line X.env = pure false := by rfl) (hw : swappedStores [tg] e X.env = pure none := by rfl) (h1 : (assignEach [tg] X.env).map (·.2) = [assign tg X.env] := by rfl) :
    DS X W (.Assign [tg] e pos) (wsAsg w g) := by
  obtain ⟨_, p, r⟩ := he.ex
  obtain ⟨_, q, rg⟩ := hg.ex
  exact ⟨_, ps_asg p q hs hw h1, ⟨fun M mu σ ρ S H D D' ok en hw n => r.run M mu σ ρ S H _ _ _ ok en hw (fun v H' d S' k ok' r' h =>
    rg.run M mu σ ρ S' H' d v _ _ ok' (en.keep ok k) r' h fun σ' ρ' en' _ h' => n.nx M mu σ' ρ' S' H' (.of ok.sub k) ok' en' h') (n.exc ok.sub σ)⟩⟩
end
end DL
set_option maxRecDepth 100000
set_option maxHeartbeats 2000000
namespace DL
open PySem PySem.Spec PyProof.Rows L2
/-! ### for -/
/-- the loop unrolled; src: the cell that the items stand in must stay -/
def forW (g : DWG) (tb : DWS) (Y : DEnds) (all : List D) (src : Src) : List D → Loc → Sto → Prop
  | [], ρ, S => (match src with
    | none => True
    | some (j, l) => S[j]? = some (.lst l)) ∧ Y.nx ρ S
  | x :: xs, ρ, S => (match src with
    | none => True
    | some (j, l) => S[j]? = some (.lst l)) ∧ g x S ρ fun ρ' => tb { Y with nx := forW g tb Y all src xs, ct := forW g tb Y all src xs, bk := Y.nx } ρ' S
theorem forW_src {g : DWG} {tb : DWS} {Y : DEnds} {all : List D} {src : Src} : ∀ {xs : List D} {ρ : Loc} {S : Sto}, forW g tb Y all src xs ρ S → (match src with
    | none => True
    | some (j, l) => S[j]? = some (.lst l))
  | [], _, _, h => h.1
  | _ :: _, _, _, h => h.1
def wsFor (wi : DWI) (g : DWG) (tb : DWS) : DWS := fun Y ρ S => wi ρ S (fun items src S1 => forW g tb Y items src items ρ S1) Y.ex
section
variable {K : PySem.W.Frag} {W : WX} {ti : TI} {g : TG} {tb : TS} {wi : DWI} {wg : DWG} {wb : DWS} {is : List Nat}
theorem rds_for (ri : RdI K W ti wi) (rg : RdG K g wg is) (rb : RdS K W tb wb) : RdS K W (tFor ti g tb) (wsFor wi wg wb) := by
  refine ⟨fun M mu σ ρ S H D D' ok en hw n => ?_⟩
  refine ri.run M mu σ ρ S H _ D.ex _ ok en hw (fun J H1 items src S1 k1 ok1 it hsrc h1 => ?_) (n.exc ok.sub σ)
  have e1 : Ext M mu H M mu H1 := .of ok.sub k1
  refine ⟨fun i m σ' H' => m = items.length - i ∧ i ≤ items.length ∧ ∃ M' mu' ρ' S', Ext M mu H1 M' mu' H' ∧ Wok K M' mu' H' S' ∧ Env K M' mu' H' ρ' σ' ∧ forW wg wb D items src (items.drop i) ρ' S',
    ⟨items.length, by simp, Nat.zero_le _, M, mu, ρ, S1, .refl ok.sub, ok1, en.keep ok k1, by simpa using h1⟩, ?_⟩
  rintro i m σ' H' ⟨rfl, hi, M', mu', ρ', S', ex', ok', en', hl⟩
  have hsr := forW_src hl
  by_cases hlt : i < items.length
  · refine .inr ?_
    rw [List.drop_eq_getElem_cons hlt] at hl
    have hl1 := (it M' mu' H' S' ex' ok' hsr i).1 items[i] (List.getElem?_eq_getElem hlt)
    refine ⟨hl1.1, fun σ2 H2 => ∃ M2 mu2 ρ2 S2, Ext M mu H1 M2 mu2 H2 ∧ Wok K M2 mu2 H2 S2 ∧ Env K M2 mu2 H2 ρ2 σ2 ∧ forW wg wb D items src (items.drop (i + 1)) ρ2 S2,
      fun σ2 H2 q => ⟨items.length - (i + 1), by omega, rfl, hlt, q⟩, fun y H2 hy => ?_⟩
    obtain ⟨k2, ok2, r2⟩ := hl1.2 y H2 hy
    have ex2 : Ext M mu H1 M' mu' H2 := ex'.trans (.of ok'.sub k2)
    refine rg.run M' mu' σ' ρ' S' H2 items[i] y _ _ ok2 (en'.keep ok' k2) r2 hl.2 fun σ3 ρ3 en3 _ h3 => ?_
    refine rb.run M' mu' σ3 ρ3 S' H2 _ _ ok2 en3 h3 ?_
    have n2 : EOk K W M' mu' H2 D D' := n.mono (e1.trans ex2)
    exact ⟨fun M4 mu4 σ4 ρ4 S4 H4 x4 ok4 en4 h4 => ⟨M4, mu4, ρ4, S4, ex2.trans x4, ok4, en4, h4⟩, n2.rt, n2.nx, fun M4 mu4 σ4 ρ4 S4 H4 x4 ok4 en4 h4 => ⟨M4, mu4, ρ4, S4, ex2.trans x4, ok4, en4, h4⟩, n2.ex, n2.rf⟩
  · refine .inl ?_
    have e : i = items.length := by omega
    subst e
    rw [List.drop_length] at hl
    exact ⟨(it M' mu' H' S' ex' ok' hsr _).2 (Nat.le_refl _), n.nx M' mu' σ' ρ' S' H' (e1.trans ex') ok' en' hl.2⟩
end
section
variable {X : Cx} {W : WX} {tg iter : Expr} {body : List Stmt} {wi : DWI} {wg : DWG} {wb : DWS} {is : List Nat} {pos : Pos}
theorem ds_for (hp : PassesOwn (model X.prog X.w) X.A X.env X.xe) (hc : X.calm = true) (hi : DI X W tg iter wi) (hg : DG X tg wg is) (hb : DSs X W body wb)
    (hs : ∀ x, foldedSetIterable iter X.env x = pure x := by intro _; rfl) : DS X W (.For tg iter body [] pos) (wsFor wi wg wb) := by
  obtain ⟨_, pi, ri⟩ := hi.ex
  obtain ⟨_, pg, rg⟩ := hg.ex
  obtain ⟨_, pb, rb⟩ := hb.ex
  exact ⟨_, ps_for hp hc pi pg pb hs, rds_for ri rg rb⟩
/-! ### a, b = x, y; a, b, c = x, y, z -/
def wsPar (is : List Nat) (w : DWA) : DWS := fun D ρ S => w ρ S (fun ds S1 => ds.length = is.length ∧ D.nx ((is.zip ds).foldl (fun r p => r.set p.1 (some p.2)) ρ) S1) D.ex
theorem ds_par {i j : Nat} {x y : Str} {a b : Expr} {w : DWA} {px py pt : Pos} {kt k2 pt2} (hc : X.calm = true) (hN : X.N.Nodup) (hi : X.N[i]? = some x) (hj : X.N[j]? = some y) (hij : i ≠ j)
    (hx : X.env.scope.names.lookup x = some .local) (hy : X.env.scope.names.lookup y = some .local) (ha : DA X W [a, b] w)
    (hw : swappedStores [.Tuple [.Name x px, .Name y py] kt pt] (.Tuple [a, b] k2 pt2) X.env = pure (some [x, y]) := by rfl)
    (hs : swapsWithSole [.Tuple [.Name x px, .Name y py] kt pt] (.Tuple [a, b] k2 pt2) pos.line X.env = pure false := by rfl) :
    DS X W (.Assign [.Tuple [.Name x px, .Name y py] kt pt] (.Tuple [a, b] k2 pt2) pos) (wsPar [i, j] w) := by
  obtain ⟨_, p, r⟩ := ha.ex
  refine ⟨_, ps_par hc hN hi hj hij hx hy p hw hs, ⟨fun M mu σ ρ S H D D' ok en hw n => r.run M mu σ ρ S H _ _ _ ok en hw (fun vs H' ds S' k ok' r' h => ?_) (n.exc ok.sub σ)⟩⟩
  obtain ⟨hl, h⟩ := h
  match ds, hl, r', h with
  | [d1, d2], _, r', h =>
    obtain ⟨v, u, rfl, r1, r2⟩ := r'.two
    exact ⟨v, u, rfl, n.nx M mu _ _ S' H' (.of ok.sub k) ok' (((en.keep ok k).set r1).set r2) h⟩
theorem ds_par3 {i j l : Nat} {x y z : Str} {a b c : Expr} {w : DWA} {px py pz pt : Pos} {kt k2 pt2} (hc : X.calm = true) (hN : X.N.Nodup) (hi : X.N[i]? = some x) (hj : X.N[j]? = some y) (hl : X.N[l]? = some z) (hij : i ≠ j) (hil : i ≠ l) (hjl : j ≠ l)
    (hx : X.env.scope.names.lookup x = some .local) (hy : X.env.scope.names.lookup y = some .local) (hz : X.env.scope.names.lookup z = some .local) (ha : DA X W [a, b, c] w)
    (hw : swappedStores [.Tuple [.Name x px, .Name y py, .Name z pz] kt pt] (.Tuple [a, b, c] k2 pt2) X.env = pure (some [x, y, z]) := by rfl)
    (hs : swapsWithSole [.Tuple [.Name x px, .Name y py, .Name z pz] kt pt] (.Tuple [a, b, c] k2 pt2) pos.line X.env = pure false := by rfl) :
    DS X W (.Assign [.Tuple [.Name x px, .Name y py, .Name z pz] kt pt] (.Tuple [a, b, c] k2 pt2) pos) (wsPar [i, j, l] w) := by
  obtain ⟨_, p, r⟩ := ha.ex
  refine ⟨_, ps_par3 hc hN hi hj hl hij hil hjl hx hy hz p hw hs, ⟨fun M mu σ ρ S H D D' ok en hw n => r.run M mu σ ρ S H _ _ _ ok en hw (fun vs H' ds S' k ok' r' h => ?_) (n.exc ok.sub σ)⟩⟩
  obtain ⟨hl, h⟩ := h
  match ds, hl, r', h with
  | [d1, d2, d3], _, r', h =>
    obtain ⟨v, rr, rfl, r1, r'⟩ := r'
    obtain ⟨u, w, rfl, r2, r3⟩ := Rs.two r'
    exact ⟨v, u, w, rfl, n.nx M mu _ _ S' H' (.of ok.sub k) ok' ((((en.keep ok k).set r1).set r2).set r3) h⟩
/-! ### xs[i] = e, xs a cell -/
def wsStore (we wo wi : DW) : DWS := fun D ρ S => we ρ S (fun d S1 => wo ρ S1 (fun x S2 => wi ρ S2 (fun y S3 => match x, y with
  | .loc j, .int k => (match val S3 (.loc j) with
    | .lst ds => (match ixN ds.length k with
      | some n => D.nx ρ (S3.set j (.lst (ds.set n d)))
      | none => False)
    | _ => False)
  | _, _ => False) D.ex) D.ex) D.ex
section
variable {K : PySem.W.Frag} {M : Addr → Prop} {mu : List Addr} {H : Hp} {S : Sto}
/-- a cell is written -/
theorem Wok.cell (ok : Wok K M mu H S) {j : Nat} {a : Addr} (ha : mu[j]? = some a) (hx : ∀ q, H a = some q → ¬ isF q) {o : HO} {c : D} (hc : Cl K M mu (upd H a o) c a) : Wok K M mu (upd H a o) (S.set j c) ∧ Keep mu H (upd H a o) := by
  have k : Keep mu H (upd H a o) := fun b q h nb => by rw [upd_ne fun e => nb.elim (fun nb => nb (by rw [e]; exact List.mem_of_getElem? ha)) (hx q (by rw [← e]; exact h))]; exact h
  refine ⟨⟨by rw [List.length_set]; exact ok.len, ok.sub, ok.nd, fun b m => ?_, fun i b d h1 h2 => ?_⟩, k⟩
  · by_cases e : b = a
    · rw [e, upd_same]; simp
    · rw [upd_ne e]; exact ok.tr b m
  · by_cases e : j = i
    · subst e
      rw [ha] at h1
      cases h1
      have hj : j < S.length := by rw [ok.len]; exact (List.getElem?_eq_some_iff.mp ha).1
      rw [List.getElem?_set_self hj] at h2
      cases h2
      exact hc
    · rw [List.getElem?_set_ne e] at h2
      refine (ok.at_ i b d h1 h2).keep ok k (upd_ne fun q => ?_)
      subst q
      exact e (nd_ix ok.nd ha h1)
end
theorem ds_store {o i e : Expr} {we wo wx : DW} {spos : Pos} (he : DE X W e we) (ho : DE X W o wo) (hi : DE X W i wx) (hs : swapsWithSole [.Subscript o i spos] e pos.line X.env = pure false := by rfl) (hw : swappedStores [.Subscript o i spos] e X.env = pure none := by rfl)
    (h1 : (assignEach [.Subscript o i spos] X.env).map (·.2) = [assign (.Subscript o i spos) X.env] := by rfl)
    (ha : ∀ v, assign (.Subscript o i spos) X.env v = (do
      let ov ← holding [v] (eval o X.env)
      let iv ← holding [v, ov] (eval i X.env)
      standAt spos
      holding [v, ov, iv] (setItem ov iv v)
      release [v, ov, iv] []) := by intro _; rfl) : DS X W (.Assign [.Subscript o i spos] e pos) (wsStore we wo wx) := by
  obtain ⟨_, p, r⟩ := he.ex
  obtain ⟨_, p1, r1⟩ := ho.ex
  obtain ⟨_, p2, r2⟩ := hi.ex
  refine ⟨_, ps_asg p (pg_sub p1 p2 set_list ha) hs hw h1, ⟨fun M mu σ ρ S H D D' ok en hw n => ?_⟩⟩
  refine r.run M mu σ ρ S H _ _ _ ok en hw (fun v H1 d S1 k1 ok1 q1 h1 => ?_) (n.exc ok.sub σ)
  have n1 := n.mono (.of ok.sub k1)
  refine r1.run M mu σ ρ S1 H1 _ _ _ ok1 (en.keep ok k1) h1 (fun u H2 x S2 k2 ok2 q2 h2 => ?_) (n1.exc ok1.sub σ)
  have n2 := n1.mono (.of ok1.sub k2)
  refine r2.run M mu σ ρ S2 H2 _ _ _ ok2 ((en.keep ok k1).keep ok1 k2) h2 (fun w H3 y S3 k3 ok3 q3 h3 => ?_) (n2.exc ok2.sub σ)
  have n3 := n2.mono (.of ok2.sub k3)
  split at h3
  · rename_i j k
    cases e1 : val S3 (.loc j) with
    | lst ds =>
      simp only [e1] at h3
      cases e2 : ixN ds.length k with
      | none => simp only [e2] at h3
      | some m =>
        simp only [e2] at h3
        obtain ⟨a, rfl, ha⟩ := q2
        obtain rfl : w = .int k := q3
        obtain ⟨vs, hv, rv⟩ : Cl X.K M mu H3 (.lst ds) a := ok3.at_ j a _ ha (val_loc e1 (by simp))
        have q1' := (q1.keep ok1 k2).keep ok2 k3
        have ex : Ext0 M mu H3 M mu (upd H3 a (.lst (vs.set m v))) := ⟨fun b q h nb => by rw [upd_ne fun e => nb.elim (fun nb => nb (by rw [e]; exact ok3.sub a (List.mem_of_getElem? ha))) (notF_lst hv q (by rw [← e]; exact h))]; exact h, ⟨[], by simp⟩, fun a h => .inl h⟩
        obtain ⟨ok4, k4⟩ := ok3.cell (o := .lst (vs.set m v)) (c := .lst (ds.set m d)) ha (notF_lst hv) ⟨vs.set m v, upd_same, Rs.mono ex _ _ (Rs.set q1' m rv)⟩
        exact ⟨a, vs, k, m, rfl, rfl, hv, by rw [← rv.len]; exact e2, n3.nx M mu σ ρ _ _ (.of ok3.sub k4) ok4 ((((en.keep ok k1).keep ok1 k2).keep ok2 k3).keep ok3 k4) h3⟩
    | _ => simp only [e1] at h3
  · exact h3.elim
end
/-! ### a def by its body -/
mutual
/-- no cell from n on is named -/
def lo (n : Nat) : D → Bool
  | .loc i => decide (i < n)
  | .lst ds => los n ds
  | .tup ds => los n ds
  | .ktp ds => los n ds
  | .dk kvs => lok n kvs
  | .dt kvs => lot n kvs
  | .obj _ fs => lofs n fs
  | _ => true
def los (n : Nat) : List D → Bool
  | [] => true
  | d :: ds => lo n d && los n ds
def lok (n : Nat) : List (Key × D) → Bool
  | [] => true
  | (_, d) :: ds => lo n d && lok n ds
def lot (n : Nat) : List (List Key × D) → Bool
  | [] => true
  | (_, d) :: ds => lo n d && lot n ds
def lofs (n : Nat) : List (Str × D) → Bool
  | [] => true
  | (_, d) :: ds => lo n d && lofs n ds
end
section
variable {K : PySem.W.Frag} {M M' : Addr → Prop} {mu l : List Addr} {H : Hp}
theorem and_tt {a b : Bool} (h : (a && b) = true) : a = true ∧ b = true := Bool.and_eq_true_iff.mp h
mutual
theorem R.low (hM : ∀ a, M a → M' a) : ∀ (d : D) (v : V), lo mu.length d = true → R K M' (mu ++ l) H d v → R K M mu H d v
  | .non, v, _, h => h
  | .bl b, v, _, h => h
  | .int i, v, _, h => h
  | .str s, v, _, h => h
  | .ty n, v, _, h => h
  | .cst a, v, _, h => h
  | .loc i, v, q, ⟨a, h1, h2⟩ => ⟨a, h1, by
      have hi : i < mu.length := of_decide_eq_true q
      rw [List.getElem?_append_left hi] at h2
      exact h2⟩
  | .scr ns, v, _, ⟨a, h1, h2⟩ => ⟨a, h1, h2.imp (fun ⟨m, q⟩ => ⟨fun z => m (hM a z), q⟩) id⟩
  | .lst ds, v, q, ⟨a, vs, h1, h2, h3, h4⟩ => ⟨a, vs, h1, fun m => h2 (hM a m), h3, Rs.low hM ds vs q h4⟩
  | .tup ds, v, q, ⟨a, vs, h1, h2, h4⟩ => ⟨a, vs, h1, h2, Rs.low hM ds vs q h4⟩
  | .ktp ds, v, q, ⟨a, vs, h1, h2, h4⟩ => ⟨a, vs, h1, h2, Rs.low hM ds vs q h4⟩
  | .dk kvs, v, q, ⟨a, od, es, h1, h3, h4, h5⟩ => ⟨a, od, es, h1, h3, h4, Rk.low hM kvs _ q h5⟩
  | .dt kvs, v, q, ⟨a, od, es, h1, h3, h4, h5⟩ => ⟨a, od, es, h1, h3, h4, Rt.low hM kvs _ q h5⟩
  | .obj C fs, v, q, ⟨a, dx, gs, h1, h2, h3, h4, h5⟩ => ⟨a, dx, gs, h1, fun m => h2 (hM a m), h3, h4, Rfs.low hM fs _ q h5⟩
theorem Rs.low (hM : ∀ a, M a → M' a) : ∀ (ds : List D) (vs : List V), los mu.length ds = true → Rs K M' (mu ++ l) H ds vs → Rs K M mu H ds vs
  | [], vs, _, h => h
  | d :: ds, vs, q, ⟨v, r, h1, h2, h3⟩ => ⟨v, r, h1, R.low hM d v (and_tt q).1 h2, Rs.low hM ds r (and_tt q).2 h3⟩
theorem Rk.low (hM : ∀ a, M a → M' a) : ∀ (ds : List (Key × D)) (vs : List V), lok mu.length ds = true → Rk K M' (mu ++ l) H ds vs → Rk K M mu H ds vs
  | [], vs, _, h => h
  | (_, d) :: ds, vs, q, ⟨v, r, h1, h2, h3⟩ => ⟨v, r, h1, R.low hM d v (and_tt q).1 h2, Rk.low hM ds r (and_tt q).2 h3⟩
theorem Rt.low (hM : ∀ a, M a → M' a) : ∀ (ds : List (List Key × D)) (vs : List V), lot mu.length ds = true → Rt K M' (mu ++ l) H ds vs → Rt K M mu H ds vs
  | [], vs, _, h => h
  | (_, d) :: ds, vs, q, ⟨v, r, h1, h2, h3⟩ => ⟨v, r, h1, R.low hM d v (and_tt q).1 h2, Rt.low hM ds r (and_tt q).2 h3⟩
theorem Rfs.low (hM : ∀ a, M a → M' a) : ∀ (ds : List (Str × D)) (vs : List V), lofs mu.length ds = true → Rfs K M' (mu ++ l) H ds vs → Rfs K M mu H ds vs
  | [], vs, _, h => h
  | (_, d) :: ds, vs, q, ⟨v, r, h1, h2, h3⟩ => ⟨v, r, h1, R.low hM d v (and_tt q).1 h2, Rfs.low hM ds r (and_tt q).2 h3⟩
end
theorem Cl.low (hM : ∀ a, M a → M' a) {d : D} {a : Addr} (q : lo mu.length d = true) (c : Cl K M' (mu ++ l) H d a) : Cl K M mu H d a := by
  cases d with
  | lst ds => obtain ⟨vs, h1, h2⟩ := c; exact ⟨vs, h1, Rs.low hM ds vs q h2⟩
  | dk kvs => obtain ⟨es, h1, h2, h3⟩ := c; exact ⟨es, h1, h2, Rk.low hM kvs _ q h3⟩
  | dt kvs => obtain ⟨es, h1, h2, h3⟩ := c; exact ⟨es, h1, h2, Rt.low hM kvs _ q h3⟩
  | obj C fs => obtain ⟨dx, gs, h1, h2, h3⟩ := c; exact ⟨dx, gs, h1, h2, Rfs.low hM fs _ q h3⟩
  | tb P z => obtain ⟨h0, ps, h1, h2, h3⟩ := c; exact ⟨h0, ps, h1, h2, fun pos cv hc => let ⟨c, e1, n, e2⟩ := h3 pos cv hc; ⟨c, e1, fun m => n (hM c m), e2⟩⟩
  | _ => exact c
theorem Wok.low {S : Sto} (hM : ∀ a, M a → M' a) (s : ∀ a ∈ mu, M a) (ok : Wok K M' (mu ++ l) H S) (q : (S.take mu.length).all (lo mu.length) = true) : Wok K M mu H (S.take mu.length) := by
  have hl := ok.len
  rw [List.length_append] at hl
  refine ⟨by rw [List.length_take]; omega, s, ok.nd.sublist (List.sublist_append_left _ _), fun a m => ok.tr a (hM a m), fun i a d h1 h2 => ?_⟩
  have hi : i < mu.length := (List.getElem?_eq_some_iff.mp h1).1
  have h3 : S[i]? = some d := by rw [List.getElem?_take_of_lt hi] at h2; exact h2
  exact (ok.at_ i a d (by rw [List.getElem?_append_left hi]; exact h1) h3).low hM (List.all_eq_true.mp q d (List.mem_of_getElem? h2))
end
section
variable {K : PySem.W.Frag} {M : Addr → Prop} {mu : List Addr} {H : Hp}
theorem tt_and {a b : Bool} (h : a = true) (g : b = true) : (a && b) = true := by rw [h, g]; rfl
mutual
theorem R.lo : ∀ (d : D) (v : V), R K M mu H d v → lo mu.length d = true
  | .non, v, _ => rfl
  | .bl b, v, _ => rfl
  | .int i, v, _ => rfl
  | .str s, v, _ => rfl
  | .ty n, v, _ => rfl
  | .cst a, v, _ => rfl
  | .scr a, v, _ => rfl
  | .loc i, v, ⟨a, h1, h2⟩ => decide_eq_true (List.getElem?_eq_some_iff.mp h2).1
  | .lst ds, v, ⟨a, vs, h1, h2, h3, h4⟩ => Rs.lo ds vs h4
  | .tup ds, v, ⟨a, vs, h1, h2, h4⟩ => Rs.lo ds vs h4
  | .ktp ds, v, ⟨a, vs, h1, h2, h4⟩ => Rs.lo ds vs h4
  | .dk kvs, v, ⟨a, od, es, h1, h3, h4, h5⟩ => Rk.lo kvs _ h5
  | .dt kvs, v, ⟨a, od, es, h1, h3, h4, h5⟩ => Rt.lo kvs _ h5
  | .obj C fs, v, ⟨a, dx, gs, h1, h2, h3, h4, h5⟩ => Rfs.lo fs _ h5
  | .tb _ _, v, _ => rfl
theorem Rs.lo : ∀ (ds : List D) (vs : List V), Rs K M mu H ds vs → los mu.length ds = true
  | [], vs, _ => rfl
  | d :: ds, vs, ⟨v, r, h1, h2, h3⟩ => tt_and (R.lo d v h2) (Rs.lo ds r h3)
theorem Rk.lo : ∀ (ds : List (Key × D)) (vs : List V), Rk K M mu H ds vs → lok mu.length ds = true
  | [], vs, _ => rfl
  | (_, d) :: ds, vs, ⟨v, r, h1, h2, h3⟩ => tt_and (R.lo d v h2) (Rk.lo ds r h3)
theorem Rt.lo : ∀ (ds : List (List Key × D)) (vs : List V), Rt K M mu H ds vs → lot mu.length ds = true
  | [], vs, _ => rfl
  | (_, d) :: ds, vs, ⟨v, r, h1, h2, h3⟩ => tt_and (R.lo d v h2) (Rt.lo ds r h3)
theorem Rfs.lo : ∀ (ds : List (Str × D)) (vs : List V), Rfs K M mu H ds vs → lofs mu.length ds = true
  | [], vs, _ => rfl
  | (_, d) :: ds, vs, ⟨v, r, h1, h2, h3⟩ => tt_and (R.lo d v h2) (Rfs.lo ds r h3)
end
theorem Wok.scoped {S : Sto} (ok : Wok K M mu H S) : S.all (lo S.length) = true := by
  rw [List.all_eq_true]
  intro d hd
  obtain ⟨i, hi⟩ := List.getElem?_of_mem hd
  have hl : i < mu.length := by rw [← ok.len]; exact (List.getElem?_eq_some_iff.mp hi).1
  have c := ok.at_ i _ d (List.getElem?_eq_getElem hl) hi
  rw [ok.len]
  cases d with
  | lst ds => obtain ⟨vs, h1, h2⟩ := c; exact Rs.lo ds vs h2
  | dk kvs => obtain ⟨es, h1, h2, h3⟩ := c; exact Rk.lo kvs _ h3
  | dt kvs => obtain ⟨es, h1, h2, h3⟩ := c; exact Rt.lo kvs _ h3
  | obj C fs => obtain ⟨dx, gs, h1, h2, h3⟩ := c; exact Rfs.lo fs _ h3
  | non => rfl
  | tb _ _ => rfl
  | _ => exact c.elim
end
/-- what a def hands back, its own cells' content in their place -/
def thw (n : Nat) (S : Sto) : D → Option D
  | .loc i => if i < n then some (.loc i) else (match S[i]? with
    | some (.lst ds) => if los n ds = true then some (.lst ds) else none
    | _ => none)
  | d => if lo n d = true then some d else none
def endsOf (n : Nat) (P : DK) (E : Ex) : DEnds where
  nx := fun _ S' => (S'.length = n ∧ P .non S') ∨ ((S'.take n).all (lo n) = true ∧ P .non (S'.take n))
  rt := fun d S' => (S'.length = n ∧ P d S') ∨ ∃ d', thw n S' d = some d' ∧ (S'.take n).all (lo n) = true ∧ P d' (S'.take n)
  ex := fun c fs S' => (S'.length = n ∧ E c fs S') ∨ (lofs n fs = true ∧ (S'.take n).all (lo n) = true ∧ E c fs (S'.take n))
def startD (N : Nat) (ds : List D) : Loc := ds.map some ++ List.replicate (N - ds.length) none
theorem env_start {K : PySem.W.Frag} {M : Addr → Prop} {mu : List Addr} {H : Hp} {N : List Str} {ds : List D} {vs : List V} (r : Rs K M mu H ds vs) : Env K M mu H (startD N.length ds) (L2.start N vs) := by
  have hl := r.len
  refine ⟨by simp [startD, L2.start, hl], fun i d h => ?_⟩
  unfold startD at h
  unfold L2.start
  by_cases hi : i < ds.length
  · rw [List.getElem?_append_left (by simpa using hi), List.getElem?_map] at h
    cases e : ds[i]? with
    | none => rw [e] at h; cases h
    | some d' =>
      rw [e] at h
      have e' : d' = d := Option.some.inj (Option.some.inj h)
      subst e'
      obtain ⟨v, hv, rv⟩ := r.get e
      exact ⟨v, by rw [List.getElem?_append_left (by simp; omega), List.getElem?_map, hv]; rfl, rv⟩
  · rw [List.getElem?_append_right (by simp; omega), List.getElem?_replicate] at h
    split at h <;> cases h
theorem eok_def {K : PySem.W.Frag} {M : Addr → Prop} {mu : List Addr} {H : Hp} {S : Sto} {P : DK} {Ex : Ex} {Q : VK} {E : XK} (ok : Wok K M mu H S) (n : Nrm K M mu H P Q) (x : Exc K M mu H Ex (fun C d H' => E C d H')) :
    EOk K (fun C d _ H' => E C d H') M mu H (endsOf S.length P Ex) { nx := fun _ H' => Q .non H', rt := Q } := by
  have hl := ok.len
  have same : ∀ {M' : Addr → Prop} {mu' : List Addr} {H' : Hp} {S' : Sto}, L2.Same H H → DL.Ext M mu H M' mu' H' → Wok K M' mu' H' S' → S'.length = S.length → Wok K M mu H' S' ∧ ∀ {d v}, R K M' mu' H' d v → R K M mu H' d v := fun {M' mu' H' S'} _ e ok' h => by
    obtain ⟨l, rfl⟩ := e.pre
    have : l = [] := by
      have h2 := ok'.len
      rw [List.length_append] at h2
      exact List.length_eq_zero_iff.mp (by omega)
    subst this
    rw [List.append_nil] at ok'
    refine ⟨ok'.less e.up ok.sub, fun {d v} r => ?_⟩
    rw [List.append_nil] at r
    exact R.mono (ext_less e.up) d v r
  refine ⟨fun M' mu' σ' ρ' S' H' e ok' en h => ?_, fun M' mu' v d S' H' e ok' r h => ?_, fun _ _ _ _ _ _ _ _ _ h => h.elim, fun _ _ _ _ _ _ _ _ _ h => h.elim, fun M' mu' C d σ' c fs S' H' e ok' xr h => ?_, fun _ _ _ _ _ _ _ _ _ _ _ _ _ h => h.elim⟩
  · rcases h with ⟨h1, h2⟩ | ⟨h1, h2⟩
    · exact n .non H' .non S' e.keep (same (.refl _) e ok' h1).1 rfl h2
    · obtain ⟨l, rfl⟩ := e.pre
      rw [hl] at h1 h2
      exact n .non H' .non _ e.keep (ok'.low e.up ok.sub h1) rfl h2
  · rcases h with ⟨h1, h2⟩ | ⟨d', h0, h1, h2⟩
    · obtain ⟨q1, q2⟩ := same (.refl _) e ok' h1
      exact n v H' d S' e.keep q1 (q2 r) h2
    · have hnew := e.new
      obtain ⟨l, rfl⟩ := e.pre
      rw [hl] at h0 h1 h2
      refine n v H' d' _ e.keep (ok'.low e.up ok.sub h1) ?_ h2
      have plain : lo mu.length d = true → R K M mu H' d v := fun q => R.low e.up d v q r
      cases d with
      | loc i =>
        have h0 : (if i < mu.length then some (DL.D.loc i) else (match S'[i]? with
          | some (.lst ds) => if los mu.length ds = true then some (DL.D.lst ds) else none
          | _ => none)) = some d' := h0
        by_cases hi : i < mu.length
        · rw [if_pos hi] at h0
          cases h0
          exact plain (decide_eq_true hi)
        · rw [if_neg hi] at h0
          cases q : S'[i]? with
          | none => rw [q] at h0; cases h0
          | some c =>
            rw [q] at h0
            cases c with
            | lst ds =>
              have h0' : (if los mu.length ds = true then some (D.lst ds) else none) = some d' := h0
              by_cases hq : los mu.length ds = true
              · rw [if_pos hq] at h0'
                cases h0'
                obtain ⟨a, rfl, ha⟩ := r
                obtain ⟨vs, g1, g2⟩ : Cl K M' (mu ++ l) H' (.lst ds) a := ok'.at_ i a _ ha q
                refine ⟨a, vs, rfl, fun m => ?_, g1, Rs.low e.up ds vs hq g2⟩
                rcases hnew a (List.mem_of_getElem? ha) with z | z
                · obtain ⟨j, hj⟩ := List.getElem?_of_mem z
                  have hj' : (mu ++ l)[j]? = some a := by
                    rw [List.getElem?_append_left (List.getElem?_eq_some_iff.mp hj).1]; exact hj
                  have := nd_ix ok'.nd ha hj'
                  have := (List.getElem?_eq_some_iff.mp hj).1
                  omega
                · exact ok.tr a m z
              · rw [if_neg hq] at h0'
                cases h0'
            | _ => cases h0
      | _ =>
        simp only [thw] at h0
        split at h0
        · rename_i hq
          cases h0
          exact plain hq
        · cases h0
  · obtain ⟨rfl, a, gs, rfl, hm, ha, hn, hf⟩ := xr
    rcases h with ⟨h1, h2⟩ | ⟨h0, h1, h2⟩
    · obtain ⟨l, rfl⟩ := e.pre
      have : l = [] := by
        have h2 := ok'.len
        rw [List.length_append] at h2
        exact List.length_eq_zero_iff.mp (by omega)
      subst this
      rw [List.append_nil] at ok' hf
      exact x _ _ H' c fs S' e.keep (ok'.less e.up ok.sub) ⟨rfl, a, gs, rfl, fun m => hm (e.up a m), ha, hn, Rfs.mono (ext_less e.up) _ _ hf⟩ h2
    · obtain ⟨l, rfl⟩ := e.pre
      rw [hl] at h0 h1 h2
      exact x _ _ H' c fs _ e.keep (ok'.low e.up ok.sub h1) ⟨rfl, a, gs, rfl, fun m => hm (e.up a m), ha, hn, Rfs.low e.up _ _ h0 hf⟩ h2
section
variable {P : Program} {w : World} {K : PySem.W.Frag} {mg : Str → Option Value} {base : Heap} {x qual : Str} {params : Arguments} {body : List Stmt} {scope : Scope} {dvs : List V} {kws : List (Str × V)} {f : Addr} {fd : FuncData}
/-- THE RULE for a def over trees (CX: CX0, or L2.CX P w where it may raise) -/
theorem ok_def {CX : CXT} {N ps : List Str} {k : Nat} {sp : DSp} {wb : DWS} (F : FunD K x qual params body scope dvs kws f fd) (sc : FnScope N ps scope) (len : ∀ ds S P E, sp ds S P E → ds.length = ps.length)
    (hb : ∀ (cdv : Value) (A : Around) (outer : List PySem.Env) (s : Shared) (H : Hp) (E : XK), Room k (A.deeper (envOfC qual scope s.heap.objs.size f cdv)) → DSs (cxOf CX P w K mg base N qual scope f cdv A outer s H E) (fun C d _ H' => E C d H') body wb)
    (hw : ∀ ds S P E, S.all (lo S.length) = true → sp ds S P E → wb (endsOf S.length P E) (startD N.length ds) S) : FnOk P w K mg base CX (k + 1) f fd ps (toSp K sp) := by
  refine F.ok sc (fun vs H Q E h => ?_) (fun cdv A outer s H vs Q E hr h => ?_)
  · obtain ⟨M, mu, S, ds, P, Ex, ok, r, q, _⟩ := h
    rw [← r.len]
    exact len _ _ _ _ q
  · obtain ⟨M, mu, S, ds, P, Ex, ok, r, q, n, xx⟩ := h
    obtain ⟨t, p, rb⟩ := (hb cdv A outer s H E hr).ex
    refine ⟨t, p, rb.run M mu _ _ S H _ _ ok (env_start r) (hw ds S P Ex ok.scoped q) (eok_def ok n xx)⟩
end
end DL
set_option maxRecDepth 100000
set_option maxHeartbeats 2000000
namespace DL
open PySem PySem.Spec PyProof.Rows L2
/-- a def of the top, as it stands: st at the name x, its own name nm -/
def DefIn (K : PySem.W.Frag) (mg : Str → Option Value) (x nm : Str) (st : Stmt) : Prop := ∃ (f : Addr) (fd : FuncData), FunD K nm nm (defArgs st) (defBody st) (defScope st) [] [] f fd ∧ mg x = some (.ref f)
/-- what a caller knows of x: its promise, how n positional values and the keywords ks bind -/
structure CalF (P : Program) (w : World) (K : PySem.W.Frag) (mg : Str → Option Value) (base : Heap) (CX : CXT) (k : Nat) (x : Str) (ps : List Str) (sp : DSp) (f : Addr) (fd : FuncData) : Prop where
  ok : FnOk P w K mg base CX k f fd ps (toSp K sp)
  mg : mg x = some (.ref f)
  kp : PySem.W.keepIn K (.ref f) = true
  b : Binds K fd ps []
  lk : ∃ (oc : Value) (od : Option Addr) (osl : Array (Option Value)), K.lookup f = some ⟨oc, od, .func fd, osl⟩
def Cal (P : Program) (w : World) (K : PySem.W.Frag) (mg : Str → Option Value) (base : Heap) (CX : CXT) (k : Nat) (x : Str) (ps : List Str) (sp : DSp) : Prop := ∃ f fd, CalF P w K mg base CX k x ps sp f fd
/-- the same for a call by keywords: n positional values, then those named ks, in the parameters' order -/
def CalK (P : Program) (w : World) (K : PySem.W.Frag) (mg : Str → Option Value) (base : Heap) (CX : CXT) (k : Nat) (x : Str) (ps : List Str) (n : Nat) (ks : List Str) (sp : DSp) : Prop := ∃ f fd, CalF P w K mg base CX k x ps sp f fd ∧
  ∀ (s : Shared) (us ws : List Value), us.length = n → ws.length = ks.length → BindsTo s fd ⟨us, ks.zip ws⟩ (ps.zip (us ++ ws))
/-- a global tuple -/
def GTup (K : PySem.W.Frag) (mg : Str → Option Value) (x : Str) (ds : List D) : Prop := ∃ a vs, mg x = some (.ref a) ∧ SqTK K a vs ∧ ∀ M mu H, Rs K M mu H ds vs
section
variable {X : Cx} {W : WX} {CX : CXT} {j k : Nat} {ps ks : List Str} {sp : DSp} {x : Str} {p pos : Pos} {e : Expr} {es : List Expr} {kws : List Keyword} {w wk : DWA}
theorem de_cal (c : Cal X.prog X.w X.K X.mg X.base CX j x ps sp) (hr : Room k X.A) (hx : ∀ σ, PassesAt CX X σ (WE W σ)) (ha : DA X W (e :: es) w) (hjk : j ≤ k := by first | decide | exact Nat.le_refl _ | omega) (hg : Gl X x := by rfl) (hdb : (x == ("__debug__" : Str)) = false := by decide)
    (he : starEach (e :: es) X.env = (false, eval e X.env) :: starEach es X.env := by rfl) (hpl : (backTo pos (starEach es X.env)).any (·.1) = false := by rfl) : DE X W (.Call (.Name x p) (e :: es) [] pos) (wCall sp [] w) :=
  let ⟨_, _, c⟩ := c; de_call c.ok (hr.mono hjk) hg c.mg c.kp c.b .nil (fun _ _ _ => rfl) hx ha hdb he hpl
theorem de_cal0 (c : Cal X.prog X.w X.K X.mg X.base CX j x ps sp) (hr : Room k X.A) (hx : ∀ σ, PassesAt CX X σ (WE W σ)) (hjk : j ≤ k := by first | decide | exact Nat.le_refl _ | omega) (hg : Gl X x := by rfl) (hdb : (x == ("__debug__" : Str)) = false := by decide) : DE X W (.Call (.Name x p) [] [] pos) (wCall sp [] wNil) :=
  let ⟨_, _, c⟩ := c; de_call0 c.ok (hr.mono hjk) hg c.mg c.kp c.b .nil (fun _ _ _ => rfl) hx hdb
/-! ### keywords -/
structure DKw (X : Cx) (W : WX) (kws : List Keyword) (w : DWA) : Prop where
  ex : ∃ t, PK X kws t ∧ RdA X.K W t w
theorem dk_nil : DKw X W [] wNil := ⟨_, pk_nil, ⟨fun M mu σ ρ S H P E Q ok en hw n x => n [] H [] S (.refl _ _) ok rfl hw⟩⟩
theorem dk_cons {nm : Option Str} {kpos : Pos} {we : DW} (ha : DE X W e we) (hs : DKw X W kws w) : DKw X W (⟨nm, e, kpos⟩ :: kws) (wCons we w) := by
  obtain ⟨ta, pa, ra⟩ := ha.ex
  obtain ⟨ts, ps, rs⟩ := hs.ex
  refine ⟨_, pk_cons pa ps, ⟨fun M mu σ ρ S H P E Q ok en hw n x => ?_⟩⟩
  refine ra.run M mu σ ρ S H _ E _ ok en hw (fun v H1 d S1 k1 ok1 r1 h1 => ?_) x
  refine rs.run M mu σ ρ S1 H1 _ E _ ok1 (en.keep ok k1) h1 (fun vs H2 ds S2 k2 ok2 r2 h2 => ?_) (x.mono k1)
  exact n (v :: vs) H2 (d :: ds) S2 (k1.trans k2) ok2 ⟨v, vs, rfl, r1.keep ok1 k2, r2⟩ h2
def wCallK (sp : DSp) (n m : Nat) (w wk : DWA) : DW := fun ρ S P E => w ρ S (fun ds S1 => wk ρ S1 (fun es S2 => ds.length = n ∧ es.length = m ∧ sp (ds ++ es) S2 P E) E) E
theorem run_fnkn {K : PySem.W.Frag} {n : Nat} {fd : FuncData} {f : Addr} {sp : Sp} {E : XK} {pins : List (Addr × Obj)} {σ : L2.St} {H : Hp} {s : Shared} {Q : VK} {us ws : List Value} {vs zs : List V} (F : FnOk X.prog X.w X.K X.mg X.base CX k f fd ps sp) (hr : Room k X.A)
    (hb : ∀ (s : Shared) (us ws : List Value), us.length = n → ws.length = ks.length → BindsTo s fd ⟨us, ks.zip ws⟩ (ps.zip (us ++ ws))) (hx : PassesAt CX X σ E) (I : Inv X pins σ H s) (r : Vals vs us) (rz : Vals zs ws) (l1 : vs.length = n) (l2 : zs.length = ks.length) (h : sp (vs ++ zs) H Q E) :
    wpAny (model X.prog X.w) X.A (call (.ref f) us (ks.zip ws)) (EP X pins σ Q) X.xe s := by
  refine wpAny_call (codeAny_mono (F.run X.A X.stack s H ⟨us, ks.zip ws⟩ (us ++ ws) (vs ++ zs) Q E hr I.env0 (hb s us ws (r.length.symm.trans l1) (rz.length.symm.trans l2)) (r.append rz) h) fun r s' hq => ?_)
  cases r with
  | error e => exact hx pins H s e s' I hq
  | ok fl =>
    cases fl with
    | ret u => exact I.after hq
    | next => exact False.elim hq
    | brk => exact False.elim hq
    | cont => exact False.elim hq
def tCallKn (sp : Sp) (n m : Nat) (E : L2.St → XK) (t tk : TA) : TE := fun σ H Q => t σ H fun vs H1 => tk σ H1 fun zs H2 => vs.length = n ∧ zs.length = m ∧ sp (vs ++ zs) H2 Q (E σ)
theorem rd_callK {K : PySem.W.Frag} {t tk : TA} {n m : Nat} (ra : RdA K W t w) (rk : RdA K W tk wk) : Rd K W (tCallKn (toSp K sp) n m (WE W) t tk) (wCallK sp n m w wk) := by
  refine ⟨fun M mu σ ρ S H P E Q ok en hw nn x => ?_⟩
  refine ra.run M mu σ ρ S H _ E _ ok en hw (fun vs H1 ds S1 k1 ok1 r1 h1 => ?_) x
  refine rk.run M mu σ ρ S1 H1 _ E _ ok1 (en.keep ok k1) h1 (fun us H2 es S2 k2 ok2 r2 h2 => ?_) (x.mono k1)
  refine ⟨by rw [← r1.len]; exact h2.1, by rw [← r2.len]; exact h2.2.1, M, mu, S2, ds ++ es, P, E, ok2, (r1.keep ok1 k2).app r2, h2.2.2, nn.mono (k1.trans k2), x.mono (k1.trans k2)⟩
/-- f(k = v, ..) -/
theorem de_calK0 (c : CalK X.prog X.w X.K X.mg X.base CX j x ps 0 ks sp) (hr : Room k X.A) (hx : ∀ σ, PassesAt CX X σ (WE W σ)) (hk : DKw X W kws wk) (hjk : j ≤ k := by first | decide | exact Nat.le_refl _ | omega) (hg : Gl X x := by rfl) (hall : (backToKw pos (keywordEach kws X.env)).all (·.1.isSome) = true := by rfl)
    (hks : (backToKw pos (keywordEach kws X.env)).filterMap (·.1) = ks := by rfl) (hdb : (x == ("__debug__" : Str)) = false := by decide) (hpl : ((backTo pos (starEach [] X.env)).any (·.1) || (backToKw pos (keywordEach kws X.env)).any (·.1.isNone)) = false := by rfl) :
    DE X W (.Call (.Name x p) [] kws pos) (wCallK sp 0 ks.length wNil wk) := by
  obtain ⟨f, fd, c, hb⟩ := c
  obtain ⟨tk, pk, rk⟩ := hk.ex
  refine ⟨tCallKn (toSp X.K sp) 0 ks.length (WE W) tNil tk, ⟨fun pins s σ H Q I h => ?_⟩, rd_callK (w := wNil) ⟨fun M mu σ ρ S H P E Q ok en hw n x => n [] H [] S (.refl _ _) ok rfl hw⟩ rk⟩
  refine wpAny_Call_Name_kw (ld_glob I hg c.mg ?_ hdb)
  refine PySem.W.callWith_KW0 (h₀ := X.base) I.ok.mod.kin c.kp hall ?_ hpl
  refine thn (pk.run pos pins s σ H _ I h) fun ws s2 ⟨zs, H2, I2, rz, l1, l2, q2⟩ => ⟨I2.kIn, ?_⟩
  rw [hks]
  exact run_fnkn (K := X.K) (us := []) (vs := []) c.ok (hr.mono hjk) hb (hx σ) I2 .nil rz rfl l2 q2
theorem de_calK {n : Nat} (c : CalK X.prog X.w X.K X.mg X.base CX j x ps n ks sp) (hr : Room k X.A) (hx : ∀ σ, PassesAt CX X σ (WE W σ)) (ha : DA X W (e :: es) w) (hk : DKw X W kws wk) (hjk : j ≤ k := by first | decide | exact Nat.le_refl _ | omega) (hg : Gl X x := by rfl) (hall : (backToKw pos (keywordEach kws X.env)).all (·.1.isSome) = true := by rfl)
    (hks : (backToKw pos (keywordEach kws X.env)).filterMap (·.1) = ks := by rfl) (hdb : (x == ("__debug__" : Str)) = false := by decide) (he : starEach (e :: es) X.env = (false, eval e X.env) :: starEach es X.env := by rfl)
    (hpl : ((backTo pos (starEach (e :: es) X.env)).any (·.1) || (backToKw pos (keywordEach kws X.env)).any (·.1.isNone)) = false := by rfl) :
    DE X W (.Call (.Name x p) (e :: es) kws pos) (wCallK sp n ks.length w wk) := by
  obtain ⟨f, fd, c, hb⟩ := c
  obtain ⟨t, pa, ra⟩ := ha.ex
  obtain ⟨tk, pk, rk⟩ := hk.ex
  refine ⟨tCallKn (toSp X.K sp) n ks.length (WE W) t tk, ⟨fun pins s σ H Q I h => ?_⟩, rd_callK ra rk⟩
  refine wpAny_Call_Name_kw (ld_glob I hg c.mg ?_ hdb)
  refine PySem.W.callWith_KW (h₀ := X.base) I.ok.mod.kin c.kp hall (thn (pa.run pos pins s σ H _ I h) fun us s1 ⟨vs, H1, I1, r, q⟩ => ?_) hpl he
  refine thn (pk.run pos pins s1 σ H1 _ I1 q) fun ws s2 ⟨zs, H2, I2, rz, l1, l2, q2⟩ => ⟨I2.kIn, ?_⟩
  rw [hks]
  exact run_fnkn (K := X.K) c.ok (hr.mono hjk) hb (hx σ) I2 r rz l1 l2 q2
theorem de_gtup {ds : List D} (g : GTup X.K X.mg x ds) (hg : Gl X x := by rfl) (hd : (x == ("__debug__" : Str)) = false := by decide) : DE X W (.Name x pos) (wC (.ktp ds)) :=
  let ⟨a, vs, hm, ht, hr⟩ := g; de_glob (v := .ref a) hg hm rfl (fun M mu H => ⟨a, vs, rfl, ht, hr M mu H⟩) hd
end
section
variable {P : Program} {w : World} {K : PySem.W.Frag} {mg : Str → Option Value} {base : Heap} {x nm : Str} {st : Stmt}
/-- THE RULE for a plain def of the top -/
theorem cal_def {CX : CXT} {N ps : List Str} {k : Nat} {sp : DSp} {wb : DWS} (I : DefIn K mg x nm st) (sc : FnScope N ps (defScope st))
    (hbd : ∀ (kV doc pm : Value) (an : Option Addr) (cdv ct : Value) (us : List Value), us.length = ps.length → bindArgs (PySem.W.fnOf nm nm (defArgs st) (defBody st) (defScope st) .none kV doc pm an cdv ct) ⟨us, []⟩ = pure (ps.zip us))
    (len : ∀ ds S P E, sp ds S P E → ds.length = ps.length)
    (hb : ∀ (f : Addr) (cdv : Value) (A : Around) (outer : List PySem.Env) (s : Shared) (H : Hp) (E : XK), Room k (A.deeper (envOfC nm (defScope st) s.heap.objs.size f cdv)) → DSs (cxOf CX P w K mg base N nm (defScope st) f cdv A outer s H E) (fun C d _ H' => E C d H') (defBody st) wb)
    (hw : ∀ ds S P E, S.all (lo S.length) = true → sp ds S P E → wb (endsOf S.length P E) (startD N.length ds) S) : Cal P w K mg base CX (k + 1) x ps sp := by
  obtain ⟨f, fd, F, hm⟩ := I
  exact ⟨f, fd, ⟨ok_def F sc len (fun cdv A outer s H E hr => hb f cdv A outer s H E hr) hw, hm, F.kp, F.bindsN hbd, let ⟨oc, od, _, _, _, _, _, _, _, osl, _, lk, _⟩ := F.ex; ⟨oc, od, osl, lk⟩⟩⟩
/-- .. called by keywords -/
theorem calk_def {CX : CXT} {N ps ks : List Str} {k n : Nat} {sp : DSp} (c : Cal P w K mg base CX k x ps sp) (I : DefIn K mg x nm st)
    (hbd : ∀ (kV doc pm : Value) (an : Option Addr) (cdv ct : Value) (us ws : List Value), us.length = n → ws.length = ks.length → bindArgs (PySem.W.fnOf nm nm (defArgs st) (defBody st) (defScope st) .none kV doc pm an cdv ct) ⟨us, ks.zip ws⟩ = pure (ps.zip (us ++ ws))) : CalK P w K mg base CX k x ps n ks sp := by
  obtain ⟨f, fd, c⟩ := c
  obtain ⟨f', fd', F, hm⟩ := I
  refine ⟨f, fd, c, fun s us ws l1 l2 => ?_⟩
  obtain ⟨oc, od, dV, kV, doc, pm, an, cdv, ct, osl, e, lk, hcd, hD, hK⟩ := F.ex
  obtain ⟨oc', od', osl', lk'⟩ := c.lk
  have ef : f = f' := by
    have h := c.mg.symm.trans hm
    injection h with h
    injection h
  subst ef
  rw [lk] at lk'
  injection lk' with h
  injection h with _ _ h _
  injection h with h
  subst h
  subst e
  rcases hD with ⟨_, rfl⟩ | ⟨z, _⟩
  · exact BindsTo.of_eq (hbd kV doc pm an cdv ct us ws l1 l2)
  · exact absurd rfl z
end
end DL
set_option maxRecDepth 100000
set_option maxHeartbeats 2000000
namespace DL
open PySem PySem.Spec PyProof.Rows L2
/-! ### the built-ins' own names -/
theorem bt_int : bootBuiltins "int" = some (.type "int") := by first | exact PySem.boot_int | exact PyProof.Rows.boot_int | decide +kernel
theorem bt_bool : bootBuiltins "bool" = some (.type "bool") := by first | exact PySem.boot_bool | exact PyProof.Rows.boot_bool | decide +kernel
theorem bt_str : bootBuiltins "str" = some (.type "str") := by first | exact PySem.boot_str | exact PyProof.Rows.boot_str | decide +kernel
theorem bt_list : bootBuiltins "list" = some (.type "list") := by first | exact PySem.boot_list | exact PyProof.Rows.boot_list | decide +kernel
theorem bt_tuple : bootBuiltins "tuple" = some (.type "tuple") := by first | exact PySem.boot_tuple | exact PyProof.Rows.boot_tuple | decide +kernel
theorem bt_dict : bootBuiltins "dict" = some (.type "dict") := by first | exact PySem.boot_dict | exact PyProof.Rows.boot_dict | decide +kernel
theorem bt_len : bootBuiltins "len" = some (.builtin "len") := by first | exact PySem.boot_len | exact PyProof.Rows.boot_len | decide +kernel
theorem bt_abs : bootBuiltins "abs" = some (.builtin "abs") := by first | exact PySem.boot_abs | exact PyProof.Rows.boot_abs | decide +kernel
theorem bt_all : bootBuiltins "all" = some (.builtin "all") := by first | exact PySem.boot_all | exact PyProof.Rows.boot_all | decide +kernel
theorem bt_any : bootBuiltins "any" = some (.builtin "any") := by first | exact PySem.boot_any | exact PyProof.Rows.boot_any | decide +kernel
theorem bt_isinstance : bootBuiltins "isinstance" = some (.builtin "isinstance") := by first | exact PySem.boot_isinstance | exact PyProof.Rows.boot_isinstance | decide +kernel
theorem bt_sorted : bootBuiltins "sorted" = some (.builtin "sorted") := by first | exact PySem.boot_sorted | exact PyProof.Rows.boot_sorted | decide +kernel
theorem bt_max : bootBuiltins "max" = some (.builtin "max") := by first | exact PySem.boot_max | exact PyProof.Rows.boot_max | decide +kernel
theorem bt_min : bootBuiltins "min" = some (.builtin "min") := by first | exact PySem.boot_min | exact PyProof.Rows.boot_min | decide +kernel
theorem bt_sum : bootBuiltins "sum" = some (.builtin "sum") := by first | exact PySem.boot_sum | exact PyProof.Rows.boot_sum | decide +kernel
/-! ### more operators -/
section
variable {K : PySem.W.Frag}
def subD : DF2 := fun x y S P => match x, y with
  | .int i, .int j => P (.int (i - j)) S
  | _, _ => False
theorem opd_sub : OpD K (rI0 fun i j => .int (i - j)) subD := by
  intro M mu H S x y v u P Q ok rx ry h n
  cases x with
  | int i =>
    cases y with
    | int j => exact ⟨i, j, rx, ry, n _ H (.int (i - j)) S (.refl _ _) ok rfl h⟩
    | _ => exact h.elim
  | _ => exact h.elim
def modD : DF2 := fun x y S P => match x, y with
  | .int i, .int j => 0 < j ∧ P (.int (i % j)) S
  | _, _ => False
theorem opd_mod : OpD K (rI (fun _ j => 0 < j) fun i j => .int (i % j)) modD := by
  intro M mu H S x y v u P Q ok rx ry h n
  cases x with
  | int i =>
    cases y with
    | int j => exact ⟨i, j, rx, ry, h.1, n _ H (.int (i % j)) S (.refl _ _) ok rfl h.2⟩
    | _ => exact h.elim
  | _ => exact h.elim
def fdivD : DF2 := fun x y S P => match x, y with
  | .int i, .int j => (0 < j ∧ j < 10 ^ 2000) ∧ P (.int (i / j)) S
  | _, _ => False
theorem opd_fdiv : OpD K (rI CDivW fun i j => .int (i / j)) fdivD := by
  intro M mu H S x y v u P Q ok rx ry h n
  cases x with
  | int i =>
    cases y with
    | int j =>
      refine ⟨i, j, rx, ry, wide_div (b := 7000) h.1.1 ?_ (by decide) (by decide), n _ H (.int (i / j)) S (.refl _ _) ok rfl h.2⟩
      have h1 : j.natAbs < 10 ^ 2000 := by have := h.1; omega
      exact Nat.lt_of_lt_of_le h1 (by decide +kernel)
    | _ => exact h.elim
  | _ => exact h.elim
def powD : DF2 := fun x y S P => match x, y with
  | .int i, .int j => (0 ≤ j ∧ j ≤ 1000 ∧ -1000 < i ∧ i < 1000) ∧ P (.int (i ^ j.toNat)) S
  | _, _ => False
theorem opd_pow : OpD K (rI CPow fun i j => .int (i ^ j.toNat)) powD := by
  intro M mu H S x y v u P Q ok rx ry h n
  cases x with
  | int i =>
    cases y with
    | int j =>
      exact ⟨i, j, rx, ry, ⟨h.1.1, by have := h.1; omega, by have := h.1; omega⟩, n _ H (.int (i ^ j.toNat)) S (.refl _ _) ok rfl h.2⟩
    | _ => exact h.elim
  | _ => exact h.elim
/-! ### order: ints, tuples of ints -/
def intsD : List D → Option (List Int)
  | [] => some []
  | .int i :: ds => (intsD ds).map (i :: ·)
  | _ :: _ => none
theorem ints_ok {M : Addr → Prop} {mu : List Addr} {H : Hp} : ∀ {ds : List D} {vs : List V} {ns : List Int}, Rs K M mu H ds vs → intsD ds = some ns → vs = ns.map V.int
  | [], vs, ns, r, e => by obtain rfl : vs = [] := r; obtain rfl : ([] : List Int) = ns := Option.some.inj e; rfl
  | d :: ds, vs, ns, r, e => by
    obtain ⟨v, rr, rfl, h1, h2⟩ := r
    cases d with
    | int i =>
      obtain ⟨ms, e1, rfl⟩ := Option.map_eq_some_iff.mp (show (intsD ds).map (i :: ·) = some ns from e)
      obtain rfl : v = .int i := h1
      rw [ints_ok h2 e1]
      rfl
    | _ => simp [intsD] at e
/-- from the first pair that differs on, by r; else by the lengths -/
def lexI (r : Int → Int → Bool) (z : Nat → Nat → Bool) : List Int → List Int → Bool
  | x :: xs, y :: ys => if x = y then lexI r z xs ys else r x y
  | xs, ys => z xs.length ys.length
theorem lexAt_shift {e r : Nat → Bool} {z : Bool} : ∀ {k i : Nat}, Ob.lexAt e r z (i + 1) k = Ob.lexAt (fun j => e (j + 1)) (fun j => r (j + 1)) z i k
  | 0, _ => rfl
  | k + 1, i => by
    rw [Ob.lexAt_succ, Ob.lexAt_succ, lexAt_shift]
theorem lexAt_lexI {r : Int → Int → Bool} {z : Nat → Nat → Bool} (hz : ∀ a b, z (a + 1) (b + 1) = z a b) : ∀ (ns ms : List Int),
    Ob.lexAt (fun j => decide (ns.getD j 0 = ms.getD j 0)) (fun j => r (ns.getD j 0) (ms.getD j 0)) (z ns.length ms.length) 0 (min ns.length ms.length) = lexI r z ns ms
  | [], [] => rfl
  | [], _ :: _ => by simp only [List.length_nil, Nat.zero_min]; rfl
  | _ :: _, [] => by simp only [List.length_nil, Nat.min_zero]; rfl
  | x :: xs, y :: ys => by
    have h1 : min (x :: xs).length (y :: ys).length = min xs.length ys.length + 1 := by simp only [List.length_cons]; omega
    rw [h1, Ob.lexAt_succ, lexAt_shift]
    have h2 : z (x :: xs).length (y :: ys).length = z xs.length ys.length := hz _ _
    rw [h2]
    show (if decide (x = y) = true then Ob.lexAt (fun j => decide (xs.getD j 0 = ys.getD j 0)) (fun j => r (xs.getD j 0) (ys.getD j 0)) (z xs.length ys.length) 0 (min xs.length ys.length) else r x y) = _
    rw [lexAt_lexI hz xs ys]
    show _ = (if x = y then lexI r z xs ys else r x y)
    by_cases h : x = y
    · rw [if_pos h, if_pos (decide_eq_true h)]
    · rw [if_neg h, if_neg (by simpa using h)]
def rCmpT (K : PySem.W.Frag) (r : Int → Int → Bool) (z : Nat → Nat → Bool) : R2 := fun x y H Q => ∃ (a b : Addr) (ns ms : List Int), x = .ref a ∧ y = .ref b ∧ SqT K H a (ns.map V.int) ∧ SqT K H b (ms.map V.int) ∧ Q (.bl (lexI r z ns ms)) H
theorem op_gtT {X : Cx} (hu : X.A.units < cLine) : OpR X (compareOp .Gt) (rCmpT X.K (fun x y => decide (y < x)) (fun a b => decide (b < a))) := by
  intro pins s σ H x y v u Q I rx ry h
  obtain ⟨a, b, ns, ms, rfl, rfl, ha, hb, q⟩ := h
  cases rx
  cases ry
  obtain ⟨its, r1, p1, _⟩ := I.tuple ha
  obtain ⟨its2, r2, p2, _⟩ := I.tuple hb
  have i1 : IntsAre its ns := Vals.ints r1
  have i2 : IntsAre its2 ms := Vals.ints r2
  have e1 : its.toArray.size = ns.length := by rw [List.size_toArray]; exact i1.length
  have e2 : its2.toArray.size = ms.length := by rw [List.size_toArray]; exact i2.length
  have at1 : ∀ j (h1 : j < its.toArray.size), ∃ t, its.toArray[j] = .int (ns.getD j 0) t := fun j h1 => PyProof.Rows.IntsAre.int_at i1 _ _ (by simp at h1; simp [h1])
  have at2 : ∀ j (h1 : j < its2.toArray.size), ∃ t, its2.toArray[j] = .int (ms.getD j 0) t := fun j h1 => PyProof.Rows.IntsAre.int_at i2 _ _ (by simp at h1; simp [h1])
  have R := Ob.RcOp.tuples_gt (A := X.A) (s := s) (e := fun j => decide (ns.getD j 0 = ms.getD j 0)) (r := fun j => decide (ms.getD j 0 < ns.getD j 0)) p1 p2 hu (fun j h1 h2 => by
    obtain ⟨t, et⟩ := at1 j h1
    obtain ⟨t', et'⟩ := at2 j h2
    rw [et, et']
    have z : (ns.getD j 0 == ms.getD j 0) = decide (ns.getD j 0 = ms.getD j 0) := by
      by_cases q : ns.getD j 0 = ms.getD j 0
      · rw [decide_eq_true q]; exact beq_iff_eq.mpr q
      · rw [decide_eq_false q]; exact beq_eq_false_iff_ne.mpr q
    rw [← z]
    exact SeqAt.EqAt.int_int _ _ _ _) (fun j h1 h2 _ => by
    obtain ⟨t, et⟩ := at1 j h1
    obtain ⟨t', et'⟩ := at2 j h2
    rw [et, et']
    exact Ob.RcOp.gt_int _ _ _ _)
  rw [e1, e2] at R
  have ez := lexAt_lexI (r := fun x y => decide (y < x)) (z := fun a b => decide (b < a)) (fun a b => by simp) ns ms
  have z : wpAny (model X.prog X.w) X.A (compareOp .Gt (.ref a) (.ref b)) (EP X pins σ Q) X.xe s := R X.prog X.w X.xe (EP X pins σ Q) ⟨.bl _, H, I, rfl, by
    have e3 : (decide (ns.length > ms.length)) = decide (ms.length < ns.length) := rfl
    rw [e3, ez]
    exact q⟩
  exact z
/-- ints, or tuples of ints -/
def ordD (g : Int → Int → Bool) (z : Nat → Nat → Bool) : DF2 := fun x y S P => match val S x, val S y with
  | .int i, .int j => P (.bl (g i j)) S
  | .tup ds, .tup es => (match intsD ds, intsD es with
    | some ns, some ms => P (.bl (lexI g z ns ms)) S
    | _, _ => False)
  | _, _ => False
theorem opd_ord {g : Int → Int → Bool} {z : Nat → Nat → Bool} : OpD K (fun x y H Q => rI0 (fun i j => .bl (g i j)) x y H Q ∨ rCmpT K g z x y H Q) (ordD g z) := by
  intro M mu H S x y v u P Q ok rx ry h n
  unfold ordD at h
  cases e1 : val S x with
  | int i =>
    cases e2 : val S y with
    | int j => simp only [e1, e2] at h; exact .inl ⟨i, j, val_int ok rx e1, val_int ok ry e2, n _ H (.bl (g i j)) S (.refl _ _) ok rfl h⟩
    | _ => simp only [e1, e2] at h
  | tup ds =>
    cases e2 : val S y with
    | tup es =>
      simp only [e1, e2] at h
      cases e3 : intsD ds with
      | none => simp only [e3] at h
      | some ns =>
        cases e4 : intsD es with
        | none => simp only [e3, e4] at h
        | some ms =>
          simp only [e3, e4] at h
          obtain ⟨a, vs, rfl, ha, ra⟩ := seq_tup ok rx e1
          obtain ⟨b, us, rfl, hb, rb⟩ := seq_tup ok ry e2
          rw [ints_ok ra e3] at ha
          rw [ints_ok rb e4] at hb
          exact .inr ⟨a, b, ns, ms, rfl, rfl, ha, hb, n _ H (.bl _) S (.refl _ _) ok rfl h⟩
    | _ => simp only [e1, e2] at h
  | _ => simp only [e1] at h
def ltD := ordD (fun i j => decide (i < j)) (fun a b => decide (a < b))
def leD := cmpD (fun i j => decide (i ≤ j))
def gtD := ordD (fun i j => decide (j < i)) (fun a b => decide (b < a))
def geD := cmpD (fun i j => decide (j ≤ i))
theorem op_gtA {X : Cx} (hu : X.A.units + 64 < cLine) : OpR X (compareOp .Gt) (fun x y H Q => rI0 (fun i j => .bl (decide (j < i))) x y H Q ∨ rCmpT X.K (fun i j => decide (j < i)) (fun a b => decide (b < a)) x y H Q) := OpR.or op_gt (op_gtT (Nat.lt_of_le_of_lt (Nat.le_add_right _ _) hu))
theorem opd_gtA : OpD K (fun x y H Q => rI0 (fun i j => .bl (decide (j < i))) x y H Q ∨ rCmpT K (fun i j => decide (j < i)) (fun a b => decide (b < a)) x y H Q) gtD := opd_ord
theorem opd_lt : OpD K (rI0 fun i j => .bl (decide (i < j))) (cmpD fun i j => decide (i < j)) := opd_B
theorem opd_le : OpD K (rI0 fun i j => .bl (decide (i ≤ j))) leD := opd_B
theorem opd_gt : OpD K (rI0 fun i j => .bl (decide (j < i))) (cmpD fun i j => decide (j < i)) := opd_B
theorem opd_ge : OpD K (rI0 fun i j => .bl (decide (j ≤ i))) geD := opd_B
end
/-! ### zip, enumerate, list(range) -/
def zipD (a b : List D) : List D := List.zipWith (fun x y => D.tup [x, y]) a b
def wiZip (w : DWA) : DWI := fun ρ S P E => w ρ S (fun ds S1 => match ds with
  | [.lst a, .lst b] => P (zipD a b) none S1
  | [.tup a, .tup b] => P (zipD a b) none S1
  | _ => False) E
section
variable {K : PySem.W.Frag} {M : Addr → Prop} {mu : List Addr} {H : Hp} {S : Sto}
theorem zip_at {a b : List D} {i : Nat} {d : D} (h : (zipD a b)[i]? = some d) : ∃ x y, a[i]? = some x ∧ b[i]? = some y ∧ d = .tup [x, y] := by
  unfold zipD at h
  rw [List.getElem?_zipWith] at h
  cases e1 : a[i]? with
  | none => rw [e1] at h; cases h
  | some x =>
    cases e2 : b[i]? with
    | none => rw [e1, e2] at h; cases h
    | some y => rw [e1, e2] at h; exact ⟨x, y, rfl, rfl, (Option.some.inj h).symm⟩
theorem zip_end {a b : List D} {i : Nat} (h : (zipD a b).length ≤ i) : a.length ≤ i ∨ b.length ≤ i := by
  unfold zipD at h
  rw [List.length_zipWith] at h
  omega
theorem new2 (ok : Wok K M mu H S) {T : Addr} (hT : H T = none) {d1 d2 : D} {x1 x2 : V} (r1 : R K M mu H d1 x1) (r2 : R K M mu H d2 x2) : Keep mu H (upd H T (.tup [x1, x2])) ∧ Wok K M mu (upd H T (.tup [x1, x2])) S ∧ R K M mu (upd H T (.tup [x1, x2])) (.tup [d1, d2]) (.ref T) :=
  let ⟨ok2, k2, _⟩ := ok.alloc hT (.tup [x1, x2])
  ⟨k2, ok2, newT ok hT (ds := [d1, d2]) ⟨x1, [x2], rfl, r1, x2, [], rfl, r2, rfl⟩⟩
theorem itOk_zip {a b : Addr} {vs us : List V} {ds es : List D} (hm : ¬ M a) (ha : H a = some (.lst vs)) (r : Rs K M mu H ds vs) (hm2 : ¬ M b) (hb : H b = some (.lst us)) (r2 : Rs K M mu H es us) : ItOk K (Itz K a b) M mu H (zipD ds es) none := fun M' mu' H' S' ex ok _ i => by
  have h1 := (ex.toExt0.okM hm ha).2
  have h2 := (ex.toExt0.okM hm2 hb).2
  have r1' := Rs.mono ex.toExt0 _ _ r
  have r2' := Rs.mono ex.toExt0 _ _ r2
  refine ⟨fun d hd => ?_, fun hi => ⟨vs, us, SqL.of h1, SqL.of h2, ?_⟩⟩
  · obtain ⟨d1, d2, g1, g2, rfl⟩ := zip_at hd
    obtain ⟨v, hv, rv⟩ := r1'.get g1
    obtain ⟨u, hu, ru⟩ := r2'.get g2
    refine ⟨⟨vs, us, v, u, SqL.of h1, SqL.of h2, hv, hu⟩, fun x H2 y => ?_⟩
    obtain ⟨T, x1, x2, rfl, nT, rfl, y1, y2⟩ := y
    obtain rfl : v = x1 := Option.some.inj (hv.symm.trans (y1 vs (SqL.of h1)))
    obtain rfl : u = x2 := Option.some.inj (hu.symm.trans (y2 us (SqL.of h2)))
    exact new2 ok nT rv ru
  · rw [← r.len, ← r2.len]
    exact zip_end hi
theorem itOk_zipT {a b : Addr} {vs us : List V} {ds es : List D} (ha : H a = some (.tup vs) ∨ SqTK K a vs) (r : Rs K M mu H ds vs) (hb : H b = some (.tup us) ∨ SqTK K b us) (r2 : Rs K M mu H es us) : ItOk K (RZ.ItzT K a b) M mu H (zipD ds es) none := fun M' mu' H' S' ex ok _ i => by
  have h1 : SqT K H' a vs := ha.elim (fun q => SqT.of (ex.toExt0.keepM a _ q (.inr isF_tup))) fun q => q.to
  have h2 : SqT K H' b us := hb.elim (fun q => SqT.of (ex.toExt0.keepM b _ q (.inr isF_tup))) fun q => q.to
  have r1' := Rs.mono ex.toExt0 _ _ r
  have r2' := Rs.mono ex.toExt0 _ _ r2
  refine ⟨fun d hd => ?_, fun hi => ⟨vs, us, h1, h2, ?_⟩⟩
  · obtain ⟨d1, d2, g1, g2, rfl⟩ := zip_at hd
    obtain ⟨v, hv, rv⟩ := r1'.get g1
    obtain ⟨u, hu, ru⟩ := r2'.get g2
    refine ⟨⟨vs, us, v, u, h1, h2, hv, hu⟩, fun x H2 y => ?_⟩
    obtain ⟨T, x1, x2, rfl, nT, rfl, y1, y2⟩ := y
    obtain rfl : v = x1 := Option.some.inj (hv.symm.trans (y1 vs h1))
    obtain rfl : u = x2 := Option.some.inj (hu.symm.trans (y2 us h2))
    exact new2 ok nT rv ru
  · rw [← r.len, ← r2.len]
    exact zip_end hi
end
section
variable {X : Cx} {W : WX} {e e2 : Expr} {w : DWA} {we : DW} {p p2 pos tpos : Pos} {elts : List Expr} {kk : Nat}
theorem di_zip (hg : Gl X "zip") (hm : X.mg "zip" = none) (ha : DA X W [e, e2] w) (hs : starEach [e, e2] X.env = (false, eval e X.env) :: starEach [e2] X.env := by rfl) (hpl : (backTo pos (starEach [e2] X.env)).any (·.1) = false := by rfl) : DI X W (.Tuple elts kk tpos) (.Call (.Name "zip" p) [e, e2] [] pos) (wiZip w) := by
  obtain ⟨_, pa, ra⟩ := ha.ex
  refine ⟨_, RZ.pi_zipA hg hm pa hs hpl, ⟨fun M mu σ ρ S H P E Q ok en hw n x => ?_⟩⟩
  refine ra.run M mu σ ρ S H _ E _ ok en hw (fun vs H1 ds S1 k1 ok1 r1 h1 => ?_) x
  split at h1
  · obtain ⟨v, u, rfl, ⟨a, vs, rfl, hm1, ha1, rr1⟩, ⟨b, us, rfl, hm2, hb1, rr2⟩⟩ := Rs.two r1
    exact ⟨a, b, vs, us, rfl, .inl ⟨SqL.of ha1, SqL.of hb1, n _ H1 _ none S1 k1 ok1 (itOk_zip hm1 ha1 rr1 hm2 hb1 rr2) True.intro h1⟩⟩
  · obtain ⟨v, u, rfl, ⟨a, vs, rfl, ha1, rr1⟩, ⟨b, us, rfl, hb1, rr2⟩⟩ := Rs.two r1
    exact ⟨a, b, vs, us, rfl, .inr ⟨SqT.of ha1, SqT.of hb1, n _ H1 _ none S1 k1 ok1 (itOk_zipT (.inl ha1) rr1 (.inl hb1) rr2) True.intro h1⟩⟩
  · exact h1.elim
/-- list(range(n)) -/
def wLstRg (we : DW) : DW := fun ρ S P E => we ρ S (fun d S1 => match d with
  | .int n => (-1000000 ≤ n ∧ n ≤ 1000000) ∧ P (.lst (rangeD 0 n.toNat)) S1
  | _ => False) E
theorem rs_range {K : PySem.W.Frag} {M : Addr → Prop} {mu : List Addr} {H : Hp} : ∀ (l : List Nat) (lo : Int), Rs K M mu H (l.map fun i => D.int (lo + (i : Nat))) (l.map fun i => V.int (lo + (i : Nat)))
  | [], _ => rfl
  | x :: l, lo => ⟨_, _, rfl, rfl, rs_range l lo⟩
theorem de_listRg1 {pr : Pos} (hm : X.mg "list" = none) (hm2 : X.mg "range" = none) (he : DE X W e we) (hc : X.calm = true := by rfl) (hg : Gl X "list" := by rfl) (hg2 : Gl X "range" := by rfl) (na1 : starEach [e] X.env = (false, eval e X.env) :: starEach [] X.env := by rfl)
    (na : starEach [.Call (.Name "range" pr) [e] [] p2] X.env = (false, eval (.Call (.Name "range" pr) [e] [] p2) X.env) :: starEach [] X.env := by rfl) : DE X W (.Call (.Name "list" p) [.Call (.Name "range" pr) [e] [] p2] [] pos) (wLstRg we) := by
  obtain ⟨_, pa, ra⟩ := he.ex
  refine ⟨_, pe_listRg hc hg hm (prg_1 hg2 hm2 pa na1) na, ⟨fun M mu σ ρ S H P E Q ok en hw n x => ?_⟩⟩
  refine ra.run M mu σ ρ S H _ E _ ok en hw (fun v H1 d S1 k1 ok1 r1 h1 => ?_) x
  cases d with
  | int i =>
    have h1 : (-1000000 ≤ i ∧ i ≤ 1000000) ∧ P (.lst (rangeD 0 i.toNat)) S1 := h1
    refine ⟨i, r1, ⟨by omega, by omega, by omega, by omega, by omega⟩, fun q hq => ?_⟩
    obtain ⟨ok2, k2, _⟩ := ok1.alloc hq (.lst (rgV 0 i))
    refine n _ _ _ S1 (k1.trans k2) ok2 (newL ok1 hq ?_) h1.2
    have := rs_range (K := X.K) (M := M) (mu := mu) (H := H1) (List.range i.toNat) 0
    unfold rangeD rgV
    rw [show (i - 0).toNat = i.toNat by omega]
    exact this
  | _ => exact h1.elim
end
/-! ### name = [.. for ..] -/
section
variable {X : Cx} {W : WX} {elt tg iter : Expr} {ifs : List Expr} {scope : Scope} {own : List (Str × Nat)} {pos : Pos} {wi : DWI} {wg : DWG} {wt : DWT} {we : DW} {is : List Nat}
theorem ds_setLc {i : Nat} {y : Str} {py spos : Pos} (hc : X.calm = true) (hN : X.N.Nodup) (hy : X.N[i]? = some y) (hyl : X.env.scope.names.lookup y = some .local)
    (hsw : swapsWith (.ListComp elt [⟨tg, iter, ifs, 0⟩] scope pos) (some (.Name y py)) spos.line X.env = pure true) (hi : DI X W tg iter wi) (ok : BlkOk X.N X.env.scope scope own)
    (hg : ∀ (s : Shared) (H : Hp) (C : Addr) (cl : List (Str × Addr)) (fp : List Addr), DG (X.blk s H scope (compEnvC scope cl C X.env) fp) tg wg is)
    (ht : ∀ (s : Shared) (H : Hp) (C : Addr) (cl : List (Str × Addr)) (fp : List Addr), DTs (X.blk s H scope (compEnvC scope cl C X.env) fp) W0 ifs wt)
    (he : ∀ (s : Shared) (H : Hp) (C : Addr) (cl : List (Str × Addr)) (fp : List Addr), DE (X.blk s H scope (compEnvC scope cl C X.env) fp) W0 elt we)
    (his : ∀ i ∈ is, i ∈ own.map (·.2) := by decide) (hs : ∀ x, foldedSetIterable iter X.env x = pure x := by intro _; rfl) :
    DS X W (.Assign [.Name y py] (.ListComp elt [⟨tg, iter, ifs, 0⟩] scope pos) spos) (wsSet i (wLc wi wg wt we (own.map (·.2)))) := by
  obtain ⟨ti, pi, ri⟩ := hi.ex
  have r := rd_lc ri (rd_gOf (K := X.K) (wg := wg)) his (rd_ttOf (w := wt)) (rd_tOf (w := we))
  exact ⟨_, ps_setLc hc hN hy hyl hsw pi ok (fun s H C cl fp => (hg s H C cl fp).can) (fun s H C cl fp => (ht s H C cl fp).can) (fun s H C cl fp => (he s H C cl fp).can) hs,
    ⟨fun M mu σ ρ S H D D' ok en hw n => r.run M mu σ ρ S H _ _ _ ok en hw (fun v H' d S' k ok' r' h => n.nx M mu _ _ S' H' (.of ok.sub k) ok' ((en.keep ok k).set r') h) (n.exc ok.sub σ)⟩⟩
end
/-! ### a fresh list as a cell -/
def NrmF (K : PySem.W.Frag) (M : Addr → Prop) (mu : List Addr) (H : Hp) (P : List D → Sto → Prop) (Q : VK) : Prop := ∀ p vs H' ds S', H p = none → Keep mu H H' → H' p = some (.lst vs) → Wok K (fun a => M a ∨ a = p) mu H' S' → Rs K (fun a => M a ∨ a = p) mu H' ds vs → P ds S' → Q (.ref p) H'
abbrev DSpF := List D → Sto → (List D → Sto → Prop) → Ex → Prop
def toSpF (K : PySem.W.Frag) (sp : DSpF) : Sp := fun vs H Q E => ∃ (M : Addr → Prop) (mu : List Addr) (S : Sto) (ds : List D) (P : List D → Sto → Prop) (Ex : Ex), Wok K M mu H S ∧ Rs K M mu H ds vs ∧ sp ds S P Ex ∧ NrmF K M mu H P Q ∧ Exc K M mu H Ex (fun C d H' => E C d H')
structure RdF (K : PySem.W.Frag) (W : WX) (t : TE) (w : DWA) : Prop where
  run : ∀ (M : Addr → Prop) (mu : List Addr) (σ : L2.St) (ρ : Loc) (S : Sto) (H : Hp) (P : List D → Sto → Prop) (E : Ex) (Q : VK), Wok K M mu H S → Env K M mu H ρ σ → w ρ S P E → NrmF K M mu H P Q → Exc K M mu H E (fun C d H' => W C d σ H') → t σ H Q
structure DF (X : Cx) (W : WX) (e : Expr) (w : DWA) : Prop where
  ex : ∃ t, PE X e t ∧ RdF X.K W t w
section
variable {K : PySem.W.Frag} {M : Addr → Prop} {mu : List Addr} {H H' : Hp} {S : Sto}
/-- the object set aside becomes the store's next cell -/
theorem Wok.push {p : Addr} {vs : List V} {ds : List D} (ok : Wok K (fun a => M a ∨ a = p) mu H S) (np : p ∉ mu) (hp : H p = some (.lst vs)) (r : Rs K (fun a => M a ∨ a = p) mu H ds vs) :
    Wok K (fun a => M a ∨ a = p) (mu ++ [p]) H (S ++ [.lst ds]) ∧ Ext0 (fun a => M a ∨ a = p) mu H (fun a => M a ∨ a = p) (mu ++ [p]) H := by
  have ex : Ext0 (fun a => M a ∨ a = p) mu H (fun a => M a ∨ a = p) (mu ++ [p]) H := ⟨fun _ _ h _ => h, ⟨[p], rfl⟩, fun a h => .inl h⟩
  refine ⟨⟨by simp [ok.len], fun a h => ?_, ?_, ok.tr, fun i a d h1 h2 => ?_⟩, ex⟩
  · rcases List.mem_append.mp h with h | h
    · exact ok.sub a h
    · exact .inr (by simpa using h)
  · rw [List.nodup_append]
    exact ⟨ok.nd, by simp, fun a ha b hb e => np (by
      have hb' : b = p := by simpa using hb
      rw [← hb', ← e]; exact ha)⟩
  · by_cases hi : i < mu.length
    · rw [List.getElem?_append_left hi] at h1
      rw [List.getElem?_append_left (by rw [ok.len]; exact hi)] at h2
      have c := ok.at_ i a d h1 h2
      cases d with
      | lst ds => obtain ⟨vs, h1, h2⟩ := c; exact ⟨vs, h1, Rs.mono ex _ _ h2⟩
      | dk kvs => obtain ⟨es, h1, h2, h3⟩ := c; exact ⟨es, h1, h2, Rk.mono ex _ _ h3⟩
      | dt kvs => obtain ⟨es, h1, h2, h3⟩ := c; exact ⟨es, h1, h2, Rt.mono ex _ _ h3⟩
      | obj C fs => obtain ⟨dx, gs, h1, h2, h3⟩ := c; exact ⟨dx, gs, h1, h2, Rfs.mono ex _ _ h3⟩
      | tb P q => exact ⟨c.1, TabM.mono ex rfl c.2⟩
      | _ => exact c
    · have hi' := (List.getElem?_eq_some_iff.mp h1).1
      have e : i = mu.length := by simp at hi'; omega
      subst e
      have h1' : p = a := by simpa using h1
      have h2' : D.lst ds = d := by rw [← ok.len] at h2; simpa using h2
      subst h1' h2'
      exact ⟨vs, hp, Rs.mono ex _ _ r⟩
end
/-- name = a fresh list, held as a cell -/
def wsSetF (i : Nat) (w : DWA) : DWS := fun Y ρ S => w ρ S (fun ds S1 => Y.nx (ρ.set i (some (.loc S1.length))) (S1 ++ [.lst ds])) Y.ex
section
variable {X : Cx} {W : WX} {e : Expr} {es : List Expr} {w : DWA} {pos : Pos}
theorem ds_setF {i : Nat} {x : Str} {pos' : Pos} (hN : X.N.Nodup) (hi : X.N[i]? = some x) (hx : L2.Loc X.env.scope x) (he : DF X W e w) (hs : swapsWith e (some (.Name x pos')) pos.line X.env = pure false := by rfl) (hf : X.fn x = true ∨ X.env.scope.names.lookup x = some .local := by first | exact .inl rfl | exact .inr rfl | assumption) :
    DS X W (.Assign [.Name x pos'] e pos) (wsSetF i w) := by
  obtain ⟨_, p, r⟩ := he.ex
  refine ⟨_, ps_set hN hi hx p hs hf, ⟨fun M mu σ ρ S H D D' ok en hw n => ?_⟩⟩
  refine r.run M mu σ ρ S H _ _ _ ok en hw (fun p vs H' ds S' hp k hp' ok' rr h => ?_) (n.exc ok.sub σ)
  have np : p ∉ mu := fun m => ok.tr p (ok.sub p m) hp
  obtain ⟨ok2, ex2⟩ := ok'.push np hp' rr
  have ex1 : Ext M mu H (fun a => M a ∨ a = p) (mu ++ [p]) H' := ⟨⟨fun b q hb nb => k b q hb (nb.imp (fun nb m => nb (ok.sub b m)) id), ⟨[p], rfl⟩, fun a h => h.imp id fun e => by rw [e]; exact hp⟩, k, fun a h => by
    rcases List.mem_append.mp h with h | h
    · exact .inl h
    · exact .inr (by rw [show a = p by simpa using h]; exact hp), fun a h => .inl h, ok.sub⟩
  refine n.nx _ (mu ++ [p]) _ _ _ H' ex1 ok2 ((en.mono ex1.toExt0).set (d := .loc S'.length) (v := .ref p) ⟨p, rfl, ?_⟩) h
  rw [ok'.len]
  simp
theorem df_lst (hs : DA X W es w) : DF X W (.List es pos) (fun ρ S P E => w ρ S (fun ds S1 => ds.length ≤ 1000000 ∧ P ds S1) E) := by
  obtain ⟨ts, ps, rs⟩ := hs.ex
  refine ⟨_, pe_lst ps, ⟨fun M mu σ ρ S H P E Q ok en hw n x => ?_⟩⟩
  refine rs.run M mu σ ρ S H _ E _ ok en hw (fun vs H1 ds S1 k1 ok1 r1 h1 => ?_) x
  refine ⟨by rw [← r1.len]; exact line_of h1.1, fun p hp => ?_⟩
  obtain ⟨ex, oka⟩ := ok1.aside hp (.lst vs)
  refine n p vs _ ds S1 ?_ (k1.trans ex.keep) upd_same oka (Rs.mono ex.toExt0 _ _ r1) h1.2
  exact (Ext.of ok.sub k1).back hp fun m => ok1.tr p (ok1.sub p m) hp
end
/-- return a fresh list -/
def wsRetF (w : DWA) : DWS := fun Y ρ S => w ρ S Y.rf Y.ex
theorem ds_retF {X : Cx} {W : WX} {e : Expr} {w : DWA} {pos : Pos} (h : DF X W e w) : DS X W (.Return (some e) pos) (wsRetF w) := by
  obtain ⟨_, p, r⟩ := h.ex
  exact ⟨_, ps_ret p, ⟨fun M mu σ ρ S H D D' ok en hw n => r.run M mu σ ρ S H _ _ _ ok en hw (fun p vs H' ds S' hp k hp' ok' rr h =>
    n.rf M mu p vs ds S' H' (.of ok.sub k) hp' hp (fun m => ok.tr p (ok.sub p m) hp) ok' rr h) (n.exc ok.sub σ)⟩⟩
def endsF (n : Nat) (P : List D → Sto → Prop) (E : Ex) : DEnds where
  nx := fun _ _ => False
  rt := fun _ _ => False
  ex := fun c fs S' => S'.length = n ∧ E c fs S'
  rf := fun ds S' => S'.length = n ∧ P ds S'
theorem eok_defF {K : PySem.W.Frag} {M : Addr → Prop} {mu : List Addr} {H : Hp} {S : Sto} {P : List D → Sto → Prop} {Ex : Ex} {Q : VK} {E : XK} (ok : Wok K M mu H S) (n : NrmF K M mu H P Q) (x : Exc K M mu H Ex (fun C d H' => E C d H')) :
    EOk K (fun C d _ H' => E C d H') M mu H (endsF S.length P Ex) { nx := fun _ H' => Q .non H', rt := Q } := by
  have hl := ok.len
  have nil_of : ∀ {l : List Addr} {S' : Sto}, S'.length = S.length → S'.length = (mu ++ l).length → l = [] := fun {l S'} h1 h2 => by
    rw [List.length_append] at h2
    exact List.length_eq_zero_iff.mp (by omega)
  refine ⟨fun _ _ _ _ _ _ _ _ _ h => h.elim, fun _ _ _ _ _ _ _ _ _ h => h.elim, fun _ _ _ _ _ _ _ _ _ h => h.elim, fun _ _ _ _ _ _ _ _ _ h => h.elim, fun M' mu' C d σ' c fs S' H' e ok' xr h => ?_, fun M' mu' p vs ds S' H' e hp hn np ok' r h => ?_⟩
  · obtain ⟨rfl, a, gs, rfl, hm, ha, hnn, hf⟩ := xr
    have k := e.keep
    have up := e.up
    obtain ⟨l, rfl⟩ := e.pre
    obtain rfl := nil_of h.1 ok'.len
    rw [List.append_nil] at ok' hf
    exact x _ _ H' c fs S' k (ok'.less up ok.sub) ⟨rfl, a, gs, rfl, fun m => hm (up a m), ha, hnn, Rfs.mono (ext_less up) _ _ hf⟩ h.2
  · have k := e.keep
    have up := e.up
    obtain ⟨l, rfl⟩ := e.pre
    obtain rfl := nil_of h.1 ok'.len
    rw [List.append_nil] at ok' r
    exact n p vs H' ds S' hn k hp (ok'.less (fun a h => h.imp (up a) id) fun a m => .inl (ok.sub a m)) (Rs.mono (ext_less fun a h => h.imp (up a) id) _ _ r) h.2
/-- what a caller knows of a def that hands back a fresh list -/
def CalFr (P : Program) (w : World) (K : PySem.W.Frag) (mg : Str → Option Value) (base : Heap) (CX : CXT) (k : Nat) (x : Str) (ps : List Str) (sp : DSpF) : Prop := ∃ (f : Addr) (fd : FuncData), FnOk P w K mg base CX k f fd ps (toSpF K sp) ∧ mg x = some (.ref f) ∧ PySem.W.keepIn K (.ref f) = true ∧ Binds K fd ps []
section
variable {X : Cx} {W : WX} {CX : CXT} {j k : Nat} {ps : List Str} {sp : DSpF} {x : Str} {p pos : Pos} {e : Expr} {es : List Expr} {w : DWA}
theorem df_cal (c : CalFr X.prog X.w X.K X.mg X.base CX j x ps sp) (hr : Room k X.A) (hx : ∀ σ, PassesAt CX X σ (WE W σ)) (ha : DA X W (e :: es) w) (hjk : j ≤ k := by first | decide | exact Nat.le_refl _ | omega) (hg : Gl X x := by rfl) (hdb : (x == ("__debug__" : Str)) = false := by decide)
    (he : starEach (e :: es) X.env = (false, eval e X.env) :: starEach es X.env := by rfl) (hpl : (backTo pos (starEach es X.env)).any (·.1) = false := by rfl) : DF X W (.Call (.Name x p) (e :: es) [] pos) (fun ρ S P E => w ρ S (fun ds S1 => sp ds S1 P E) E) := by
  obtain ⟨f, fd, ok, hm, hk, hb⟩ := c
  obtain ⟨_, pa, ra⟩ := ha.ex
  refine ⟨_, pe_callSD ok (hr.mono hjk) hg hm hk hb .nil hx pa hdb he hpl, ⟨fun M mu σ ρ S H P E Q ok en hw n x => ?_⟩⟩
  refine ra.run M mu σ ρ S H _ E _ ok en hw (fun vs H1 ds S1 k1 ok1 r1 h1 => ?_) x
  refine ⟨M, mu, S1, ds, P, E, ok1, by rw [List.append_nil]; exact r1, h1, fun p vs H' ds S' hp k hp' ok' rr h => ?_, x.mono k1⟩
  exact n p vs H' ds S' ((Ext.of ok.sub k1).back hp fun m => ok1.tr p (ok1.sub p m) hp) (k1.trans k) hp' ok' rr h
end
end DL
namespace DL
open PySem PySem.Spec PyProof.Rows L2
section
variable {P : Program} {w : World} {K : PySem.W.Frag} {mg : Str → Option Value} {base : Heap} {x nm : Str} {st : Stmt}
theorem cal_defF {CX : CXT} {N ps : List Str} {k : Nat} {sp : DSpF} {wb : DWS} (I : DefIn K mg x nm st) (sc : FnScope N ps (defScope st))
    (hbd : ∀ (kV doc pm : Value) (an : Option Addr) (cdv ct : Value) (us : List Value), us.length = ps.length → bindArgs (PySem.W.fnOf nm nm (defArgs st) (defBody st) (defScope st) .none kV doc pm an cdv ct) ⟨us, []⟩ = pure (ps.zip us))
    (len : ∀ ds S P E, sp ds S P E → ds.length = ps.length)
    (hb : ∀ (f : Addr) (cdv : Value) (A : Around) (outer : List PySem.Env) (s : Shared) (H : Hp) (E : XK), Room k (A.deeper (envOfC nm (defScope st) s.heap.objs.size f cdv)) → DSs (cxOf CX P w K mg base N nm (defScope st) f cdv A outer s H E) (fun C d _ H' => E C d H') (defBody st) wb)
    (hw : ∀ ds S P E, S.all (lo S.length) = true → sp ds S P E → wb (endsF S.length P E) (startD N.length ds) S) : CalFr P w K mg base CX (k + 1) x ps sp := by
  obtain ⟨f, fd, F, hm⟩ := I
  refine ⟨f, fd, F.ok sc (fun vs H Q E h => ?_) (fun cdv A outer s H vs Q E hr h => ?_), hm, F.kp, F.bindsN hbd⟩
  · obtain ⟨M, mu, S, ds, P, Ex, ok, r, q, _⟩ := h
    rw [← r.len]
    exact len _ _ _ _ q
  · obtain ⟨M, mu, S, ds, P, Ex, ok, r, q, n, xx⟩ := h
    obtain ⟨t, p, rb⟩ := (hb f cdv A outer s H E hr).ex
    exact ⟨t, p, rb.run M mu _ _ S H _ _ ok (env_start r) (hw ds S P Ex ok.scoped q) (eok_defF ok n xx)⟩
end
/-- the built-ins' names are the built-ins' still -/
structure Bn (mg : Str → Option Value) : Prop where
  isinstance : mg "isinstance" = none
  len : mg "len" = none
  int : mg "int" = none
  bool : mg "bool" = none
  str : mg "str" = none
  list : mg "list" = none
  tuple : mg "tuple" = none
  dict : mg "dict" = none
  set : mg "set" = none
  range : mg "range" = none
  zip : mg "zip" = none
  enumerate : mg "enumerate" = none
  abs : mg "abs" = none
  all : mg "all" = none
  any : mg "any" = none
  sorted : mg "sorted" = none
  min : mg "min" = none
  max : mg "max" = none
  sum : mg "sum" = none
  repr : mg "repr" = none
  super : mg "super" = none
/-- of a kind that isinstance is asked of -/
def plainD : D → Bool
  | .non | .bl _ | .int _ | .str _ | .lst _ | .tup _ | .dk _ => true
  | _ => false
theorem plain_val {d : D} {S : Sto} (h : plainD d = true) : val S d = d := by
  cases d <;> first | rfl | cases h
end DL
set_option maxRecDepth 100000
set_option maxHeartbeats 2000000
namespace DL
open PySem PySem.Spec PyProof.Rows L2
/-! ### facts of a head -/
def dvD : He.Dv → Option D
  | .non => some .non
  | .bl b => some (.bl b)
  | .int i => some (.int i)
  | .str s => some (.str s)
  | .ty n => some (.ty n)
  | _ => none
def dvDs : List He.Dv → Option (List D)
  | [] => some []
  | v :: vs => match dvD v, dvDs vs with
    | some d, some ds => some (d :: ds)
    | _, _ => none
theorem rs_dv {K : PySem.W.Frag} {M : Addr → Prop} {mu : List Addr} {H : Hp} : ∀ {vs : List He.Dv} {ds : List D}, dvDs vs = some ds → Rs K M mu H ds (vs.map (He.Dv.v K))
  | [], ds, e => by obtain rfl : ([] : List D) = ds := Option.some.inj e; rfl
  | v :: vs, ds, e => by
    have e' : (match dvD v, dvDs vs with
      | some d, some ds => some (d :: ds)
      | _, _ => none) = some ds := by rw [← e]; rfl
    cases e1 : dvD v with
    | none => rw [e1] at e'; cases e'
    | some d =>
      cases e2 : dvDs vs with
      | none => rw [e1, e2] at e'; cases e'
      | some es =>
        rw [e1, e2] at e'
        obtain rfl : d :: es = ds := Option.some.inj e'
        refine ⟨_, _, rfl, ?_, rs_dv e2⟩
        cases v with
        | non => obtain rfl : D.non = d := Option.some.inj e1; rfl
        | bl b => obtain rfl : D.bl b = d := Option.some.inj e1; rfl
        | int b => obtain rfl : D.int b = d := Option.some.inj e1; rfl
        | str b => obtain rfl : D.str b = d := Option.some.inj e1; rfl
        | ty b => obtain rfl : D.ty b = d := Option.some.inj e1; rfl
        | _ => cases e1
theorem gtup_of {K : PySem.W.Frag} {mg : Str → Option Value} {x : Str} {vs : List He.Dv} {ds : List D} (h : He.tupB K x vs = true) (hm : mg x = some (.ref (He.ga K x))) (e : dvDs vs = some ds) : GTup K mg x ds := by
  refine ⟨_, _, hm, ?_, fun M mu H => rs_dv e⟩
  rcases He.tupB_ok h (fun _ => none) with (q | ⟨o, q⟩) | q
  · cases q
  · cases q
  · exact q
theorem defIn_of {K : PySem.W.Frag} {mg : Str → Option Value} {x nm : Str} {st : Stmt} {f : Addr} (h : ∃ fd, FunD K nm nm (defArgs st) (defBody st) (defScope st) [] [] f fd) (hm : mg x = some (.ref f)) : DefIn K mg x nm st := let ⟨fd, F⟩ := h; ⟨f, fd, F, hm⟩
/-! ### the law -/
/-- the law: at every script of at most 63 ints it gives True -/
def spLaw : DSp := fun ds S P _ => match ds with
  | [.scr ns] => ns.length ≤ 63 ∧ S = [] ∧ P (.bl true) []
  | _ => False
theorem law_sp {K : PySem.W.Frag} {H : Hp} {a : Addr} {ns : List Int} (hl : ns.length ≤ 63) (hO : Only H) (hS : SqL K H a (ns.map V.int)) : toSp K spLaw [.ref a] H (fun v _ => v = .bl true) fun _ _ _ => False := by
  refine ⟨fun _ => False, [], [], [.scr ns], fun d _ => d = .bl true, EF, ⟨rfl, (fun _ h => nomatch h), List.nodup_nil, fun _ h => False.elim h, fun i a d h => by simp at h⟩, ⟨.ref a, [], rfl, ⟨a, rfl, ?_⟩, rfl⟩, ⟨hl, rfl, rfl⟩, fun v H' d S' _ _ r e => ?_, fun _ _ _ _ _ _ _ _ _ h => h⟩
  · rcases hS with (q | ⟨o, q⟩) | q
    · rcases hO a with z | ⟨o, xs, z⟩
      · rw [z] at q; cases q
      · rw [z] at q; cases q
    · exact .inl ⟨fun h => h, .inr ⟨o, q⟩⟩
    · exact .inr q
  · subst e
    exact r
/-! ### the bag of the laws: the script's cells, how many were taken, the rest of a great one, the mixed number, the draws -/
def BagOk (b : List D) : Prop := ∃ (cells : List Int) (taken rest mixed draws : Int), b = [.lst (cells.map D.int), .int taken, .int rest, .int mixed, .int draws] ∧ 0 ≤ taken ∧ 0 ≤ rest ∧ 0 ≤ mixed ∧ mixed < 2147483629
def sp_bag : DSpF := fun ds S P _ => match ds with
  | [.scr ns] => ns.length ≤ 63 ∧ ∀ b, BagOk b → P b S
  | _ => False
def sp_pull : DSp := fun ds S P _ => match ds with
  | [.loc i, .int many] => ∃ b, S[i]? = some (.lst b) ∧ BagOk b ∧ 0 < many ∧ many < 10 ^ 1000 ∧ ∀ d b', 0 ≤ d → d < many → BagOk b' → P (.int d) (S.set i (.lst b'))
  | _ => False
def sp_of : DSp := fun ds S P _ => match ds with
  | [.loc i, .lst xs] => ∃ b, S[i]? = some (.lst b) ∧ BagOk b ∧ xs ≠ [] ∧ xs.length < 1000000 ∧ ∀ x b', x ∈ xs → BagOk b' → P x (S.set i (.lst b'))
  | _ => False
def sp_near : DSp := fun ds S P _ => match ds with
  | [.loc i, .int far] => ∃ b, S[i]? = some (.lst b) ∧ BagOk b ∧ 0 ≤ far ∧ far < 10 ^ 900 ∧ ∀ z b', -far ≤ z → z ≤ far → BagOk b' → P (.int z) (S.set i (.lst b'))
  | _ => False
def sp_any : DSp := fun ds S P _ => match ds with
  | [.loc i] => ∃ b, S[i]? = some (.lst b) ∧ BagOk b ∧ ∀ z b', -(10 ^ 30) ≤ z → z ≤ 10 ^ 30 → BagOk b' → P (.int z) (S.set i (.lst b'))
  | _ => False
theorem rt_same {n : Nat} {P : DK} {E : Ex} {d : D} {S : Sto} (hl : S.length = n) (h : P d S) : (endsOf n P E).rt d S := .inl ⟨hl, h⟩
theorem val_at {S : Sto} {i : Nat} {ds : List D} (h : S[i]? = some (.lst ds)) : val S (.loc i) = .lst ds := by
  show cont (S.getD i .non) (.loc i) = _
  rw [List.getD_eq_getElem?_getD, h]
  rfl
theorem get_set {S : Sto} {i : Nat} {d c : D} (h : S[i]? = some d) : (S.set i c)[i]? = some c := List.getElem?_set_self (List.getElem?_eq_some_iff.mp h).1
/-- a loop of a comprehension, its element a value of its item -/
theorem lcW_map {i : Nat} {te : DW} {ρ : Loc} {P : List D → Sto → Prop} {S : Sto} (f : D → D) : ∀ (xs acc : List D), (∀ x ∈ xs, ∀ Q : DK, Q (f x) S → te (ρ.set i (some x)) S Q EF) → acc.length + xs.length ≤ 1000000 → P (acc ++ xs.map f) S → lcW (wgName i) wTYes te ρ P xs acc S
  | [], acc, _, hl, h => ⟨hl, by simpa using h⟩
  | x :: xs, acc, ht, hl, h => by
    refine ⟨by rw [List.length_cons] at hl; omega, ?_⟩
    show (if true = true then te (ρ.set i (some x)) S (fun y S2 => lcW (wgName i) wTYes te ρ P xs (acc ++ [y]) S2) EF else lcW (wgName i) wTYes te ρ P xs acc S)
    rw [if_pos rfl]
    refine ht x (by simp) _ ?_
    exact lcW_map f xs (acc ++ [f x]) (fun y hy => ht y (by simp [hy])) (by rw [List.length_append, List.length_singleton]; rw [List.length_cons] at hl; omega) (by rw [List.append_assoc]; exact h)
theorem v_non {S : Sto} : val S .non = .non := rfl
theorem v_bl {S : Sto} {b : Bool} : val S (.bl b) = .bl b := rfl
theorem v_int {S : Sto} {b : Int} : val S (.int b) = .int b := rfl
theorem v_str {S : Sto} {b : Str} : val S (.str b) = .str b := rfl
theorem v_ty {S : Sto} {b : String} : val S (.ty b) = .ty b := rfl
theorem v_cst {S : Sto} {b : Addr} : val S (.cst b) = .cst b := rfl
theorem v_lst {S : Sto} {b : List D} : val S (.lst b) = .lst b := rfl
theorem v_tup {S : Sto} {b : List D} : val S (.tup b) = .tup b := rfl
theorem v_dk {S : Sto} {b : List (Key × D)} : val S (.dk b) = .dk b := rfl
theorem v_dt {S : Sto} {b : List (List Key × D)} : val S (.dt b) = .dt b := rfl
theorem v_ktp {S : Sto} {b : List D} : val S (.ktp b) = .tup b := rfl
theorem v_obj {S : Sto} {C : Addr} {b : List (Str × D)} : val S (.obj C b) = .obj C b := rfl
theorem v_scr {S : Sto} {b : List Int} : val S (.scr b) = .scr b := rfl
theorem bls_map (f : D → Bool) : ∀ l : List D, blsD (l.map fun d => .bl (f d)) = some (l.map f)
  | [] => rfl
  | d :: l => by
    show (blsD (l.map fun d => .bl (f d))).map (f d :: ·) = _
    rw [bls_map f l]
    rfl
theorem all_map_id (f : D → Bool) : ∀ l : List D, (l.map f).all id = l.all f
  | [] => rfl
  | d :: l => by
    show (f d && (l.map f).all id) = (f d && l.all f)
    rw [all_map_id f l]
theorem at5_0 {a b c d e : D} : atI [a, b, c, d, e] 0 = some a := rfl
theorem at5_1 {a b c d e : D} : atI [a, b, c, d, e] 1 = some b := rfl
theorem at5_2 {a b c d e : D} : atI [a, b, c, d, e] 2 = some c := rfl
theorem at5_3 {a b c d e : D} : atI [a, b, c, d, e] 3 = some d := rfl
theorem at5_4 {a b c d e : D} : atI [a, b, c, d, e] 4 = some e := rfl
theorem ix5_1 : ixN 5 1 = some 1 := rfl
theorem ix5_2 : ixN 5 2 = some 2 := rfl
theorem ix5_3 : ixN 5 3 = some 3 := rfl
theorem ix5_4 : ixN 5 4 = some 4 := rfl
theorem at2_0 {a b : D} : atI [a, b] 0 = some a := rfl
theorem at2_1 {a b : D} : atI [a, b] 1 = some b := rfl
theorem at3_0 {a b c : D} : atI [a, b, c] 0 = some a := rfl
theorem at3_1 {a b c : D} : atI [a, b, c] 1 = some b := rfl
theorem at3_2 {a b c : D} : atI [a, b, c] 2 = some c := rfl
theorem at_in {α : Type} {l : List α} {z : Int} (h0 : 0 ≤ z) (h1 : z < l.length) : ∃ x, x ∈ l ∧ atI l z = some x := by
  obtain ⟨n, rfl⟩ : ∃ n : Nat, z = n := ⟨z.toNat, by omega⟩
  have hn : n < l.length := by omega
  exact ⟨l[n], List.getElem_mem hn, atI_nat (List.getElem?_eq_getElem hn)⟩
/-! ### kinds -/
def kdInt : D → Bool
  | .int _ | .bl _ => true
  | _ => false
def kdBl : D → Bool
  | .bl _ => true
  | _ => false
def kdStr : D → Bool
  | .str _ => true
  | _ => false
def kdLst : D → Bool
  | .lst _ => true
  | _ => false
def kdTup : D → Bool
  | .tup _ => true
  | _ => false
theorem isi_int {d : D} (h : plainD d = true) : isiN d "int" = some (kdInt d) := by cases d <;> first | rfl | cases h
theorem isi_bl {d : D} (h : plainD d = true) : isiN d "bool" = some (kdBl d) := by cases d <;> first | rfl | cases h
theorem isi_str {d : D} (h : plainD d = true) : isiN d "str" = some (kdStr d) := by cases d <;> first | rfl | cases h
theorem isi_lst {d : D} (h : plainD d = true) : isiN d "list" = some (kdLst d) := by cases d <;> first | rfl | cases h
theorem isi_tup {d : D} (h : plainD d = true) : isiN d "tuple" = some (kdTup d) := by cases d <;> first | rfl | cases h
/-! ### _law_same: equal and of the same kinds, part by part -/
mutual
/-- plain all through -/
def deep : D → Bool
  | .non | .bl _ | .int _ | .str _ => true
  | .lst ds => decide (ds.length ≤ 1000000) && deeps ds
  | .tup ds => decide (ds.length ≤ 1000000) && deeps ds
  | _ => false
def deeps : List D → Bool
  | [] => true
  | d :: ds => deep d && deeps ds
end
mutual
def same : D → D → Bool
  | .lst a, .lst b => sames a b
  | .tup a, .tup b => sames a b
  | .non, .non => true
  | .bl a, .bl b => decide (a = b)
  | .int a, .int b => decide (a = b)
  | .str a, .str b => decide (a = b)
  | _, _ => false
def sames : List D → List D → Bool
  | [], [] => true
  | a :: as, b :: bs => same a b && sames as bs
  | _, _ => false
end
mutual
theorem same_refl : ∀ d : D, deep d = true → same d d = true
  | .non, _ => rfl
  | .bl b, _ => by simp [same]
  | .int b, _ => by simp [same]
  | .str b, _ => by simp [same]
  | .lst ds, h => sames_refl ds (and_tt h).2
  | .tup ds, h => sames_refl ds (and_tt h).2
  | .ty _, h => by cases h
  | .cst _, h => by cases h
  | .loc _, h => by cases h
  | .scr _, h => by cases h
  | .dk _, h => by cases h
  | .dt _, h => by cases h
  | .ktp _, h => by cases h
  | .obj _ _, h => by cases h
theorem sames_refl : ∀ ds : List D, deeps ds = true → sames ds ds = true
  | [], _ => rfl
  | d :: ds, h => tt_and (same_refl d (and_tt h).1) (sames_refl ds (and_tt h).2)
end
mutual
def dep : D → Nat
  | .lst ds => deps ds + 1
  | .tup ds => deps ds + 1
  | _ => 0
def deps : List D → Nat
  | [] => 0
  | d :: ds => max (dep d) (deps ds)
end
def sp_same (n : Nat) : DSp := fun ds S P _ => match ds with
  | [x, y] => deep x = true ∧ deep y = true ∧ dep y ≤ n ∧ P (.bl (same x y)) S
  | _ => False
end DL
set_option maxRecDepth 100000
namespace DL
open PySem PySem.Spec PyProof.Rows L2
/-! the combinators applied, one step each: for simp from the head on -/
theorem wC_ap  {d : D} {z0} {S} {P} {z3} : wC d z0 S P z3 = (P d S) := rfl
theorem wNil_ap  {z0} {S} {P} {z3} : wNil  z0 S P z3 = (P [] S) := rfl
theorem wCons_ap  {wa : DW} {w : DWA} {ρ} {S} {P} {E} : wCons wa w ρ S P E = (wa ρ S (fun x S1 => w ρ S1 (fun xs S2 => P (x :: xs) S2) E) E) := rfl
theorem wLst_ap  {w : DWA} {ρ} {S} {P} {E} : wLst w ρ S P E = (w ρ S (fun ds S1 => ds.length ≤ 1000000 ∧ P (.lst ds) S1) E) := rfl
theorem wTup_ap  {w : DWA} {ρ} {S} {P} {E} : wTup w ρ S P E = (w ρ S (fun ds S1 => ds.length ≤ 1000000 ∧ P (.tup ds) S1) E) := rfl
theorem wOp_ap  {f : DF2} {wa wb : DW} {ρ} {S} {P} {E} : wOp f wa wb ρ S P E = (wa ρ S (fun x S1 => wb ρ S1 (fun y S2 => f x y S2 P) E) E) := rfl
theorem wB_ap  {w : DW} {ρ} {S} {P} {E} : wB w ρ S P E = (w ρ S (fun x S1 => match x with
  | .bl k => P k S1
  | _ => False) E) := rfl
theorem wUn_ap  {f : D → Sto → DK → Prop} {wa : DW} {ρ} {S} {P} {E} : wUn f wa ρ S P E = (wa ρ S (fun x S1 => f x S1 P) E) := rfl
theorem wCB_ap  {f : DFn} {w : DWA} {ρ} {S} {P} {E} : wCB f w ρ S P E = (w ρ S (fun xs S1 => f xs S1 P) E) := rfl
theorem wCall_ap  {sp : DSp} {dd : List D} {w : DWA} {ρ} {S} {P} {E} : wCall sp dd w ρ S P E = (w ρ S (fun ds S1 => sp (ds ++ dd) S1 P E) E) := rfl
theorem wCallK_ap  {sp : DSp} {n m : Nat} {w wk : DWA} {ρ} {S} {P} {E} : wCallK sp n m w wk ρ S P E = (w ρ S (fun ds S1 => wk ρ S1 (fun es S2 => ds.length = n ∧ es.length = m ∧ sp (ds ++ es) S2 P E) E) E) := rfl
theorem wSl_ap  {wa : DW} {wl wh : DWO} {ρ} {S} {P} {E} : wSl wa wl wh ρ S P E = (wa ρ S (fun x S1 => wl ρ S1 (fun l S2 => wh ρ S2 (fun u S3 => sliceD x l u S3 P) E) E) E) := rfl
theorem wPart_ap  {w : DW} {ρ} {S} {P} {E} : wPart w ρ S P E = (w ρ S (fun x S1 => match x with
  | .int i => P (some i) S1
  | _ => False) E) := rfl
theorem wNoPart_ap  {z0} {S} {P} {z3} : wNoPart  z0 S P z3 = (P none S) := rfl
theorem wAndT_ap  {a b : DWT} {ρ} {S} {P} {E} : wAndT a b ρ S P E = (a ρ S (fun k S1 => if k = true then b ρ S1 P E else P false S1) E) := rfl
theorem wOrT_ap  {a b : DWT} {ρ} {S} {P} {E} : wOrT a b ρ S P E = (a ρ S (fun k S1 => if k = true then P true S1 else b ρ S1 P E) E) := rfl
theorem wNotT_ap  {a : DWT} {ρ} {S} {P} {E} : wNotT a ρ S P E = (a ρ S (fun k S1 => P (!k) S1) E) := rfl
theorem wAndV_ap  {a b : DW} {ρ} {S} {P} {E} : wAndV a b ρ S P E = (a ρ S (fun x S1 => match x with
  | .bl k => if k = true then b ρ S1 P E else P (.bl false) S1
  | _ => False) E) := rfl
theorem wOrV_ap  {a b : DW} {ρ} {S} {P} {E} : wOrV a b ρ S P E = (a ρ S (fun x S1 => match x with
  | .bl k => if k = true then P (.bl true) S1 else b ρ S1 P E
  | _ => False) E) := rfl
theorem wIf_ap  {t : DWT} {a b : DW} {ρ} {S} {P} {E} : wIf t a b ρ S P E = (t ρ S (fun k S1 => if k = true then a ρ S1 P E else b ρ S1 P E) E) := rfl
theorem wTru_ap  {w : DW} {ρ} {S} {P} {E} : wTru w ρ S P E = (w ρ S (fun x S1 => truD x S1 P) E) := rfl
theorem wLc_ap  {wi : DWI} {g : DWG} {tt : DWT} {te : DW} {vs : List Nat} {ρ} {S} {P} {E} : wLc wi g tt te vs ρ S P E = (wi ρ S (fun items src S1 => (match src with
  | none => True
  | some _ => False) ∧ lcW g tt te (wD ρ vs) (fun ds S2 => P (.lst ds) S2) items [] S1) E) := rfl
theorem wiSeq_ap  {w : DW} {ρ} {S} {P} {E} : wiSeq w ρ S P E = (w ρ S (fun d S1 => match d with
  | .lst ds => P ds none S1
  | .tup ds => P ds none S1
  | .ktp ds => P ds none S1
  | .loc i => (match val S1 (.loc i) with
    | .lst ds => P ds (some (i, ds)) S1
    | _ => False)
  | _ => False) E) := rfl
theorem wiRng1_ap  {w : DWA} {ρ} {S} {P} {E} : wiRng1 w ρ S P E = (w ρ S (fun ds S1 => match ds with
  | [.int j] => (-1000000 ≤ j ∧ j ≤ 1000000) ∧ P (rangeD 0 j.toNat) none S1
  | _ => False) E) := rfl
theorem wiRng2_ap  {w : DWA} {ρ} {S} {P} {E} : wiRng2 w ρ S P E = (w ρ S (fun ds S1 => match ds with
  | [.int i, .int j] => (-1000000 ≤ i ∧ i ≤ 1000000 ∧ -1000000 ≤ j ∧ j ≤ 1000000) ∧ P (rangeD i (j - i).toNat) none S1
  | _ => False) E) := rfl
theorem wiZip_ap  {w : DWA} {ρ} {S} {P} {E} : wiZip w ρ S P E = (w ρ S (fun ds S1 => match ds with
  | [.lst a, .lst b] => P (zipD a b) none S1
  | [.tup a, .tup b] => P (zipD a b) none S1
  | _ => False) E) := rfl
theorem wLstRg_ap  {we : DW} {ρ} {S} {P} {E} : wLstRg we ρ S P E = (we ρ S (fun d S1 => match d with
  | .int n => (-1000000 ≤ n ∧ n ≤ 1000000) ∧ P (.lst (rangeD 0 n.toNat)) S1
  | _ => False) E) := rfl
theorem wTYes_ap  {z0} {S} {P} {z3} : wTYes  z0 S P z3 = (P true S) := rfl
theorem wsNext_ap  {D} {ρ} {S} : wsNext  D ρ S = (D.nx ρ S) := rfl
theorem wsSeq_ap  {a b : DWS} {D} {ρ} {S} : wsSeq a b D ρ S = (a { D with nx := b D } ρ S) := rfl
theorem wsRet_ap  {w : DW} {D} {ρ} {S} : wsRet w D ρ S = (w ρ S D.rt D.ex) := rfl
theorem wsRetN_ap  {D} {z1} {S} : wsRetN  D z1 S = (D.rt .non S) := rfl
theorem wsRetF_ap  {w : DWA} {Y} {ρ} {S} : wsRetF w Y ρ S = (w ρ S Y.rf Y.ex) := rfl
theorem wsDrop_ap  {w : DW} {D} {ρ} {S} : wsDrop w D ρ S = (w ρ S (fun _ S1 => D.nx ρ S1) D.ex) := rfl
theorem wsIf_ap  {t : DWT} {a b : DWS} {D} {ρ} {S} : wsIf t a b D ρ S = (t ρ S (fun k S1 => if k = true then a D ρ S1 else b D ρ S1) D.ex) := rfl
theorem wsAsg_ap  {w : DW} {g : DWG} {D} {ρ} {S} : wsAsg w g D ρ S = (w ρ S (fun d S1 => g d S1 ρ fun ρ' => D.nx ρ' S1) D.ex) := rfl
theorem wsSet_ap  {i : Nat} {w : DW} {D} {ρ} {S} : wsSet i w D ρ S = (w ρ S (fun d S1 => D.nx (ρ.set i (some d)) S1) D.ex) := rfl
theorem wsSetF_ap  {i : Nat} {w : DWA} {Y} {ρ} {S} : wsSetF i w Y ρ S = (w ρ S (fun ds S1 => Y.nx (ρ.set i (some (.loc S1.length))) (S1 ++ [.lst ds])) Y.ex) := rfl
theorem wsPar_ap  {is : List Nat} {w : DWA} {D} {ρ} {S} : wsPar is w D ρ S = (w ρ S (fun ds S1 => ds.length = is.length ∧ D.nx ((is.zip ds).foldl (fun r p => r.set p.1 (some p.2)) ρ) S1) D.ex) := rfl
theorem wsStore_ap  {we wo wi : DW} {D} {ρ} {S} : wsStore we wo wi D ρ S = (we ρ S (fun d S1 => wo ρ S1 (fun x S2 => wi ρ S2 (fun y S3 => match x, y with
  | .loc j, .int k => (match val S3 (.loc j) with
    | .lst ds => (match ixN ds.length k with
      | some n => D.nx ρ (S3.set j (.lst (ds.set n d)))
      | none => False)
    | _ => False)
  | _, _ => False) D.ex) D.ex) D.ex) := rfl
theorem wsFor_ap  {wi : DWI} {g : DWG} {tb : DWS} {Y} {ρ} {S} : wsFor wi g tb Y ρ S = (wi ρ S (fun items src S1 => forW g tb Y items src items ρ S1) Y.ex) := rfl
theorem wsBreak_ap  {D} {ρ} {S} : wsBreak  D ρ S = (D.bk ρ S) := rfl
theorem wsCont_ap  {D} {ρ} {S} : wsCont  D ρ S = (D.ct ρ S) := rfl
theorem wgName_ap  {i : Nat} {d} {z1} {ρ} {P} : wgName i d z1 ρ P = (P (ρ.set i (some d))) := rfl
theorem wgNil_ap  {ds} {z1} {ρ} {P} : wgNil  ds z1 ρ P = (ds = [] ∧ P ρ) := rfl
theorem wgCons_ap  {g : DWG} {gs : DWGs} {ds} {S} {ρ} {P} : wgCons g gs ds S ρ P = (match ds with
  | d :: r => g d S ρ fun ρ' => gs r S ρ' P
  | [] => False) := rfl
theorem wgTup_ap  {gs : DWGs} {d} {S} {ρ} {P} : wgTup gs d S ρ P = (match val S d with
  | .tup ds => gs ds S ρ P
  | _ => False) := rfl
theorem wVar_0 {d : D} {ρ : Loc} {S : Sto} {P : DK} {E : Ex} : wVar 0 (some d :: ρ) S P E = P d S := rfl
theorem wVar_s {n : Nat} {x : Option D} {ρ : Loc} {S : Sto} {P : DK} {E : Ex} : wVar (n + 1) (x :: ρ) S P E = wVar n ρ S P E := rfl
theorem wD_nil {ρ : Loc} : wD ρ [] = ρ := rfl
theorem wD_cons {ρ : Loc} {v : Nat} {vs : List Nat} : wD ρ (v :: vs) = (wD ρ vs).set v none := rfl
theorem lcW_nil {g : DWG} {tt : DWT} {te : DW} {ρ : Loc} {P : List D → Sto → Prop} {acc : List D} {S : Sto} : lcW g tt te ρ P [] acc S = (acc.length ≤ 1000000 ∧ P acc S) := rfl
theorem lcW_cons {g : DWG} {tt : DWT} {te : DW} {ρ : Loc} {P : List D → Sto → Prop} {x : D} {xs acc : List D} {S : Sto} : lcW g tt te ρ P (x :: xs) acc S = (acc.length ≤ 1000000 ∧ g x S ρ fun ρ' => tt ρ' S (fun b S1 => if b = true then te ρ' S1 (fun y S2 => lcW g tt te ρ P xs (acc ++ [y]) S2) EF else lcW g tt te ρ P xs acc S1) EF) := rfl
theorem startD_ap {n : Nat} {ds : List D} : startD n ds = ds.map some ++ List.replicate (n - ds.length) none := rfl
end DL
set_option maxRecDepth 100000
namespace DL
open PySem PySem.Spec PyProof.Rows L2
/-- a loop by an invariant over what is left -/
theorem for_inv {g : DWG} {tb : DWS} {Y : DEnds} {all : List D} (J : List D → Loc → Sto → Prop)
    (hs : ∀ x xs ρ S, J (x :: xs) ρ S → ∀ nx : Loc → Sto → Prop, (∀ ρ' S', J xs ρ' S' → nx ρ' S') → g x S ρ fun ρ' => tb { Y with nx := nx, ct := nx, bk := Y.nx } ρ' S)
    (he : ∀ ρ S, J [] ρ S → Y.nx ρ S) : ∀ xs ρ S, J xs ρ S → forW g tb Y all none xs ρ S
  | [], ρ, S, h => ⟨True.intro, he ρ S h⟩
  | x :: xs, ρ, S, h => ⟨True.intro, hs x xs ρ S h _ fun ρ' S' h' => for_inv J hs he xs ρ' S' h'⟩
theorem cut63 {ns : List Int} (h : ns.length ≤ 63) : cutD (ns.map D.int) none (some 63) = ns.map D.int := by
  have h1 : HT.sIx (ns.map D.int).length 0 none = 0 := rfl
  have h2 : (ns.map D.int).length ≤ HT.sIx (ns.map D.int).length (ns.map D.int).length (some 63) := by
    rw [List.length_map]
    unfold HT.sIx
    first | omega | (simp; omega) | (split <;> omega)
  unfold cutD
  rw [h1, List.drop_zero, Nat.sub_zero, List.take_of_length_le h2]
theorem mulC {i j : Int} (h : j.natAbs < 2 ^ 64) : MulOk i j := .inr (.inl h)
theorem mulC1 {i j : Int} (h : i.natAbs < 2 ^ 64) : MulOk i j := .inl h
end DL
namespace DL
open PySem PySem.Spec PyProof.Rows L2
theorem val_set {S : Sto} {i : Nat} {ds : List D} (h : i < S.length) : val (S.set i (.lst ds)) (.loc i) = .lst ds := val_at (List.getElem?_set_self h)
theorem set_set {S : Sto} {i : Nat} {a b : D} : (S.set i a).set i b = S.set i b := by simp
theorem lt_at {S : Sto} {i : Nat} {d : D} (h : S[i]? = some d) : i < S.length := (List.getElem?_eq_some_iff.mp h).1
end DL
namespace DL
open PySem PySem.Spec PyProof.Rows L2
/-- a step, what it reaches told -/
theorem ws_join {a b : DWS} {Y : DEnds} {ρ : Loc} {S : Sto} (J : Loc → Sto → Prop) (h1 : ∀ nx : Loc → Sto → Prop, (∀ ρ' S', J ρ' S' → nx ρ' S') → a { Y with nx := nx } ρ S) (h2 : ∀ ρ' S', J ρ' S' → b Y ρ' S') : wsSeq a b Y ρ S := h1 _ h2
end DL
namespace DL
open PySem PySem.Spec PyProof.Rows L2
/-! tables -/
theorem is_non_int : isiN .non "int" = some false := rfl
theorem is_bl_int {b : Bool} : isiN (.bl b) "int" = some true := rfl
theorem is_int_int {b : Int} : isiN (.int b) "int" = some true := rfl
theorem is_str_int {b : Str} : isiN (.str b) "int" = some false := rfl
theorem is_lst_int {b : List D} : isiN (.lst b) "int" = some false := rfl
theorem is_tup_int {b : List D} : isiN (.tup b) "int" = some false := rfl
theorem is_dk_int {b : List (Key × D)} : isiN (.dk b) "int" = some false := rfl
theorem is_non_bool : isiN .non "bool" = some false := rfl
theorem is_bl_bool {b : Bool} : isiN (.bl b) "bool" = some true := rfl
theorem is_int_bool {b : Int} : isiN (.int b) "bool" = some false := rfl
theorem is_str_bool {b : Str} : isiN (.str b) "bool" = some false := rfl
theorem is_lst_bool {b : List D} : isiN (.lst b) "bool" = some false := rfl
theorem is_tup_bool {b : List D} : isiN (.tup b) "bool" = some false := rfl
theorem is_dk_bool {b : List (Key × D)} : isiN (.dk b) "bool" = some false := rfl
theorem is_non_str : isiN .non "str" = some false := rfl
theorem is_bl_str {b : Bool} : isiN (.bl b) "str" = some false := rfl
theorem is_int_str {b : Int} : isiN (.int b) "str" = some false := rfl
theorem is_str_str {b : Str} : isiN (.str b) "str" = some true := rfl
theorem is_lst_str {b : List D} : isiN (.lst b) "str" = some false := rfl
theorem is_tup_str {b : List D} : isiN (.tup b) "str" = some false := rfl
theorem is_dk_str {b : List (Key × D)} : isiN (.dk b) "str" = some false := rfl
theorem is_non_list : isiN .non "list" = some false := rfl
theorem is_bl_list {b : Bool} : isiN (.bl b) "list" = some false := rfl
theorem is_int_list {b : Int} : isiN (.int b) "list" = some false := rfl
theorem is_str_list {b : Str} : isiN (.str b) "list" = some false := rfl
theorem is_lst_list {b : List D} : isiN (.lst b) "list" = some true := rfl
theorem is_tup_list {b : List D} : isiN (.tup b) "list" = some false := rfl
theorem is_dk_list {b : List (Key × D)} : isiN (.dk b) "list" = some false := rfl
theorem is_non_tuple : isiN .non "tuple" = some false := rfl
theorem is_bl_tuple {b : Bool} : isiN (.bl b) "tuple" = some false := rfl
theorem is_int_tuple {b : Int} : isiN (.int b) "tuple" = some false := rfl
theorem is_str_tuple {b : Str} : isiN (.str b) "tuple" = some false := rfl
theorem is_lst_tuple {b : List D} : isiN (.lst b) "tuple" = some false := rfl
theorem is_tup_tuple {b : List D} : isiN (.tup b) "tuple" = some true := rfl
theorem is_dk_tuple {b : List (Key × D)} : isiN (.dk b) "tuple" = some false := rfl
theorem lcW_mapG {g : DWG} {te : DW} {ρ : Loc} {P : List D → Sto → Prop} {S : Sto} (f : D → D) : ∀ (xs acc : List D), (∀ x ∈ xs, ∀ Q : DK, Q (f x) S → g x S ρ fun ρ' => te ρ' S Q EF) → acc.length + xs.length ≤ 1000000 → P (acc ++ xs.map f) S → lcW g wTYes te ρ P xs acc S
  | [], acc, _, hl, h => ⟨hl, by simpa using h⟩
  | x :: xs, acc, ht, hl, h => by
    refine ⟨by rw [List.length_cons] at hl; omega, ?_⟩
    refine ht x (by simp) _ ?_
    exact lcW_mapG f xs (acc ++ [f x]) (fun y hy => ht y (by simp [hy])) (by rw [List.length_append, List.length_singleton]; rw [List.length_cons] at hl; omega) (by rw [List.append_assoc]; exact h)
def smP : D → Bool
  | .tup [x, y] => same x y
  | _ => false
theorem sames_zip : ∀ a b : List D, sames a b = (decide (a.length = b.length) && (zipD a b).all smP)
  | [], [] => rfl
  | [], _ :: _ => rfl
  | _ :: _, [] => rfl
  | x :: a, y :: b => by
    show (same x y && sames a b) = (decide ((x :: a).length = (y :: b).length) && (same x y && (zipD a b).all smP))
    rw [sames_zip a b]
    have e : decide ((x :: a).length = (y :: b).length) = decide (a.length = b.length) := by simp
    rw [e]
    cases same x y <;> cases decide (a.length = b.length) <;> rfl
theorem deep_plain {d : D} (h : deep d = true) : plainD d = true := by cases d <;> first | rfl | cases h
theorem deeps_mem : ∀ {l : List D} {d : D}, deeps l = true → d ∈ l → deep d = true
  | x :: l, d, h, hd => by
    rcases List.mem_cons.mp hd with e | e
    · subst e; exact (and_tt h).1
    · exact deeps_mem (and_tt h).2 e
theorem deps_mem : ∀ {l : List D} {d : D}, d ∈ l → dep d ≤ deps l
  | x :: l, d, hd => by
    have e0 : deps (x :: l) = max (dep x) (deps l) := rfl
    rcases List.mem_cons.mp hd with e | e
    · subst e; rw [e0]; exact Nat.le_max_left _ _
    · rw [e0]; exact Nat.le_trans (deps_mem e) (Nat.le_max_right _ _)
theorem zip_mem {a b : List D} {p : D} (h : p ∈ zipD a b) : ∃ x y, p = .tup [x, y] ∧ x ∈ a ∧ y ∈ b := by
  obtain ⟨i, hi⟩ := List.getElem?_of_mem h
  obtain ⟨x, y, h1, h2, rfl⟩ := zip_at hi
  exact ⟨x, y, rfl, List.mem_of_getElem? h1, List.mem_of_getElem? h2⟩
theorem zip_len {a b : List D} (h : a.length ≤ 1000000) : (zipD a b).length ≤ 1000000 := by
  unfold zipD
  rw [List.length_zipWith]
  omega
section
variable {P : Program} {w : World} {K : PySem.W.Frag} {mg : Str → Option Value} {base : Heap} {x nm : Str} {st : Stmt}
/-- a callee that is never reached -/
theorem cal_no {CX : CXT} {ps : List Str} (I : DefIn K mg x nm st)
    (hbd : ∀ (kV doc pm : Value) (an : Option Addr) (cdv ct : Value) (us : List Value), us.length = ps.length → bindArgs (PySem.W.fnOf nm nm (defArgs st) (defBody st) (defScope st) .none kV doc pm an cdv ct) ⟨us, []⟩ = pure (ps.zip us)) : Cal P w K mg base CX 0 x ps (fun _ _ _ _ => False) := by
  obtain ⟨f, fd, F, hm⟩ := I
  exact ⟨f, fd, ⟨⟨fun _ _ _ _ h => (let ⟨_, _, _, _, _, _, _, _, q, _⟩ := h; q.elim), fun _ _ _ _ _ _ _ _ _ _ _ _ _ h => (let ⟨_, _, _, _, _, _, _, _, q, _⟩ := h; q.elim)⟩, hm, F.kp, F.bindsN hbd, let ⟨oc, od, _, _, _, _, _, _, _, osl, _, lk, _⟩ := F.ex; ⟨oc, od, osl, lk⟩⟩⟩
end
end DL
namespace DL
open PySem PySem.Spec PyProof.Rows L2
theorem sp_same_of {n : Nat} {x y : D} {S : Sto} {P : DK} {E : Ex} (hx : deep x = true) (hy : deep y = true) (hd : dep y ≤ n) (e : DL.same x y = true) (h : P (.bl true) S) : sp_same n [x, y] S P E := ⟨hx, hy, hd, by rw [e]; exact h⟩
/-- the same thing twice -/
theorem sp_same_rf {n : Nat} {x y : D} {S : Sto} {P : DK} {E : Ex} (e : x = y) (hy : deep y = true) (hd : dep y ≤ n) (h : P (.bl true) S) : sp_same n [x, y] S P E := by
  subst e
  exact ⟨hy, hy, hd, by rw [same_refl x hy]; exact h⟩
theorem rt0 {P : DK} {E : Ex} {b : Bool} {S : Sto} (h : P (.bl b) []) : (endsOf 0 P E).rt (.bl b) S := .inr ⟨.bl b, rfl, rfl, h⟩
end DL
namespace DL
open PySem PySem.Spec PyProof.Rows L2
theorem truD_non {S : Sto} {P : Bool → Sto → Prop} : truD .non S P = P false S := rfl
theorem truD_bl {k : Bool} {S : Sto} {P : Bool → Sto → Prop} : truD (.bl k) S P = P k S := rfl
theorem truD_int {k : Int} {S : Sto} {P : Bool → Sto → Prop} : truD (.int k) S P = P (k != 0) S := rfl
theorem truD_str {k : Str} {S : Sto} {P : Bool → Sto → Prop} : truD (.str k) S P = (k.length ≤ 1000000 ∧ P ((k.length : Int) != 0) S) := rfl
theorem truD_lst {k : List D} {S : Sto} {P : Bool → Sto → Prop} : truD (.lst k) S P = P (!k.isEmpty) S := rfl
theorem truD_tup {k : List D} {S : Sto} {P : Bool → Sto → Prop} : truD (.tup k) S P = P (!k.isEmpty) S := rfl
section
variable {P : Program} {w : World} {K : PySem.W.Frag} {mg : Str → Option Value} {base : Heap} {CX : CXT} {k : Nat} {x : Str} {ps ks : List Str} {n : Nat}
/-- the promise behind a name of its own, so that no step looks into it -/
theorem hide {sp : DSp} (c : Cal P w K mg base CX k x ps sp) : ∃ sp' : DSp, Cal P w K mg base CX k x ps sp' ∧ ∀ ds S P E, sp ds S P E → sp' ds S P E := ⟨sp, c, fun _ _ _ _ h => h⟩
theorem hideK {sp : DSp} (c : CalK P w K mg base CX k x ps n ks sp) : ∃ sp' : DSp, CalK P w K mg base CX k x ps n ks sp' ∧ ∀ ds S P E, sp ds S P E → sp' ds S P E := ⟨sp, c, fun _ _ _ _ h => h⟩
theorem hideF {sp : DSpF} (c : CalFr P w K mg base CX k x ps sp) : ∃ sp' : DSpF, CalFr P w K mg base CX k x ps sp' ∧ ∀ ds S P E, sp ds S P E → sp' ds S P E := ⟨sp, c, fun _ _ _ _ h => h⟩
end
end DL
set_option maxRecDepth 100000
set_option maxHeartbeats 200000
namespace DL
open PySem PySem.Spec PyProof.Rows L2
/-! ### what is never reached -/
def wsNever : DWS := fun _ _ _ => False
def wNever : DW := fun _ _ _ _ => False
def tNeverE : TE := fun _ _ _ => False
section
variable {X : Cx} {W : WX}
theorem ds_never {st : Stmt} : DS X W st wsNever := ⟨_, ps_never, ⟨fun _ _ _ _ _ _ _ _ _ _ h _ => h.elim⟩⟩
theorem dss_never {st : List Stmt} : DSs X W st wsNever := ⟨_, pss_never, ⟨fun _ _ _ _ _ _ _ _ _ _ h _ => h.elim⟩⟩
theorem de_never {e : Expr} : DE X W e wNever := ⟨tNeverE, ⟨fun _ _ _ _ _ _ h => h.elim⟩, ⟨fun _ _ _ _ _ _ _ _ _ _ _ h _ _ => h.elim⟩⟩
end
/-! ### expressions that make cells -/
def NrmX (K : PySem.W.Frag) (M : Addr → Prop) (mu : List Addr) (H : Hp) (P : DK) (Q : VK) : Prop := ∀ M' mu' v H' d S', Ext M mu H M' mu' H' → Wok K M' mu' H' S' → R K M' mu' H' d v → P d S' → Q v H'
def NrmAX (K : PySem.W.Frag) (M : Addr → Prop) (mu : List Addr) (H : Hp) (P : List D → Sto → Prop) (Q : List V → Hp → Prop) : Prop := ∀ M' mu' v H' d S', Ext M mu H M' mu' H' → Wok K M' mu' H' S' → Rs K M' mu' H' d v → P d S' → Q v H'
def ExcX (K : PySem.W.Frag) (M : Addr → Prop) (mu : List Addr) (H : Hp) (E : Ex) (W : Value → Option Addr → Hp → Prop) : Prop := ∀ M' mu' C d H' c fs S', Ext M mu H M' mu' H' → Wok K M' mu' H' S' → XR K M' mu' H' C d c fs → E c fs S' → W C d H'
structure RdX (K : PySem.W.Frag) (W : WX) (t : TE) (w : DW) : Prop where
  run : ∀ (M : Addr → Prop) (mu : List Addr) (σ : L2.St) (ρ : Loc) (S : Sto) (H : Hp) (P : DK) (E : Ex) (Q : VK), Wok K M mu H S → Env K M mu H ρ σ → w ρ S P E → NrmX K M mu H P Q → ExcX K M mu H E (fun C d H' => W C d σ H') → t σ H Q
structure RdAX (K : PySem.W.Frag) (W : WX) (t : TA) (w : DWA) : Prop where
  run : ∀ (M : Addr → Prop) (mu : List Addr) (σ : L2.St) (ρ : Loc) (S : Sto) (H : Hp) (P : List D → Sto → Prop) (E : Ex) (Q : List V → Hp → Prop), Wok K M mu H S → Env K M mu H ρ σ → w ρ S P E → NrmAX K M mu H P Q → ExcX K M mu H E (fun C d H' => W C d σ H') → t σ H Q
structure DX (X : Cx) (W : WX) (e : Expr) (w : DW) : Prop where
  ex : ∃ t, PE X e t ∧ RdX X.K W t w
structure DAX (X : Cx) (W : WX) (es : List Expr) (w : DWA) : Prop where
  ex : ∃ t, PA X es t ∧ RdAX X.K W t w
section
variable {K : PySem.W.Frag} {W : WX} {M M1 : Addr → Prop} {mu mu1 : List Addr} {H H1 : Hp}
theorem NrmX.mono {P : DK} {Q : VK} (x : Ext M mu H M1 mu1 H1) (n : NrmX K M mu H P Q) : NrmX K M1 mu1 H1 P Q := fun M' mu' v H' d S' e => n M' mu' v H' d S' (x.trans e)
theorem NrmAX.mono {P : List D → Sto → Prop} {Q : List V → Hp → Prop} (x : Ext M mu H M1 mu1 H1) (n : NrmAX K M mu H P Q) : NrmAX K M1 mu1 H1 P Q := fun M' mu' v H' d S' e => n M' mu' v H' d S' (x.trans e)
theorem ExcX.mono {E : Ex} {Wc : Value → Option Addr → Hp → Prop} (x : Ext M mu H M1 mu1 H1) (n : ExcX K M mu H E Wc) : ExcX K M1 mu1 H1 E Wc := fun M' mu' C d H' c fs S' e => n M' mu' C d H' c fs S' (x.trans e)
theorem ExcX.to {E : Ex} {Wc : Value → Option Addr → Hp → Prop} (s : ∀ a ∈ mu, M a) (n : ExcX K M mu H E Wc) : Exc K M mu H E Wc := fun C d H' c fs S' k ok x e => n M mu C d H' c fs S' (.of s k) ok x e
theorem EOk.excX {D : DEnds} {D' : L2.Ends} (h : EOk K W M mu H D D') (σ : L2.St) : ExcX K M mu H D.ex (fun C d H' => W C d σ H') := fun M' mu' C d H' c fs S' x ok xr e => h.ex M' mu' C d σ c fs S' H' x ok xr e
theorem RdX.of {t : TE} {w : DW} (r : Rd K W t w) : RdX K W t w := ⟨fun M mu σ ρ S H P E Q ok en hw n x =>
  r.run M mu σ ρ S H P E Q ok en hw (fun v H' d S' k ok' r' h => n M mu v H' d S' (.of ok.sub k) ok' r' h) (x.to ok.sub)⟩
end
/-- a fresh list becomes a cell -/
def wFr (w : DWA) : DW := fun ρ S P E => w ρ S (fun ds S1 => P (.loc S1.length) (S1 ++ [.lst ds])) E
section
variable {X : Cx} {W : WX} {e : Expr} {es : List Expr} {w : DW} {wa : DWA}
theorem dx_of (h : DE X W e w) : DX X W e w := let ⟨t, p, r⟩ := h.ex; ⟨t, p, .of r⟩
theorem dx_fr (h : DF X W e wa) : DX X W e (wFr wa) := by
  obtain ⟨t, pt, r⟩ := h.ex
  refine ⟨t, pt, ⟨fun M mu σ ρ S H P E Q ok en hw n x => ?_⟩⟩
  refine r.run M mu σ ρ S H _ E _ ok en hw (fun p vs H' ds S' hp k hp' ok' rr h => ?_) (x.to ok.sub)
  have np : p ∉ mu := fun m => ok.tr p (ok.sub p m) hp
  obtain ⟨ok2, ex2⟩ := ok'.push np hp' rr
  have ex1 : Ext M mu H (fun a => M a ∨ a = p) (mu ++ [p]) H' := ⟨⟨fun b q hb nb => k b q hb (nb.imp (fun nb m => nb (ok.sub b m)) id), ⟨[p], rfl⟩, fun a h => h.imp id fun e => by rw [e]; exact hp⟩, k, fun a h => by
    rcases List.mem_append.mp h with h | h
    · exact .inl h
    · exact .inr (by rw [show a = p by simpa using h]; exact hp), fun a h => .inl h, ok.sub⟩
  refine n _ (mu ++ [p]) (.ref p) H' (.loc S'.length) _ ex1 ok2 ⟨p, rfl, ?_⟩ h
  rw [ok'.len]
  simp
theorem dax_nil : DAX X W [] wNil := ⟨_, pa_nil, ⟨fun M mu σ ρ S H P E Q ok en hw n x => n M mu [] H [] S (.refl ok.sub) ok rfl hw⟩⟩
theorem dax_cons (ha : DX X W e w) (hs : DAX X W es wa) (hst : starEach (e :: es) X.env = (false, eval e X.env) :: starEach es X.env := by rfl) : DAX X W (e :: es) (wCons w wa) := by
  obtain ⟨ta, pa, ra⟩ := ha.ex
  obtain ⟨ts, ps, rs⟩ := hs.ex
  refine ⟨_, pa_cons pa ps hst, ⟨fun M mu σ ρ S H P E Q ok en hw n x => ?_⟩⟩
  refine ra.run M mu σ ρ S H _ E _ ok en hw (fun M1 mu1 v H1 d S1 e1 ok1 r1 h1 => ?_) x
  refine rs.run M1 mu1 σ ρ S1 H1 _ E _ ok1 (en.mono e1.toExt0) h1 (fun M2 mu2 vs H2 ds S2 e2 ok2 r2 h2 => ?_) (x.mono e1)
  exact n M2 mu2 (v :: vs) H2 (d :: ds) S2 (e1.trans e2) ok2 ⟨v, vs, rfl, R.mono e2.toExt0 _ _ r1, r2⟩ h2
theorem ds_setX {i : Nat} {x : Str} {pos pos' : Pos} (hN : X.N.Nodup) (hi : X.N[i]? = some x) (hx : L2.Loc X.env.scope x) (he : DX X W e w) (hs : swapsWith e (some (.Name x pos')) pos.line X.env = pure false := by rfl) (hf : X.fn x = true ∨ X.env.scope.names.lookup x = some .local := by first | exact .inl rfl | exact .inr rfl | assumption) :
    DS X W (.Assign [.Name x pos'] e pos) (wsSet i w) := by
  obtain ⟨_, p, r⟩ := he.ex
  exact ⟨_, ps_set hN hi hx p hs hf, ⟨fun M mu σ ρ S H Y Y' ok en hw n => r.run M mu σ ρ S H _ _ _ ok en hw (fun M1 mu1 v H' d S' e1 ok' r' h => n.nx M1 mu1 _ _ S' H' e1 ok' ((en.mono e1.toExt0).set r') h) (n.excX σ)⟩⟩
theorem ds_parX {i j : Nat} {x y : Str} {a b : Expr} {w : DWA} {px py pt pos : Pos} {kt k2 pt2} (hc : X.calm = true) (hN : X.N.Nodup) (hi : X.N[i]? = some x) (hj : X.N[j]? = some y) (hij : i ≠ j)
    (hx : X.env.scope.names.lookup x = some .local) (hy : X.env.scope.names.lookup y = some .local) (ha : DAX X W [a, b] w)
    (hw : swappedStores [.Tuple [.Name x px, .Name y py] kt pt] (.Tuple [a, b] k2 pt2) X.env = pure (some [x, y]) := by rfl)
    (hs : swapsWithSole [.Tuple [.Name x px, .Name y py] kt pt] (.Tuple [a, b] k2 pt2) pos.line X.env = pure false := by rfl) : DS X W (.Assign [.Tuple [.Name x px, .Name y py] kt pt] (.Tuple [a, b] k2 pt2) pos) (wsPar [i, j] w) := by
  obtain ⟨_, p, r⟩ := ha.ex
  refine ⟨_, ps_par hc hN hi hj hij hx hy p hw hs, ⟨fun M mu σ ρ S H Y Y' ok en hw n => r.run M mu σ ρ S H _ _ _ ok en hw (fun M1 mu1 vs H' ds S' e1 ok' r' h => ?_) (n.excX σ)⟩⟩
  obtain ⟨hl, h⟩ := h
  match ds, hl, r', h with
  | [d1, d2], _, r', h =>
    obtain ⟨v, u, rfl, r1, r2⟩ := r'.two
    exact ⟨v, u, rfl, n.nx M1 mu1 _ _ S' H' e1 ok' (((en.mono e1.toExt0).set r1).set r2) h⟩
end
/-! ### lists made anew -/
def wFLst (w : DWA) : DWA := fun ρ S P E => w ρ S (fun ds S1 => ds.length ≤ 1000000 ∧ P ds S1) E
theorem df_lstW {X : Cx} {W : WX} {es : List Expr} {w : DWA} {pos : Pos} (hs : DA X W es w) : DF X W (.List es pos) (wFLst w) := df_lst hs
/-- list(x), held -/
def wFList (w : DWA) : DWA := fun ρ S P E => w ρ S (fun xs S1 => match xs with
  | [x] => (match val S1 x with
    | .lst ds => P ds S1
    | .tup ds => P ds S1
    | _ => False)
  | _ => False) E
/-- a + b, held -/
def wFAdd (wa wb : DW) : DWA := fun ρ S P E => wa ρ S (fun x S1 => wb ρ S1 (fun y S2 => match val S2 x, val S2 y with
  | .lst a, .lst b => a.length + b.length ≤ 1000000 ∧ P (a ++ b) S2
  | _, _ => False) E) E
section
variable {K : PySem.W.Frag} {M : Addr → Prop} {mu : List Addr} {H H0 : Hp} {S S0 : Sto}
/-- the end of such an expression -/
theorem fr_end (ok : Wok K M mu H S) {P : List D → Sto → Prop} {Q : VK} (ok0 : Wok K M mu H0 S0) (k : Keep mu H0 H) (n : NrmF K M mu H0 P Q) {ds : List D} {vs : List V} (r : Rs K M mu H ds vs) (h : P ds S) : ∀ p, H p = none → Q (.ref p) (upd H p (.lst vs)) := fun p hp => by
  obtain ⟨ex, oka⟩ := ok.aside hp (.lst vs)
  refine n p vs _ ds S ?_ (k.trans ex.keep) upd_same oka (Rs.mono ex.toExt0 _ _ r) h
  exact (Ext.of ok0.sub k).back hp fun m => ok.tr p (ok.sub p m) hp
end
section
variable {X : Cx} {W : WX} {e a b : Expr} {es : List Expr} {w : DWA} {wa wb : DW} {p pos : Pos}
theorem df_list (hm : X.mg "list" = none) (ha : DA X W (e :: es) w) (hg : Gl X "list" := by rfl) (he : starEach (e :: es) X.env = (false, eval e X.env) :: starEach es X.env := by rfl) (hpl : (backTo pos (starEach es X.env)).any (·.1) = false := by rfl) :
    DF X W (.Call (.Name "list" p) (e :: es) [] pos) (wFList w) := by
  obtain ⟨_, pa, ra⟩ := ha.ex
  refine ⟨_, pe_callTy call_list_of hg hm bt_list pa (by decide) (by decide) he hpl, ⟨fun M mu σ ρ S H P E Q ok en hw n x => ?_⟩⟩
  refine ra.run M mu σ ρ S H _ E _ ok en hw (fun vs H1 ds S1 k1 ok1 r1 h1 => ?_) x
  match ds, r1, h1 with
  | [d], r1, h1 =>
    obtain ⟨v, rfl, rv⟩ := r1.one
    cases e1 : val S1 d with
    | lst xs =>
      simp only [e1] at h1
      obtain ⟨q, ys, rfl, hq, rq⟩ := seq_lst ok1 rv e1
      exact ⟨q, ys, rfl, .inl (SqL.of hq), fr_end ok1 ok k1 n rq h1⟩
    | tup xs =>
      simp only [e1] at h1
      obtain ⟨q, ys, rfl, hq, rq⟩ := seq_tup ok1 rv e1
      exact ⟨q, ys, rfl, .inr hq, fr_end ok1 ok k1 n rq h1⟩
    | _ => simp only [e1] at h1
theorem df_add (ha : DE X W a wa) (hb : DE X W b wb) : DF X W (.BinOp a .Add b pos) (wFAdd wa wb) := by
  obtain ⟨_, pa, ra⟩ := ha.ex
  obtain ⟨_, pb, rb⟩ := hb.ex
  refine ⟨_, pe_op op_addA pa pb, ⟨fun M mu σ ρ S H P E Q ok en hw n x => ?_⟩⟩
  refine ra.run M mu σ ρ S H _ E _ ok en hw (fun v H1 d S1 k1 ok1 r1 h1 => ?_) x
  refine rb.run M mu σ ρ S1 H1 _ E _ ok1 (en.keep ok k1) h1 (fun u H2 d2 S2 k2 ok2 r2 h2 => ?_) (x.mono k1)
  have r1' := r1.keep ok1 k2
  cases e1 : val S2 d with
  | lst xs =>
    cases e2 : val S2 d2 with
    | lst ys =>
      simp only [e1, e2] at h2
      obtain ⟨q, vs, rfl, hq, rq⟩ := seq_lst ok2 r1' e1
      obtain ⟨q2, us, rfl, hq2, rq2⟩ := seq_lst ok2 r2 e2
      exact .inr (.inl ⟨q, q2, vs, us, rfl, rfl, hq, hq2, by rw [← rq.len, ← rq2.len]; exact line_of h2.1, fr_end ok2 ok (k1.trans k2) n (rq.app rq2) h2.2⟩)
    | _ => simp only [e1, e2] at h2
  | _ => simp only [e1] at h2
end
/-! ### while -/
def wsWhile (c : DWT) (tb : DWS) : DWS := fun Y ρ S => ∃ Wi : Nat → Loc → Sto → Prop, (∃ m, Wi m ρ S) ∧ ∀ m ρ S, Wi m ρ S →
  c ρ S (fun b S1 => if b = true then ∃ N : Loc → Sto → Prop, (∀ ρ' S', N ρ' S' → ∃ m', m' < m ∧ Wi m' ρ' S') ∧ tb { Y with nx := N, ct := N, bk := Y.nx } ρ S1 else Y.nx ρ S1) Y.ex
theorem ds_while {X : Cx} {W : WX} {c : Expr} {body : List Stmt} {wc : DWT} {wb : DWS} {pos : Pos} (hp : PassesOwn (model X.prog X.w) X.A X.env X.xe) (hc : DT X W c wc) (hb : DSs X W body wb) : DS X W (.While c body [] pos) (wsWhile wc wb) := by
  obtain ⟨_, pc, rc⟩ := hc.ex
  obtain ⟨_, pb, rb⟩ := hb.ex
  refine ⟨_, ps_while hp pc pb, ⟨fun M mu σ ρ S H Y Y' ok en hw n => ?_⟩⟩
  obtain ⟨Wi, ⟨m0, w0⟩, turn⟩ := hw
  refine ⟨fun m σ' H' => ∃ M' mu' ρ' S', Ext M mu H M' mu' H' ∧ Wok X.K M' mu' H' S' ∧ Env X.K M' mu' H' ρ' σ' ∧ Wi m ρ' S', ⟨m0, M, mu, ρ, S, .refl ok.sub, ok, en, w0⟩, ?_⟩
  rintro m σ' H' ⟨M', mu', ρ', S', x', ok', en', w'⟩
  have n' := n.mono x'
  refine rc.run M' mu' σ' ρ' S' H' _ Y.ex _ ok' en' (turn m ρ' S' w') (fun b H1 S1 k1 ok1 h1 => ?_) (n'.exc ok'.sub σ')
  have x1 : Ext M' mu' H' M' mu' H1 := .of ok'.sub k1
  have n1 := n'.mono x1
  cases b with
  | false =>
    rw [if_neg Bool.false_ne_true] at h1 ⊢
    exact n1.nx M' mu' σ' ρ' S1 H1 (.refl ok1.sub) ok1 (en'.keep ok' k1) h1
  | true =>
    rw [if_pos rfl] at h1 ⊢
    obtain ⟨N, hN, hb1⟩ := h1
    refine ⟨fun σ2 H2 => ∃ M2 mu2 ρ2 S2, Ext M mu H M2 mu2 H2 ∧ Wok X.K M2 mu2 H2 S2 ∧ Env X.K M2 mu2 H2 ρ2 σ2 ∧ N ρ2 S2, fun σ2 H2 ⟨M2, mu2, ρ2, S2, x2, ok2, en2, h2⟩ => ?_, ?_⟩
    · obtain ⟨m', hm, w2⟩ := hN ρ2 S2 h2
      exact ⟨m', hm, M2, mu2, ρ2, S2, x2, ok2, en2, w2⟩
    · refine rb.run M' mu' σ' ρ' S1 H1 _ _ ok1 (en'.keep ok' k1) hb1 ?_
      exact ⟨fun M4 mu4 σ4 ρ4 S4 H4 x4 ok4 en4 h4 => ⟨M4, mu4, ρ4, S4, (x'.trans x1).trans x4, ok4, en4, h4⟩, n1.rt, n1.nx, fun M4 mu4 σ4 ρ4 S4 H4 x4 ok4 en4 h4 => ⟨M4, mu4, ρ4, S4, (x'.trans x1).trans x4, ok4, en4, h4⟩, n1.ex, n1.rf⟩
/-! ### methods of built-in types -/
abbrev DFm := D → List D → Sto → DK → Prop
def MtD (K : PySem.W.Frag) (r : V → List V → Hp → VK → Prop) (f : DFm) : Prop := ∀ (M : Addr → Prop) (mu : List Addr) (H : Hp) (S : Sto) (x : D) (xs : List D) (v : V) (vs : List V) (P : DK) (Q : VK),
  Wok K M mu H S → R K M mu H x v → Rs K M mu H xs vs → f x xs S P → Nrm K M mu H P Q → r v vs H Q
/-- the receiver's type -/
def rcv (T : String) (S : Sto) (x : D) : Prop := match val S x with
  | .str _ => T = "str"
  | .lst _ => T = "list"
  | .dk _ => T = "dict" ∧ isLoc x = true
  | .dt _ => T = "dict" ∧ isLoc x = true
  | _ => False
where isLoc : D → Bool
  | .loc _ => true
  | _ => false
theorem rcv_ok {K : PySem.W.Frag} {M : Addr → Prop} {mu : List Addr} {H : Hp} {S : Sto} {T : String} {x : D} {v : V} (ok : Wok K M mu H S) (r : R K M mu H x v) (h : rcv T S x) : tyV K T v H := by
  unfold rcv at h
  cases e : val S x with
  | str s =>
    rw [e] at h
    obtain rfl := val_str ok r e
    exact h
  | lst ds =>
    rw [e] at h
    obtain ⟨a, vs, rfl, ha, _⟩ := seq_lst ok r e
    exact .inl ⟨h, vs, SqL.of ha⟩
  | dk ds =>
    rw [e] at h
    cases x with
    | loc i =>
      obtain ⟨a, rfl, h2⟩ := r
      obtain ⟨es, q, _⟩ := (show Cl K M mu H (.dk ds) a from ok.at_ i a _ h2 (val_loc e (by simp)))
      exact .inr (.inr (.inl ⟨h.1, .inl ⟨_, q⟩⟩))
    | _ => exact absurd h.2 Bool.false_ne_true
  | dt ds =>
    rw [e] at h
    cases x with
    | loc i =>
      obtain ⟨a, rfl, h2⟩ := r
      obtain ⟨es, q, _⟩ := (show Cl K M mu H (.dt ds) a from ok.at_ i a _ h2 (val_loc e (by simp)))
      exact .inr (.inr (.inl ⟨h.1, .inr ⟨_, q⟩⟩))
    | _ => exact absurd h.2 Bool.false_ne_true
  | _ => rw [e] at h; exact h.elim
def wBM (T : String) (f : DFm) (wo : DW) (w : DWA) : DW := fun ρ S P E => wo ρ S (fun x S1 => rcv T S1 x ∧ w ρ S1 (fun xs S2 => f x xs S2 P) E) E
section
variable {X : Cx} {W : WX} {o e : Expr} {es : List Expr} {wo : DW} {w : DWA} {name : Str} {apos cpos : Pos} {T id : String} {r : V → List V → Hp → VK → Prop} {f : DFm}
theorem de_bm (pa : PlainAttrs T) (slot : Slot T name id) (hty : typeOf (.builtin id) = pure (.type "method_descriptor")) (hm : MtR X id r) (hf : MtD X.K r f) (ho : DE X W o wo) (ha : DA X W (e :: es) w)
    (hbase : attributeBase o name X.env (eval o X.env) = eval o X.env := by rfl)
    (hfew : ((backTo cpos (starEach (e :: es) X.env)).all (fun x => !x.1) && (backToKw cpos (keywordEach [] X.env)).all (fun x => x.1.isSome)
      && decide ((e :: es).length + ([] : List Keyword).length + (if ([] : List Keyword).isEmpty then 0 else 1) < 30)) = true := by rfl)
    (hline : (apos.endLine == cpos.line) = true := by rfl) (hs : starEach (e :: es) X.env = (false, eval e X.env) :: starEach es X.env := by rfl) (hplain : (backTo cpos (starEach es X.env)).any (·.1) = false := by rfl) :
    DE X W (.Call (.Attribute o name apos) (e :: es) [] cpos) (wBM T f wo w) := by
  obtain ⟨_, po, ro⟩ := ho.ex
  obtain ⟨_, pt, rt⟩ := ha.ex
  refine ⟨_, pe_bm pa slot hty hm po pt hbase hfew hline hs hplain, ⟨fun M mu σ ρ S H P E Q ok en hw n x => ?_⟩⟩
  refine ro.run M mu σ ρ S H _ E _ ok en hw (fun v H1 d S1 k1 ok1 r1 h1 => ?_) x
  refine ⟨rcv_ok ok1 r1 h1.1, ?_⟩
  refine rt.run M mu σ ρ S1 H1 _ E _ ok1 (en.keep ok k1) h1.2 (fun vs H2 ds S2 k2 ok2 r2 h2 => ?_) (x.mono k1)
  exact hf M mu H2 S2 d ds v vs P Q ok2 (r1.keep ok1 k2) r2 h2 (n.mono (k1.trans k2))
def wBM0 (T : String) (f : DFm) (wo : DW) : DW := fun ρ S P E => wo ρ S (fun x S1 => rcv T S1 x ∧ f x [] S1 P) E
theorem de_bm0 (pa : PlainAttrs T) (slot : Slot T name id) (hty : typeOf (.builtin id) = pure (.type "method_descriptor")) (hm : MtR X id r) (hf : MtD X.K r f) (ho : DE X W o wo)
    (hbase : attributeBase o name X.env (eval o X.env) = eval o X.env := by rfl) (hline : (apos.endLine == cpos.line) = true := by rfl) : DE X W (.Call (.Attribute o name apos) [] [] cpos) (wBM0 T f wo) := by
  obtain ⟨_, po, ro⟩ := ho.ex
  refine ⟨_, pe_bm0 pa slot hty hm po hbase hline, ⟨fun M mu σ ρ S H P E Q ok en hw n x => ?_⟩⟩
  refine ro.run M mu σ ρ S H _ E _ ok en hw (fun v H1 d S1 k1 ok1 r1 h1 => ?_) x
  exact ⟨rcv_ok ok1 r1 h1.1, hf M mu H1 S1 d [] v [] P Q ok1 r1 rfl h1.2 (n.mono k1)⟩
end
section
variable {K : PySem.W.Frag}
theorem line_lt {n : Nat} (h : n < 1000000) : n < sizeLine := Nat.lt_of_lt_of_le h (line_of (Nat.le_refl _))
/-- xs.append(y), xs a cell -/
def appendD : DFm := fun x xs S P => match x, xs with
  | .loc i, [y] => (match val S (.loc i) with
    | .lst ds => ds.length < 1000000 ∧ P .non (S.set i (.lst (ds ++ [y])))
    | _ => False)
  | _, _ => False
theorem cell_lst {M : Addr → Prop} {mu : List Addr} {H : Hp} {S : Sto} (ok : Wok K M mu H S) {i : Nat} {a : Addr} (ha : mu[i]? = some a) {vs us : List V} {ds : List D} (hv : H a = some (.lst vs))
    (r : Rs K M mu H ds us) : Wok K M mu (upd H a (.lst us)) (S.set i (.lst ds)) ∧ Keep mu H (upd H a (.lst us)) ∧ Ext0 M mu H M mu (upd H a (.lst us)) := by
  have ex : Ext0 M mu H M mu (upd H a (.lst us)) := ⟨fun b q h nb => by rw [upd_ne fun e => nb.elim (fun nb => nb (by rw [e]; exact ok.sub a (List.mem_of_getElem? ha))) (notF_lst hv q (by rw [← e]; exact h))]; exact h, ⟨[], by simp⟩, fun a h => .inl h⟩
  obtain ⟨h1, h2⟩ := ok.cell (o := .lst us) (c := .lst ds) ha (notF_lst hv) ⟨us, upd_same, Rs.mono ex _ _ r⟩
  exact ⟨h1, h2, ex⟩
theorem mtd_append : MtD K rAppend appendD := by
  intro M mu H S x xs v vs P Q ok rx rxs h n
  unfold appendD at h
  split at h
  · rename_i i y
    obtain ⟨u, rfl, ru⟩ := rxs.one
    cases e : val S (.loc i) with
    | lst ds =>
      simp only [e] at h
      obtain ⟨a, rfl, ha⟩ := rx
      obtain ⟨ws, hv, rw_⟩ : Cl K M mu H (.lst ds) a := ok.at_ i a _ ha (val_loc e (by simp))
      obtain ⟨ok2, k2, _⟩ := cell_lst ok ha hv (rw_.app (es := [y]) (us := [u]) ⟨u, [], rfl, ru, rfl⟩)
      have hl : ws.length < 1000000 := by rw [← rw_.len]; exact h.1
      exact ⟨a, ws, u, rfl, rfl, hv, line_lt hl, n _ _ .non _ k2 ok2 rfl h.2⟩
    | _ => simp only [e] at h
  · exact h.elim
/-- xs.pop(k), xs a cell, k among its places -/
def popD : DFm := fun x xs S P => match x, xs with
  | .loc i, [.int k] => (match val S (.loc i) with
    | .lst ds => 0 ≤ k ∧ k < 1000000 ∧ (match ds[k.toNat]? with
      | some y => P y (S.set i (.lst (ds.eraseIdx k.toNat)))
      | none => False)
    | _ => False)
  | _, _ => False
theorem Rs.erase {M : Addr → Prop} {mu : List Addr} {H : Hp} : ∀ {ds : List D} {vs : List V} (n : Nat), Rs K M mu H ds vs → Rs K M mu H (ds.eraseIdx n) (vs.eraseIdx n)
  | [], _, n, e => by rw [show _ = [] from e]; exact rfl
  | _ :: _, _, 0, ⟨u, r, e, a, t⟩ => by rw [e]; exact t
  | x :: ds, _, n + 1, ⟨u, r, e, a, t⟩ => ⟨u, r.eraseIdx n, by rw [e]; rfl, a, Rs.erase n t⟩
theorem mtd_popAt : MtD K rPopAt popD := by
  intro M mu H S x xs v vs P Q ok rx rxs h n
  unfold popD at h
  split at h
  · rename_i i k
    obtain ⟨u, rfl, ru⟩ := rxs.one
    obtain rfl : u = .int k := ru
    cases e : val S (.loc i) with
    | lst ds =>
      simp only [e] at h
      obtain ⟨h0, h1, h⟩ := h
      cases e2 : ds[k.toNat]? with
      | none => simp only [e2] at h
      | some y =>
        simp only [e2] at h
        obtain ⟨a, rfl, ha⟩ := rx
        obtain ⟨ws, hv, rw_⟩ : Cl K M mu H (.lst ds) a := ok.at_ i a _ ha (val_loc e (by simp))
        obtain ⟨z, hz, rz⟩ := rw_.get e2
        obtain ⟨ok2, k2, ex2⟩ := cell_lst ok ha hv (rw_.erase k.toNat)
        have hlt := (List.getElem?_eq_some_iff.mp hz).1
        refine ⟨a, ws, k, k.toNat, z, rfl, rfl, hv, by omega, by omega, ?_, hz, n _ _ y _ k2 ok2 (R.mono ex2 _ _ rz) h⟩
        unfold seqIndex?
        have e3 : (if k < 0 then k + (ws.length : Int) else k) = k := if_neg (by omega)
        simp only [e3]
        rw [if_pos (by simp; omega)]
    | _ => simp only [e] at h
  · exact h.elim
end
end DL
set_option maxRecDepth 100000
namespace DL
open PySem PySem.Spec PyProof.Rows L2
/-! ### dicts with tuple keys -/
def keysOf : List D → Option (List Key)
  | [] => some []
  | .int i :: ds => (keysOf ds).map (Sum.inl i :: ·)
  | .str s :: ds => (keysOf ds).map (Sum.inr s :: ·)
  | _ :: _ => none
def tkOf : D → Option (List Key)
  | .tup ds => keysOf ds
  | _ => none
abbrev TD := List (List Key × D)
def lookT (es : TD) (k : List Key) : Option D := (es.find? fun e => decide (e.1 = k)).map (·.2)
def putT (es : TD) (k : List Key) (d : D) : TD := if (es.any fun e => decide (e.1 = k)) = true then es.map (fun e => if e.1 = k then (e.1, d) else e) else es ++ [(k, d)]
section
variable {K : PySem.W.Frag} {M : Addr → Prop} {mu : List Addr} {H : Hp} {S : Sto}
theorem keys_ok : ∀ {ds : List D} {vs : List V} {ks : List Key}, Rs K M mu H ds vs → keysOf ds = some ks → vs = ks.map kV
  | [], vs, ks, r, e => by obtain rfl : vs = [] := r; obtain rfl : ([] : List Key) = ks := Option.some.inj e; rfl
  | d :: ds, vs, ks, r, e => by
    obtain ⟨v, rr, rfl, h1, h2⟩ := r
    cases d with
    | int i =>
      obtain ⟨ms, e1, rfl⟩ := Option.map_eq_some_iff.mp (show (keysOf ds).map (Sum.inl i :: ·) = some ks from e)
      obtain rfl : v = .int i := h1
      rw [keys_ok h2 e1]
      rfl
    | str i =>
      obtain ⟨ms, e1, rfl⟩ := Option.map_eq_some_iff.mp (show (keysOf ds).map (Sum.inr i :: ·) = some ks from e)
      obtain rfl : v = .str i := h1
      rw [keys_ok h2 e1]
      rfl
    | _ => simp [keysOf] at e
theorem tk_ok {d : D} {v : V} {ks : List Key} (r : R K M mu H d v) (e : tkOf d = some ks) : ∃ b, v = .ref b ∧ H b = some (.tup (ks.map kV)) := by
  cases d with
  | tup ds =>
    obtain ⟨b, vs, rfl, hb, rr⟩ := r
    rw [keys_ok rr e] at hb
    exact ⟨b, rfl, hb⟩
  | _ => cases e
theorem rs_keys : ∀ ks : List Key, Rs K M mu H (ks.map keyD) (ks.map kV)
  | [] => rfl
  | .inl i :: ks => ⟨_, _, rfl, rfl, rs_keys ks⟩
  | .inr s :: ks => ⟨_, _, rfl, rfl, rs_keys ks⟩
/-- the dict and its entries -/
theorem dt_at (ok : Wok K M mu H S) {x : D} {v : V} {kvs : TD} (r : R K M mu H x v) (e : val S x = .dt kvs) : ∃ a es, v = .ref a ∧ L2.Rd H a (.dT es) ∧ es.map (·.1) = kvs.map (·.1) ∧ Rt K M mu H kvs (es.map (·.2)) := by
  cases x with
  | loc i =>
    obtain ⟨a, rfl, h2⟩ := r
    obtain ⟨es, q, h3, h4⟩ := (show Cl K M mu H (.dt kvs) a from ok.at_ i a _ h2 (val_loc e (by simp)))
    exact ⟨a, es, rfl, .inl q, h3, h4⟩
  | dt l =>
    obtain rfl : l = kvs := by simpa [val] using e
    obtain ⟨a, od, es, rfl, q, h3, h4⟩ := r
    exact ⟨a, es, rfl, .inr ⟨od, q⟩, h3, h4⟩
  | _ => simp [val] at e
theorem rt_look : ∀ {kvs : TD} {es : List (List Key × V)} (k : List Key), es.map (·.1) = kvs.map (·.1) → Rt K M mu H kvs (es.map (·.2)) → (lookT kvs k = none ∧ valV es k = none) ∨ ∃ d v, lookT kvs k = some d ∧ valV es k = some v ∧ R K M mu H d v
  | [], [], k, _, _ => .inl ⟨rfl, rfl⟩
  | [], _ :: _, k, h, _ => by cases h
  | _ :: _, [], k, h, _ => by cases h
  | (k1, d1) :: kvs, (k2, v2) :: es, k, h, r => by
    obtain ⟨v, rr, e, h1, h2⟩ := r
    injection e with e1 e2
    injection h with e3 e4
    have e1' : v2 = v := e1
    have e3' : k2 = k1 := e3
    subst e1' e3'
    by_cases hk : k2 = k
    · exact .inr ⟨d1, v2, by simp [lookT, List.find?_cons, hk], valV_pos hk, h1⟩
    · have q1 : lookT ((k2, d1) :: kvs) k = lookT kvs k := by simp [lookT, List.find?_cons, hk]
      rw [q1, valV_neg hk]
      exact rt_look k e4 (by rw [e2]; exact h2)
theorem keys_any : ∀ {kvs : TD} {es : List (List Key × V)} (k : List Key), es.map (·.1) = kvs.map (·.1) → (es.any fun e => decide (e.1 = k)) = (kvs.any fun e => decide (e.1 = k))
  | [], [], k, _ => rfl
  | [], _ :: _, k, h => by cases h
  | _ :: _, [], k, h => by cases h
  | (k1, d1) :: kvs, (k2, v2) :: es, k, h => by
    injection h with e3 e4
    have e3' : k2 = k1 := e3
    subst e3'
    rw [List.any_cons, List.any_cons, keys_any k e4]
theorem rt_map {d : D} {v : V} (hr : R K M mu H d v) (k : List Key) : ∀ {kvs : TD} {es : List (List Key × V)}, es.map (·.1) = kvs.map (·.1) → Rt K M mu H kvs (es.map (·.2)) →
    (es.map fun e => if e.1 = k then (e.1, v) else e).map (·.1) = (kvs.map fun e => if e.1 = k then (e.1, d) else e).map (·.1) ∧ Rt K M mu H (kvs.map fun e => if e.1 = k then (e.1, d) else e) ((es.map fun e => if e.1 = k then (e.1, v) else e).map (·.2))
  | [], [], _, _ => ⟨rfl, rfl⟩
  | [], _ :: _, h, _ => by cases h
  | _ :: _, [], h, _ => by cases h
  | (k1, d1) :: kvs, (k2, v2) :: es, h, r => by
    obtain ⟨v0, rr, e, h1, h2⟩ := r
    injection e with e1 e2
    injection h with e3 e4
    have e1' : v2 = v0 := e1
    have e3' : k2 = k1 := e3
    subst e1' e3'
    obtain ⟨i1, i2⟩ := rt_map hr k e4 (by rw [e2]; exact h2)
    by_cases hk : k2 = k
    · simp only [List.map_cons, if_pos hk]
      exact ⟨by rw [i1], v, _, rfl, hr, i2⟩
    · simp only [List.map_cons, if_neg hk]
      exact ⟨by rw [i1], v2, _, rfl, h1, i2⟩
theorem rt_app {d : D} {v : V} (hr : R K M mu H d v) : ∀ {kvs : TD} {vs : List V} (k : List Key), Rt K M mu H kvs vs → Rt K M mu H (kvs ++ [(k, d)]) (vs ++ [v])
  | [], vs, k, r => by obtain rfl : vs = [] := r; exact ⟨v, [], rfl, hr, rfl⟩
  | (_, _) :: _, vs, k, ⟨v0, rr, e, h1, h2⟩ => ⟨v0, rr ++ [v], by rw [e]; rfl, h1, rt_app hr k h2⟩
theorem rt_put {d : D} {v : V} (hr : R K M mu H d v) {kvs : TD} {es : List (List Key × V)} (k : List Key) (h : es.map (·.1) = kvs.map (·.1)) (r : Rt K M mu H kvs (es.map (·.2))) :
    (putK es k v).map (·.1) = (putT kvs k d).map (·.1) ∧ Rt K M mu H (putT kvs k d) ((putK es k v).map (·.2)) := by
  unfold putK putT
  rw [keys_any k h]
  by_cases q : (kvs.any fun e => decide (e.1 = k)) = true
  · rw [if_pos q, if_pos q]
    exact rt_map hr k h r
  · rw [if_neg q, if_neg q, List.map_append, List.map_append, List.map_append, h]
    exact ⟨rfl, rt_app hr k r⟩
theorem rt_len {kvs : TD} {es : List (List Key × V)} (h : es.map (·.1) = kvs.map (·.1)) : es.length = kvs.length := by
  have := congrArg List.length h
  simpa using this
/-- what the dict at a says at the key y -/
theorem dget_at (ok : Wok K M mu H S) {x y : D} {v u : V} {kvs : TD} {k : List Key} (rx : R K M mu H x v) (ry : R K M mu H y u) (e : val S x = .dt kvs) (ek : tkOf y = some k) :
    ∃ a, v = .ref a ∧ ((lookT kvs k = none ∧ DGet H a u none) ∨ ∃ d w, lookT kvs k = some d ∧ DGet H a u (some w) ∧ R K M mu H d w) := by
  obtain ⟨a, es, rfl, hd, h1, h2⟩ := dt_at ok rx e
  obtain ⟨b, rfl, hb⟩ := tk_ok ry ek
  refine ⟨a, rfl, ?_⟩
  rcases rt_look k h1 h2 with ⟨q1, q2⟩ | ⟨d, w, q1, q2, q3⟩
  · exact .inl ⟨q1, .inr ⟨es, k, b, hd, rfl, hb, q2.symm⟩⟩
  · exact .inr ⟨d, w, q1, .inr ⟨es, k, b, hd, rfl, hb, q2.symm⟩, q3⟩
end
/-! d[k], d.get(k, x), k in d, d[k] = v -/
def getT (x y : D) (S : Sto) (P : Option D → Prop) : Prop := match val S x, tkOf y with
  | .dt es, some k => P (lookT es k)
  | _, _ => False
theorem getT_ok {K : PySem.W.Frag} {M : Addr → Prop} {mu : List Addr} {H : Hp} {S : Sto} (ok : Wok K M mu H S) {x y : D} {v u : V} {P : Option D → Prop} (rx : R K M mu H x v) (ry : R K M mu H y u) (h : getT x y S P) :
    ∃ a, v = .ref a ∧ ((DGet H a u none ∧ P none) ∨ ∃ d w, DGet H a u (some w) ∧ R K M mu H d w ∧ P (some d)) := by
  unfold getT at h
  cases e : val S x with
  | dt es =>
    cases ek : tkOf y with
    | none => rw [e, ek] at h; exact h.elim
    | some k =>
      rw [e, ek] at h
      obtain ⟨a, rfl, q⟩ := dget_at ok rx ry e ek
      refine ⟨a, rfl, ?_⟩
      rcases q with ⟨q1, q2⟩ | ⟨d, w, q1, q2, q3⟩
      · exact .inl ⟨q2, by rw [← q1]; exact h⟩
      · exact .inr ⟨d, w, q2, q3, by rw [← q1]; exact h⟩
  | _ => rw [e] at h; exact h.elim
/-- the entry at a key: there -/
def entT (x y : D) (S : Sto) (P : DK) : Prop := getT x y S fun o => match o with
  | some d => P d S
  | none => False
def wDGet (wo wk : DW) : DW := fun ρ S P E => wo ρ S (fun x S1 => wk ρ S1 (fun y S2 => entT x y S2 P) E) E
def dflT (x y z : D) (S : Sto) (P : DK) : Prop := getT x y S fun o => P (o.getD z) S
def isDt (S : Sto) (x : D) : Prop := match val S x with
  | .dt _ => True
  | _ => False
def wDGet2 (wo wk wd : DW) : DW := fun ρ S P E => wo ρ S (fun x S1 => isDt S1 x ∧ wk ρ S1 (fun y S2 => wd ρ S2 (fun z S3 => dflT x y z S3 P) E) E) E
def inT (neg : Bool) : DF2 := fun y x S P => getT x y S fun o => P (.bl (if neg then !o.isSome else o.isSome)) S
def wsDPut (we wo wk : DW) : DWS := fun Y ρ S => we ρ S (fun d S1 => wo ρ S1 (fun x S2 => wk ρ S2 (fun y S3 => match x, tkOf y with
  | .loc i, some k => (match val S3 (.loc i) with
    | .dt es => es.length < 1000000 ∧ Y.nx ρ (S3.set i (.dt (putT es k d)))
    | _ => False)
  | _, _ => False) Y.ex) Y.ex) Y.ex
theorem isD_ok {K : PySem.W.Frag} {M : Addr → Prop} {mu : List Addr} {H : Hp} {S : Sto} (ok : Wok K M mu H S) {x : D} {v : V} (r : R K M mu H x v) (h : isDt S x) : ∃ a, v = .ref a ∧ IsD H a := by
  unfold isDt at h
  cases e : val S x with
  | dt es =>
    obtain ⟨a, es', rfl, hd, _⟩ := dt_at ok r e
    exact ⟨a, rfl, .inr ⟨es', hd⟩⟩
  | _ => rw [e] at h; exact h.elim
theorem op_inDt {X : Cx} (hu : X.A.units + 64 < cLine) : OpR X (compareOp .In) (fun y x H Q => ∃ a o, x = .ref a ∧ DGet H a y o ∧ Q (.bl o.isSome) H) := by
  intro pins s σ H y x v u Q I ry rx h
  obtain ⟨a, o, rfl, g, q⟩ := h
  cases rx
  exact d_in (by omega) I g ry fun s3 I3 => ⟨.bl o.isSome, H, I3, rfl, q⟩
theorem op_notInDt {X : Cx} (hu : X.A.units + 64 < cLine) : OpR X (compareOp .NotIn) (fun y x H Q => ∃ a o, x = .ref a ∧ DGet H a y o ∧ Q (.bl (!o.isSome)) H) := by
  intro pins s σ H y x v u Q I ry rx h
  obtain ⟨a, o, rfl, g, q⟩ := h
  cases rx
  exact d_notIn (by omega) I g ry fun s3 I3 => ⟨.bl (!o.isSome), H, I3, rfl, q⟩
theorem opd_inDt {K : PySem.W.Frag} : OpD K (fun y x H Q => ∃ a o, x = .ref a ∧ DGet H a y o ∧ Q (.bl o.isSome) H) (inT false) := by
  intro M mu H S y x u v P Q ok ry rx h n
  obtain ⟨a, rfl, q⟩ := getT_ok ok rx ry h
  rcases q with ⟨g, h⟩ | ⟨d, w, g, _, h⟩
  · exact ⟨a, _, rfl, g, n _ H (.bl _) S (.refl _ _) ok rfl h⟩
  · exact ⟨a, _, rfl, g, n _ H (.bl _) S (.refl _ _) ok rfl h⟩
theorem opd_notInDt {K : PySem.W.Frag} : OpD K (fun y x H Q => ∃ a o, x = .ref a ∧ DGet H a y o ∧ Q (.bl (!o.isSome)) H) (inT true) := by
  intro M mu H S y x u v P Q ok ry rx h n
  obtain ⟨a, rfl, q⟩ := getT_ok ok rx ry h
  rcases q with ⟨g, h⟩ | ⟨d, w, g, _, h⟩
  · exact ⟨a, _, rfl, g, n _ H (.bl _) S (.refl _ _) ok rfl h⟩
  · exact ⟨a, _, rfl, g, n _ H (.bl _) S (.refl _ _) ok rfl h⟩
section
variable {X : Cx} {W : WX} {o i e f : Expr} {wo wk wd we : DW} {pos pos' apos cpos : Pos}
theorem de_dget (hu : X.A.units + 64 < cLine) (ho : DE X W o wo) (hi : DE X W i wk) (hs : NoSl i := by intro _ _; rfl) : DE X W (.Subscript o i pos) (wDGet wo wk) := by
  obtain ⟨_, po, ro⟩ := ho.ex
  obtain ⟨_, pi, ri⟩ := hi.ex
  refine ⟨_, pe_dget (by omega) po pi hs, ⟨fun M mu σ ρ S H P E Q ok en hw n x => ?_⟩⟩
  refine ro.run M mu σ ρ S H _ E _ ok en hw (fun v H1 d S1 k1 ok1 r1 h1 => ?_) x
  refine ri.run M mu σ ρ S1 H1 _ E _ ok1 (en.keep ok k1) h1 (fun u H2 y S2 k2 ok2 r2 h2 => ?_) (x.mono k1)
  obtain ⟨a, rfl, q⟩ := getT_ok ok2 (r1.keep ok1 k2) r2 h2
  rcases q with ⟨_, h⟩ | ⟨d', w, g, r3, h⟩
  · exact h.elim
  · exact ⟨a, w, rfl, g, n w H2 d' S2 (k1.trans k2) ok2 r3 h⟩
theorem de_dget2 (hu : X.A.units + 64 < cLine) (ho : DE X W o wo) (hi : DE X W e wk) (hf : DE X W f wd) (m : M2 X o "get" apos e f cpos := by exact ⟨rfl, rfl, rfl, rfl⟩) : DE X W (.Call (.Attribute o "get" apos) [e, f] [] cpos) (wDGet2 wo wk wd) := by
  obtain ⟨_, po, ro⟩ := ho.ex
  obtain ⟨_, pi, ri⟩ := hi.ex
  obtain ⟨_, pf, rf⟩ := hf.ex
  refine ⟨_, pe_dget2 (by omega) po pi pf m, ⟨fun M mu σ ρ S H P E Q ok en hw n x => ?_⟩⟩
  refine ro.run M mu σ ρ S H _ E _ ok en hw (fun v H1 d S1 k1 ok1 r1 h1 => ?_) x
  obtain ⟨a, rfl, hd⟩ := isD_ok ok1 r1 h1.1
  refine ⟨a, rfl, hd, ?_⟩
  refine ri.run M mu σ ρ S1 H1 _ E _ ok1 (en.keep ok k1) h1.2 (fun u H2 y S2 k2 ok2 r2 h2 => ?_) (x.mono k1)
  refine rf.run M mu σ ρ S2 H2 _ E _ ok2 ((en.keep ok k1).keep ok1 k2) h2 (fun w H3 z S3 k3 ok3 r3 h3 => ?_) (x.mono (k1.trans k2))
  obtain ⟨a', e', q⟩ := getT_ok ok3 ((r1.keep ok1 k2).keep ok2 k3) (r2.keep ok2 k3) h3
  cases e'
  have kk := k1.trans (k2.trans k3)
  rcases q with ⟨g, h⟩ | ⟨d', w', g, r4, h⟩
  · exact ⟨_, g, n _ H3 _ S3 kk ok3 r3 h⟩
  · exact ⟨_, g, n _ H3 _ S3 kk ok3 r4 h⟩
theorem cell_dt {K : PySem.W.Frag} {M : Addr → Prop} {mu : List Addr} {H : Hp} {S : Sto} (ok : Wok K M mu H S) {i : Nat} {a : Addr} (ha : mu[i]? = some a) {es us : List (List Key × V)} {kvs : TD} (hv : H a = some (.dT es))
    (hk : us.map (·.1) = kvs.map (·.1)) (r : Rt K M mu H kvs (us.map (·.2))) : Wok K M mu (upd H a (.dT us)) (S.set i (.dt kvs)) ∧ Keep mu H (upd H a (.dT us)) ∧ Ext0 M mu H M mu (upd H a (.dT us)) := by
  have ex : Ext0 M mu H M mu (upd H a (.dT us)) := ⟨fun b q h nb => by rw [upd_ne fun e => nb.elim (fun nb => nb (by rw [e]; exact ok.sub a (List.mem_of_getElem? ha))) (notF_dT hv q (by rw [← e]; exact h))]; exact h, ⟨[], by simp⟩, fun a h => .inl h⟩
  obtain ⟨h1, h2⟩ := ok.cell (o := .dT us) (c := .dt kvs) ha (notF_dT hv) ⟨us, upd_same, hk, Rt.mono ex _ _ r⟩
  exact ⟨h1, h2, ex⟩
theorem ds_dput (hu : X.A.units + 64 < cLine) (he : DE X W e we) (ho : DE X W o wo) (hi : DE X W i wk) (hs : swapsWith e (some (.Subscript o i pos')) pos.line X.env = pure false := by rfl) : DS X W (.Assign [.Subscript o i pos'] e pos) (wsDPut we wo wk) := by
  obtain ⟨_, pe, re⟩ := he.ex
  obtain ⟨_, po, ro⟩ := ho.ex
  obtain ⟨_, pi, ri⟩ := hi.ex
  refine ⟨_, ps_dput (by omega) po pi pe hs, ⟨fun M mu σ ρ S H Y Y' ok en hw n => ?_⟩⟩
  refine re.run M mu σ ρ S H _ _ _ ok en hw (fun v H1 d S1 k1 ok1 r1 h1 => ?_) (n.exc ok.sub σ)
  have n1 := n.mono (.of ok.sub k1)
  refine ro.run M mu σ ρ S1 H1 _ _ _ ok1 (en.keep ok k1) h1 (fun u H2 x S2 k2 ok2 r2 h2 => ?_) (n1.exc ok1.sub σ)
  have n2 := n1.mono (.of ok1.sub k2)
  refine ri.run M mu σ ρ S2 H2 _ _ _ ok2 ((en.keep ok k1).keep ok1 k2) h2 (fun w H3 y S3 k3 ok3 r3 h3 => ?_) (n2.exc ok2.sub σ)
  have n3 := n2.mono (.of ok2.sub k3)
  split at h3
  · rename_i j k ek
    cases e1 : val S3 (.loc j) with
    | dt es =>
      simp only [e1] at h3
      obtain ⟨a, rfl, ha⟩ := r2
      obtain ⟨b, rfl, hb⟩ := tk_ok r3 ek
      obtain ⟨es', hv, hk, rv⟩ : Cl X.K M mu H3 (.dt es) a := ok3.at_ j a _ ha (val_loc e1 (by simp))
      have r1' := (r1.keep ok1 k2).keep ok2 k3
      obtain ⟨q1, q2⟩ := rt_put r1' k hk rv
      obtain ⟨ok4, k4, _⟩ := cell_dt ok3 ha hv q1 q2
      have hl : es'.length < 1000000 := by rw [rt_len hk]; exact h3.1
      exact ⟨a, _, rfl, .inr ⟨es', k, b, hv, rfl, hb, line_lt hl, rfl⟩, n3.nx M mu σ ρ _ _ (.of ok3.sub k4) ok4 ((((en.keep ok k1).keep ok1 k2).keep ok2 k3).keep ok3 k4) h3.2⟩
    | _ => simp only [e1] at h3
  · exact h3.elim
end
end DL
set_option maxRecDepth 100000
namespace DL
open PySem PySem.Spec PyProof.Rows L2
/-! ### a dict comprehension whose keys are tuples (the walk follows the rule for plain keys in HandS.DictComp; the table is a dT here) -/
section
variable {X : Cx} {pins : List (Addr × Obj)} {σ : L2.St} {H : Hp} {s : Shared}
theorem dictSet_T {E : Value → Shared → Prop} {d b : Addr} {es : List (List Key × V)} {k : List Key} {v : V} {r : Value} {Q : Unit → Shared → Prop} (hu : X.A.units < cLine) (I : Inv X pins σ H s) (hd : H d = some (.dT es)) (hz : es.length < sizeLine)
    (hb : H b = some (.tup (k.map kV))) (rv : RelV v r) (h : ∀ s', Inv X pins σ (upd H d (.dT (putK es k v))) s' → Q () s') : wpAny (model X.prog X.w) X.A (dictSet d (.ref b) r) Q E s := by
  obtain ⟨z, h0, xs, rel, dd⟩ := dt_of I.hok hd
  have hzx : xs.length ≤ sizeLine := by rw [← Paired.length rel]; exact z
  have hzp : (putK es k v).length ≤ sizeLine := Nat.le_trans (length_putK es k v) hz
  refine wpAny_dictSet_heap (hsz := hzx) (show (tupleKind (mixKind X.prog X.w)).room X.A from hu) (key_of I.hok hb) dd fun h' dd' hs => h _ ?_
  obtain ⟨ob, es', ep, hob, c1, c2, c3, _, c4⟩ := dd'
  refine d_write I (by rw [hd]; exact True.intro) hs ⟨ob, hob⟩ ⟨hzp, h0, _, (rel.put k hb rv).keeps fun c ys ec => ?_, ob, es', ep, hob, c1, c2, c3, c4⟩
  rw [upd_ne (ne_of ec hd (fun z => nomatch z))]
  exact ec
end
section
variable {X : Cx}
/-- the reading: d is the new dict -/
def tDcT (wi : TI) (g : TG) (tt : TT) (tk tv : TE) (vs : List Nat) : TE := fun σ H Q => wi σ H fun J H1 => ∀ d, H1 d = none → ∃ Wd : Nat → Nat → Hp → Prop, (∃ m, Wd 0 m (upd H1 d (.dT []))) ∧ ∀ i m H, Wd i m H →
  (J.stop i H ∧ Q (.ref d) H) ∨ (J.go i H ∧ ∃ Nx : Hp → Prop, (∀ H', Nx H' → ∃ m', m' < m ∧ Wd (i + 1) m' H') ∧ ∀ x H', J.yld i H x H' → g x (wipe σ vs) H' fun σ2 H2 => wipe σ2 vs = wipe σ vs ∧ tt σ2 H2 fun b H3 =>
    if b = true then tk σ2 H3 fun y H4 => tv σ2 H4 fun z H5 => ∃ es k q, y = .ref q ∧ H5 q = some (.tup (k.map kV)) ∧ H5 d = some (.dT es) ∧ es.length < sizeLine ∧ Nx (upd H5 d (.dT (putK es k z))) else Nx H3)
abbrev CeX (X : Cx) (s : Shared) (H : Hp) (scope : Scope) (C : Addr) (cl : List (Str × Addr)) (fp : List Addr) : Cx := X.blk s H scope (compEnvC scope cl C X.env) fp
theorem pe_dcT {kx vx tg iter : Expr} {ifs : List Expr} {scope : Scope} {own : List (Str × Nat)} {pos : Pos} {wi : TI} {g : TG} {tt : TT} {tk tv : TE} (hu : X.A.units < cLine) (hc : X.calm = true) (hN : X.N.Nodup) (hi : PI X tg iter wi) (ok : BlkOk X.N X.env.scope scope own)
    (hg : ∀ s H C cl fp, PG (CeX X s H scope C cl fp) tg g) (ht : ∀ s H C cl fp, PTs (CeX X s H scope C cl fp) ifs tt) (hk : ∀ s H C cl fp, PE (CeX X s H scope C cl fp) kx tk) (he : ∀ s H C cl fp, PE (CeX X s H scope C cl fp) vx tv)
    (hA : ∀ s H C cl fp, (CeX X s H scope C cl fp).A.units < cLine) (hs : ∀ x, foldedSetIterable iter X.env x = pure x := by intro _; rfl) : PE X (.DictComp kx vx [⟨tg, iter, ifs, 0⟩] scope pos) (tDcT wi g tt tk tv (own.map (·.2))) := by
  refine ⟨fun pins s σ H Q I h => ?_⟩
  rw [arm_eval_DictComp]
  have hfree : ∀ y ∈ scope.names, y.2 = .free → ∃ c, X.env.cells.lookup y.1 = some c := fun y hy e => (ok.free y hy e).elim (fun z => I.ok.has _ (.inl z)) fun z => I.ok.has _ (.inr z)
  refine wpAny_comprehension_free (use := none) rfl hs (closure_ok hfree) ok.kind (fun y hy e => by rw [ok.uniq y hy, e]) (thn (hi.run pins s σ H _ I h) fun xv s1 hx => thn hx fun itv s2 h2 => ?_)
  obtain ⟨it, fp, tn, J, H2, rfl, I2, T, st2, f2, q⟩ := h2
  refine wpAny_newObj_type (newEnv_comp ?_)
  generalize hd : s2.heap.objs.size = d
  obtain ⟨Wd, ⟨m0, w0⟩, turn⟩ := q d (I2.hok.fresh (Nat.le_of_eq hd))
  generalize hs3 : ({ s2 with heap := s2.heap.push { cls := .type "dict", data := .dict #[] } } : Shared) = s3
  have h3 : s3.heap = s2.heap.push { cls := .type "dict", data := .dict #[] } := by rw [← hs3]
  have I3 : Inv X pins σ (upd H2 d (.dT [])) s3 := by
    subst hs3 hd
    exact I2.laid (t' := s2.toks) (fun b o e => Heap.get?_push_of_some _ e) (Nat.le_refl _) (dt_empty s2.heap I2.big)
  have f3 : ∀ b ∈ fp, FpOk X pins (upd H2 d (.dT [])) b ∧ b < s3.heap.objs.size := fun b hb => by
    obtain ⟨o, e, _⟩ := T.obj _ _ st2 b hb
    have hlt := Heap.lt_size e
    exact ⟨⟨by rw [upd_ne (by rw [← hd]; exact Nat.ne_of_lt hlt)]; exact (f2 b hb).1, (f2 b hb).2⟩, by rw [h3, Heap.size_push]; exact Nat.lt_succ_of_lt hlt⟩
  have st3 : tn 0 s3.heap := T.keep _ _ _ st2 fun b _ o e => by rw [h3]; exact Heap.get?_push_of_some _ e
  have I4 := block_start I3 ok hN f3
  generalize hcl : cellsFrom (s3.heap.objs.size + 1) scope.names (cloFrom X.env.cells scope.names []) = cl at I4
  have pg := hg s3 (upd H2 d (.dT [])) s3.heap.objs.size cl fp
  have pt := ht s3 (upd H2 d (.dT [])) s3.heap.objs.size cl fp
  have pk := hk s3 (upd H2 d (.dT [])) s3.heap.objs.size cl fp
  have pv := he s3 (upd H2 d (.dT [])) s3.heap.objs.size cl fp
  have hu' := hA s3 (upd H2 d (.dT [])) s3.heap.objs.size cl fp
  have nfp : ∀ b ∈ fp, (upd H2 d (.dT [])) b = none := fun b hb => (f3 b hb).1.1
  unfold CeX at pg pt pk pv hu'
  show codeAny _ _ (.compStart (.DictComp kx vx [⟨tg, iter, ifs, 0⟩] scope pos) 0 (.ref it) (.ref d) (compEnvC scope cl s3.heap.objs.size X.env)) (compPost (model X.prog X.w) X.A X.xe none (EP X pins σ Q) (.ref d) s3.heap.objs.size) { s3 with heap := pushCells (s3.heap.push { cls := .type "dict", data := .dict #[] }) scope.names }
  generalize hce : compEnvC scope cl s3.heap.objs.size X.env = ce at I4 pg pt pk pv hu' ⊢
  have cL : ce.locals = s3.heap.objs.size := by rw [← hce]; rfl
  generalize hH3 : upd H2 d (.dT []) = H3 at I3 I4 pg pt pk pv w0 nfp f3 hu'
  generalize hs4 : ({ s3 with heap := pushCells (s3.heap.push { cls := .type "dict", data := .dict #[] }) scope.names } : Shared) = s4 at I4 ⊢
  have st4 : tn 0 s4.heap := T.keep _ _ _ st3 fun b _ o e => by rw [← hs4]; exact pushCells_keeps _ _ _ _ (Heap.get?_push_of_some _ e)
  have stat : ∀ {σ' : L2.St} {H' : Hp} {s' : Shared}, Inv (X.blk s3 H3 scope ce fp) [] σ' H' s' → (∀ b ∈ fp, H' b = none) → ∀ b ∈ fp, FpOk (X.blk s3 H3 scope ce fp) [] H' b := fun {σ' H' s'} J hn b hb =>
    ⟨hn b hb, (J.ok.exf b hb).1, J.ok.exfs b hb, .inl hb, fun x c e => (J.ok.exf b hb).2 x c e, fun p hp => absurd (show p ∈ ([] : List (Addr × Obj)) ++ [] from hp) (by simp)⟩
  have hRR : ∀ s' m H', Inv X pins σ H' s' → Q (.ref d) H' → s'.heap.Ns s3.heap.objs.size m → FpOk X pins H' s3.heap.objs.size → compPost (model X.prog X.w) X.A X.xe none (EP X pins σ Q) (.ref d) s3.heap.objs.size (.ok .next) s' := fun s' m H' J qq hn ff =>
    ⟨m, hn, fun h'' sb => ⟨.ref d, H', J.turned (t' := s'.toks) (fun b o hb e => (sb.2 b hb).trans e) ff.1 ff.2.1 ff.2.2.2.1 ff.2.2.2.2.1 ff.2.2.2.2.2, rfl, qq⟩⟩
  let Lp : Nat → Shared → Prop := fun n s' => ∃ i H', Inv (X.blk s3 H3 scope ce fp) [] (wipe σ (own.map (·.2))) H' s' ∧ tn i s'.heap ∧ (∀ b ∈ fp, H' b = none) ∧ Wd i n H'
  have loop : codeAny (model X.prog X.w) X.A (.compLoop (.DictComp kx vx [⟨tg, iter, ifs, 0⟩] scope pos) 0 (.ref it) (.ref d) ce) (compPost (model X.prog X.w) X.A X.xe none (EP X pins σ Q) (.ref d) s3.heap.objs.size) s4 := by
    refine compLoop_anyD Lp ?_ m0 ⟨0, H3, I4, st4, nfp, w0⟩
    rintro n s5 ⟨i, H5, I5, st5, n5, w5⟩
    rcases turn i n H5 w5 with ⟨stop, qq⟩ | ⟨go, Nx, hNx, step⟩
    · refine thnF (T.done (X.blk s3 H3 scope ce fp) rfl rfl rfl hc i [] s5 _ H5 (fun _ _ => False) I5 (stat I5 n5) st5 stop) fun r s6 ⟨hr, I6⟩ => ?_
      subst hr
      have I7 : Inv X pins σ H5 s6 := I3.call' (ch := fp) I6.os I6.base I6.hok I6.bare fun b hb => ⟨(f3 b hb).1.2.2.2.1, (f3 b hb).1.2.1, (f3 b hb).1.2.2.2.2.1, (f3 b hb).1.2.2.2.2.2⟩
      have nC : H5 s3.heap.objs.size = none := by
        rw [← cL]
        exact I6.free
      obtain ⟨m, hn, _⟩ := I6.loc
      exact hRR s6 m H5 I7 qq (by rw [← cL]; exact hn) (I3.fpOk (Nat.le_refl _) nC)
    · refine thnF (T.item (X.blk s3 H3 scope ce fp) rfl rfl rfl hc i [] s5 _ H5 (fun _ _ => False) I5 (stat I5 n5) st5 go) fun r s6 ⟨u, hr, h6⟩ => ?_
      subst hr
      refine thnF h6 fun _ s7 ⟨x, H7, I7, r7, y7, st7, n7⟩ => ?_
      refine thnF (pg.run _ s7 _ H7 x u _ (I7.pinned (stat I7 n7) (T.obj _ _ st7)) r7 (step x H7 y7)) fun _ s8 ⟨σ8, H8, I8, hw8, q8⟩ => ?_
      refine thnF (pt.run _ s8 σ8 H8 _ I8 q8) fun b s9 ⟨H9, I9, q9⟩ => ?_
      have fin : ∀ {s' : Shared} {H' : Hp}, Inv (X.blk s3 H3 scope ce fp) ([] ++ pinsAt fp s7.heap) σ8 H' s' → Nx H' → ∃ m, m < n ∧ Lp m s' := fun {s' H'} J nx => by
        obtain ⟨m', hm, w'⟩ := hNx H' nx
        have pin' : ∀ b ∈ fp, ∀ o, s7.heap.get? b = some o → s'.heap.get? b = some o ∧ H' b = none := fun b hb o e =>
          have z := J.pin (b, o) (List.mem_append_right _ (List.mem_append_right _ (mem_pinsAt hb e)))
          ⟨z.1, z.2.1⟩
        refine ⟨m', hm, i + 1, H', (J.unpinned (pins := [])).weak (by rw [← hw8, wipe_length]) (fun j v e => ?_), T.keep _ _ _ st7 fun b hb o e => (pin' b hb o e).1, fun b hb => ?_, w'⟩
        · rw [← hw8] at e
          exact (wipe_some e).1
        · obtain ⟨o, e, _⟩ := T.obj _ _ st7 b hb
          exact (pin' b hb o e).2
      cases b with
      | false =>
        rw [if_neg Bool.false_ne_true] at q9 ⊢
        exact fin I9 q9
      | true =>
        rw [if_pos rfl] at q9 ⊢
        refine thnF (pk.run _ s9 σ8 H9 _ I9 q9) fun z s10 ⟨yk, H10, I10, r10, q10⟩ => ?_
        refine thnF (pv.run _ s10 σ8 H10 _ I10 q10) fun z2 s11 ⟨yv, H11, I11, r11, es, k, b, ek, hb11, hd11, hz11, nx⟩ => ?_
        subst ek
        cases r10
        exact dictSet_T (X := X.blk s3 H3 scope ce fp) hu' I11 hd11 hz11 hb11 r11 fun s12 I12 => fin I12 nx
  exact codeAny_compStart_dict loop (T.self X.A 0 _ _ _ st4 loop)
end
end DL
set_option maxRecDepth 100000
namespace DL
open PySem PySem.Spec PyProof.Rows L2
/-! ### dicts: made, told to be for good, walked over -/
def tFrz (t : TE) : TE := fun σ H Q => t σ H fun v H1 => ∃ d u, v = .ref d ∧ H1 d = some u ∧ Mut (some u) ∧ ∀ od, Q v (upd H1 d (.frz od u))
theorem pe_frz {X : Cx} {e : Expr} {t : TE} (h : PE X e t) : PE X e (tFrz t) := ⟨fun pins s σ H Q I hh => thn (h.run pins s σ H _ I hh) fun u s1 ⟨x, H1, I1, rx, d, uo, ex, hd, mu, q⟩ => by
  obtain ⟨od, I2⟩ := I1.lock hd mu
  exact ⟨x, _, I2, rx, q od⟩⟩
section
variable {K : PySem.W.Frag} {M M' : Addr → Prop} {mu mu' : List Addr} {H H' : Hp} {S : Sto}
theorem Cl.mono (e : Ext0 M mu H M' mu' H') {d : D} {a : Addr} (q : H' a = H a) (c : Cl K M mu H d a) : Cl K M' mu' H' d a := by
  cases d with
  | lst ds => obtain ⟨vs, h1, h2⟩ := c; exact ⟨vs, q.trans h1, Rs.mono e _ _ h2⟩
  | dk kvs => obtain ⟨es, h1, h2, h3⟩ := c; exact ⟨es, q.trans h1, h2, Rk.mono e _ _ h3⟩
  | dt kvs => obtain ⟨es, h1, h2, h3⟩ := c; exact ⟨es, q.trans h1, h2, Rt.mono e _ _ h3⟩
  | obj C fs => obtain ⟨dx, gs, h1, h2, h3⟩ := c; exact ⟨dx, gs, q.trans h1, h2, Rfs.mono e _ _ h3⟩
  | tb P z => obtain ⟨rfl, h⟩ := c; exact ⟨rfl, TabM.mono e q h⟩
  | _ => exact c
/-- the object set aside becomes the next cell, whatever it is -/
theorem Wok.pushC {p : Addr} {c : D} (ok : Wok K (fun a => M a ∨ a = p) mu H S) (np : p ∉ mu) (hc : Cl K (fun a => M a ∨ a = p) mu H c p) :
    Wok K (fun a => M a ∨ a = p) (mu ++ [p]) H (S ++ [c]) ∧ Ext0 (fun a => M a ∨ a = p) mu H (fun a => M a ∨ a = p) (mu ++ [p]) H := by
  have ex : Ext0 (fun a => M a ∨ a = p) mu H (fun a => M a ∨ a = p) (mu ++ [p]) H := ⟨fun _ _ h _ => h, ⟨[p], rfl⟩, fun a h => .inl h⟩
  refine ⟨⟨by simp [ok.len], fun a h => ?_, ?_, ok.tr, fun i a d h1 h2 => ?_⟩, ex⟩
  · exact (List.mem_append.mp h).elim (ok.sub a) fun z => .inr (List.mem_singleton.mp z)
  · exact List.nodup_append.mpr ⟨ok.nd, by simp, fun a ha b hb e => np ((List.mem_singleton.mp hb) ▸ e ▸ ha)⟩
  · by_cases hi : i < mu.length
    · rw [List.getElem?_append_left hi] at h1
      rw [List.getElem?_append_left (by rw [ok.len]; exact hi)] at h2
      exact (ok.at_ i a d h1 h2).mono ex rfl
    · have hi' := (List.getElem?_eq_some_iff.mp h1).1
      have e : i = mu.length := by simp at hi'; omega
      subst e
      obtain rfl : p = a := by simpa using h1
      obtain rfl : c = d := by rw [← ok.len] at h2; simpa using h2
      exact hc.mono ex rfl
end
def wNewT : DW := fun _ S P _ => P (.loc S.length) (S ++ [.dt []])
theorem dx_newT {X : Cx} {W : WX} {pos : Pos} : DX X W (.Dict [] [] pos) wNewT := by
  refine ⟨_, pe_dnewT, ⟨fun M mu σ ρ S H P E Q ok en hw n x p hp => ?_⟩⟩
  obtain ⟨ex, oka⟩ := ok.aside hp (.dT [])
  have np : p ∉ mu := fun m => ok.tr p (ok.sub p m) hp
  obtain ⟨ok2, ex2⟩ := oka.pushC (c := .dt []) np ⟨[], upd_same, rfl, rfl⟩
  have ex1 : Ext M mu H (fun a => M a ∨ a = p) (mu ++ [p]) (upd H p (.dT [])) := ⟨⟨fun b q hb nb => ex.keepM b q hb nb, ⟨[p], rfl⟩, fun a h => h.imp id fun e => by rw [e]; exact hp⟩, ex.keep, fun a h =>
    (List.mem_append.mp h).elim .inl fun z => .inr (by rw [List.mem_singleton.mp z]; exact hp), fun a h => .inl h, ok.sub⟩
  refine n _ (mu ++ [p]) (.ref p) _ (.loc S.length) _ ex1 ok2 ⟨p, rfl, ?_⟩ hw
  rw [ok.len]
  simp
/-! the dict in the slot v is for good from here on -/
def wsRetire (v : Nat) (w : DWS) : DWS := fun Y ρ S => match ρ[v]? with
  | some (some (.loc i)) => (match S[i]? with
    | some (.dt es) => w Y (ρ.set v (some (.dt es))) (S.set i .non)
    | _ => False)
  | _ => False
theorem ds_retire {X : Cx} {W : WX} {st : Stmt} {w : DWS} (v : Nat) (h : DS X W st w) : DS X W st (wsRetire v w) := by
  obtain ⟨t, p, r⟩ := h.ex
  refine ⟨fun Y σ H => ∃ d u, H d = some u ∧ Mut (some u) ∧ ∀ od, t Y σ (upd H d (.frz od u)), ⟨fun pins s σ H Y I ⟨d, u, hd, mu, q⟩ => ?_⟩, ⟨fun M mu σ ρ S H Y Y' ok en hw n => ?_⟩⟩
  · obtain ⟨od, I2⟩ := I.lock hd mu
    exact p.run pins s σ _ Y I2 (q od)
  · unfold wsRetire at hw
    split at hw
    · rename_i i e1
      split at hw
      · rename_i es e2
        obtain ⟨u, hu, a, rfl, ha⟩ := en.get v _ e1
        obtain ⟨es', hv, hk, rv⟩ : Cl X.K M mu H (.dt es) a := ok.at_ i a _ ha e2
        refine ⟨a, _, hv, True.intro, fun od => ?_⟩
        obtain ⟨ok1, k1⟩ := ok.cell (o := .frz od (.dT es')) (c := .non) ha (notF_dT hv) True.intro
        have e0 := (ok.ext k1).toExt0
        have rr : R X.K M mu (upd H a (.frz od (.dT es'))) (.dt es) (.ref a) := ⟨a, od, es', rfl, upd_same, hk, Rt.mono e0 _ _ rv⟩
        have en1 := (en.keep ok k1).set (i := v) rr
        have es1 : σ.set v (some (V.ref a)) = σ := by
          obtain ⟨hlt, he⟩ := List.getElem?_eq_some_iff.mp hu
          rw [← he]
          exact List.set_getElem_self hlt
        rw [es1] at en1
        exact r.run M mu σ _ _ _ Y Y' ok1 en1 hw (n.mono (ok.ext k1))
      · exact hw.elim
    · exact hw.elim
/-! the keys, one after the other -/
def keysT (es : TD) : List D := es.map fun e => .tup (e.1.map keyD)
section
variable {K : PySem.W.Frag} {M : Addr → Prop} {mu : List Addr} {H : Hp} {S : Sto}
theorem itOk_keysT {a : Addr} {od : Obj} {es : List (List Key × V)} {kvs : TD} (ha : H a = some (.frz od (.dT es))) (hk : es.map (·.1) = kvs.map (·.1)) : ItOk K (Itkt a od es) M mu H (keysT kvs) none := fun M' mu' H' S' ex ok _ i => by
  have h' := ex.toExt0.keepM a _ ha (.inr isF_frz)
  have hl := rt_len hk
  have hl2 : (keysT kvs).length = kvs.length := by simp [keysT]
  refine ⟨fun d hd => ?_, fun hi => ⟨h', by omega⟩⟩
  have hi : i < kvs.length := by rw [← hl2]; exact (List.getElem?_eq_some_iff.mp hd).1
  refine ⟨⟨h', by omega⟩, fun x H2 y => ?_⟩
  obtain ⟨rfl, k, v, q, e1, rfl, hq⟩ := y
  refine ⟨.refl _ _, ok, ?_⟩
  have e2 : (kvs.map (·.1))[i]? = some k := by rw [← hk, List.getElem?_map, e1]; rfl
  have e3 : d = .tup (k.map keyD) := by
    unfold keysT at hd
    rw [List.getElem?_map] at hd
    rw [List.getElem?_map] at e2
    cases e4 : kvs[i]? with
    | none => rw [e4] at e2; cases e2
    | some z =>
      rw [e4] at hd e2
      obtain rfl : z.1 = k := Option.some.inj e2
      exact (Option.some.inj hd).symm
  subst e3
  exact ⟨q, _, rfl, hq, rs_keys k⟩
end
def wiKeysT (w : DW) : DWI := fun ρ S P E => w ρ S (fun d S1 => match d with
  | .dt es => P (keysT es) none S1
  | _ => False) E
theorem di_keysT {X : Cx} {W : WX} {tg e : Expr} {we : DW} (h : DE X W e we) : DI X W tg e (wiKeysT we) := by
  obtain ⟨_, pa, ra⟩ := h.ex
  refine ⟨_, pi_keys pa, ⟨fun M mu σ ρ S H P E Q ok en hw n x => ?_⟩⟩
  refine ra.run M mu σ ρ S H _ E _ ok en hw (fun v H1 d S1 k1 ok1 r1 h1 => ?_) x
  cases d with
  | dt es =>
    obtain ⟨a, od, es', rfl, ha, hk, rv⟩ := r1
    exact ⟨a, od, rfl, .inr ⟨es', ha, n _ H1 _ none S1 k1 ok1 (itOk_keysT ha hk) True.intro h1⟩⟩
  | _ => exact h1.elim
/-! {k: v for .. in .. if ..} -/
def dcW (g : DWG) (tt : DWT) (tk tv : DW) (ρ : Loc) (P : TD → Sto → Prop) : List D → TD → Sto → Prop
  | [], acc, S => P acc S
  | x :: xs, acc, S => g x S ρ fun ρ' => tt ρ' S (fun b S1 => if b = true then tk ρ' S1 (fun y S2 => tv ρ' S2 (fun z S3 => acc.length < 1000000 ∧ match tkOf y with
    | some k => dcW g tt tk tv ρ P xs (putT acc k z) S3
    | none => False) EF) EF else dcW g tt tk tv ρ P xs acc S1) EF
def wDcT (wi : DWI) (g : DWG) (tt : DWT) (tk tv : DW) (vs : List Nat) : DW := fun ρ S P E => wi ρ S (fun items src S1 => (match src with
  | none => True
  | some _ => False) ∧ dcW g tt tk tv (wD ρ vs) (fun es S2 => P (.dt es) S2) items [] S1) E
section
variable {K : PySem.W.Frag} {W : WX} {ti : TI} {g : TG} {tt : TT} {tk tv : TE} {wi : DWI} {wg : DWG} {wt : DWT} {wk wv : DW} {vs is : List Nat}
theorem rd_dcT (ri : RdI K W ti wi) (rg : RdG K g wg is) (hs : ∀ i ∈ is, i ∈ vs) (rt : RdT K W0 tt wt) (rk : Rd K W0 tk wk) (rv : Rd K W0 tv wv) : Rd K W (tFrz (tDcT ti g tt tk tv vs)) (wDcT wi wg wt wk wv vs) := by
  refine ⟨fun M mu σ ρ S H P E Q ok en hw n x => ?_⟩
  refine ri.run M mu σ ρ S H _ E _ ok en hw (fun J H1 items src S1 k1 ok1 it hsrc h1 => ?_) x
  obtain ⟨hnone, h1⟩ := h1
  cases src with
  | some _ => exact hnone.elim
  | none =>
  intro p hp
  have np : p ∉ mu := fun h => ok1.tr p (ok1.sub p h) hp
  obtain ⟨ex1, oka⟩ := ok1.aside hp (.dT [])
  have en1 := en.keep ok k1
  have good : ∀ H', Keep mu H1 H' → Ext M mu H1 (fun a => M a ∨ a = p) mu H' := fun H' k => ⟨⟨fun b q h nb => k b q h (nb.imp (fun nb z => nb (ok1.sub b z)) id), ⟨[], by simp⟩, fun a h => h.imp id fun e => by rw [e]; exact hp⟩, k, fun a h => .inl h, fun a h => .inl h, ok1.sub⟩
  have xf : ∀ (M : Addr → Prop) H' σ', Exc K M mu H' EF (fun C d H' => W0 C d σ' H') := fun _ _ _ _ _ _ _ _ _ _ _ _ h => h
  refine ⟨fun i m H' => m = items.length - i ∧ i ≤ items.length ∧ ∃ S' acc es, Keep mu H1 H' ∧ H' p = some (.dT es) ∧ es.map (·.1) = acc.map (·.1) ∧ Wok K (fun a => M a ∨ a = p) mu H' S' ∧ Rt K (fun a => M a ∨ a = p) mu H' acc (es.map (·.2)) ∧ dcW wg wt wk wv (wD ρ vs) (fun es S2 => P (.dt es) S2) (items.drop i) acc S',
    ⟨items.length, by simp, Nat.zero_le _, S1, [], [], ex1.keep, upd_same, rfl, oka, rfl, by simpa using h1⟩, ?_⟩
  rintro i m H' ⟨rfl, hi, S', acc, es, kH, hpa, hke, okp, racc, hl⟩
  have ex' := good H' kH
  by_cases hlt : i < items.length
  · refine .inr ?_
    rw [List.drop_eq_getElem_cons hlt] at hl
    have hl1 := (it _ _ _ S' ex' okp True.intro i).1 items[i] (List.getElem?_eq_getElem hlt)
    refine ⟨hl1.1, fun H2 => ∃ S2 acc2 es2, Keep mu H1 H2 ∧ H2 p = some (.dT es2) ∧ es2.map (·.1) = acc2.map (·.1) ∧ Wok K (fun a => M a ∨ a = p) mu H2 S2 ∧ Rt K (fun a => M a ∨ a = p) mu H2 acc2 (es2.map (·.2)) ∧ dcW wg wt wk wv (wD ρ vs) (fun es S2 => P (.dt es) S2) (items.drop (i + 1)) acc2 S2,
      fun H2 q => ⟨items.length - (i + 1), by omega, rfl, hlt, q⟩, fun y H2 hy => ?_⟩
    obtain ⟨k2, ok2, r2⟩ := hl1.2 y H2 hy
    have enb : Env K (fun a => M a ∨ a = p) mu H2 (wD ρ vs) (wipe σ vs) := (en1.wipe vs).mono (good H2 (kH.trans k2)).toExt0
    have racc2 := Rt.mono (okp.ext k2).toExt0 _ _ racc
    refine rg.run _ mu _ _ S' H2 items[i] y _ _ ok2 enb r2 hl fun σ3 ρ3 en3 w3 h3 => ?_
    refine ⟨(w3 vs hs).trans wipe_wipe, ?_⟩
    refine rt.run _ mu σ3 ρ3 S' H2 _ EF _ ok2 en3 h3 (fun b H4 S4 k4 ok4 h4 => ?_) (xf _ _ _)
    have hp4 : H4 p = some (.dT es) := k4 _ _ (k2 _ _ hpa (.inl np)) (.inl np)
    have racc4 := Rt.mono (ok2.ext k4).toExt0 _ _ racc2
    cases b with
    | false =>
      rw [if_neg Bool.false_ne_true] at h4 ⊢
      exact ⟨S4, acc, es, kH.trans (k2.trans k4), hp4, hke, ok4, racc4, h4⟩
    | true =>
      rw [if_pos rfl] at h4 ⊢
      refine rk.run _ mu σ3 ρ3 S4 H4 _ EF _ ok4 (en3.keep ok2 k4) h4 (fun u H5 d5 S5 k5 ok5 r5 h5 => ?_) (xf _ _ _)
      refine rv.run _ mu σ3 ρ3 S5 H5 _ EF _ ok5 ((en3.keep ok2 k4).keep ok4 k5) h5 (fun z H6 d6 S6 k6 ok6 r6 h6 => ?_) (xf _ _ _)
      obtain ⟨hln, h6⟩ := h6
      cases ek : tkOf d5 with
      | none => simp only [ek] at h6
      | some k =>
        simp only [ek] at h6
        obtain ⟨b, rfl, hb⟩ := tk_ok (r5.keep ok5 k6) ek
        have hp6 : H6 p = some (.dT es) := k6 _ _ (k5 _ _ hp4 (.inl np)) (.inl np)
        have racc6 := Rt.mono (ok5.ext k6).toExt0 _ _ (Rt.mono (ok4.ext k5).toExt0 _ _ racc4)
        obtain ⟨q1, q2⟩ := rt_put r6 k hke racc6
        obtain ⟨exw, okw⟩ := ok6.wrote np (notF_dT hp6) (.dT (putK es k z))
        refine ⟨es, k, b, rfl, hb, hp6, line_lt (by rw [rt_len hke]; exact hln), S6, putT acc k d6, putK es k z, ?_, upd_same, q1, okw, Rt.mono exw _ _ q2, h6⟩
        intro b q hb nb
        rw [upd_ne (ne_of_none hb hp)]
        exact k6 _ _ (k5 _ _ (k4 _ _ (k2 _ _ (kH b q hb nb) nb) nb) nb) nb
  · refine .inl ?_
    have e : i = items.length := by omega
    subst e
    rw [List.drop_length] at hl
    refine ⟨(it _ _ _ S' ex' okp True.intro _).2 (Nat.le_refl _), p, _, rfl, hpa, True.intro, fun od => ?_⟩
    obtain ⟨exw, okw⟩ := okp.wrote np (notF_dT hpa) (.frz od (.dT es))
    refine n (.ref p) _ (.dt acc) S' ?_ (okw.less (fun a h => .inl h) ok1.sub) ⟨p, od, es, rfl, upd_same, hke, Rt.mono (ext_less fun a h => .inl h) _ _ (Rt.mono exw _ _ racc)⟩ hl
    exact k1.trans fun b q hb nb => by
      rw [upd_ne (ne_of_none hb hp)]
      exact kH b q hb nb
end
section
variable {X : Cx} {W : WX} {kx vx tg iter : Expr} {ifs : List Expr} {scope : Scope} {own : List (Str × Nat)} {pos : Pos} {wi : DWI} {wg : DWG} {wt : DWT} {wk wv : DW} {is : List Nat}
theorem de_dcT (hu : X.A.units + 64 < cLine) (hc : X.calm = true) (hN : X.N.Nodup) (hi : DI X W tg iter wi) (ok : BlkOk X.N X.env.scope scope own)
    (hg : ∀ (s : Shared) (H : Hp) (C : Addr) (cl : List (Str × Addr)) (fp : List Addr), DG (X.blk s H scope (compEnvC scope cl C X.env) fp) tg wg is)
    (ht : ∀ (s : Shared) (H : Hp) (C : Addr) (cl : List (Str × Addr)) (fp : List Addr), DTs (X.blk s H scope (compEnvC scope cl C X.env) fp) W0 ifs wt)
    (hk : ∀ (s : Shared) (H : Hp) (C : Addr) (cl : List (Str × Addr)) (fp : List Addr), DE (X.blk s H scope (compEnvC scope cl C X.env) fp) W0 kx wk)
    (he : ∀ (s : Shared) (H : Hp) (C : Addr) (cl : List (Str × Addr)) (fp : List Addr), DE (X.blk s H scope (compEnvC scope cl C X.env) fp) W0 vx wv)
    (his : ∀ i ∈ is, i ∈ own.map (·.2) := by decide) (hs : ∀ x, foldedSetIterable iter X.env x = pure x := by intro _; rfl) :
    DE X W (.DictComp kx vx [⟨tg, iter, ifs, 0⟩] scope pos) (wDcT wi wg wt wk wv (own.map (·.2))) := by
  obtain ⟨ti, pi, ri⟩ := hi.ex
  have hu' : X.A.units < cLine := Nat.lt_of_le_of_lt (Nat.le_add_right _ _) hu
  exact ⟨_, pe_frz (pe_dcT hu' hc hN pi ok (fun s H C cl fp => (hg s H C cl fp).can) (fun s H C cl fp => (ht s H C cl fp).can) (fun s H C cl fp => (hk s H C cl fp).can) (fun s H C cl fp => (he s H C cl fp).can) (fun _ _ _ _ _ => hu') hs),
    rd_dcT ri rd_gOf his rd_ttOf rd_tOf rd_tOf⟩
end
/-! len(d), list(d) -/
def lenDt : DFn := fun xs S P => match xs with
  | [x] => (match val S x with
    | .dt es => P (.int es.length) S
    | _ => False)
  | _ => False
theorem call_lenDt {X : Cx} : CallR X (.builtin "len") (fun xs H Q => ∃ (p : Addr) (es : List (List Key × V)), xs = [.ref p] ∧ L2.Rd H p (.dT es) ∧ Q (.int ((es.length : Nat) : Int)) H) := by
  intro pins s σ H xs us Q I r h
  obtain ⟨p, es, rfl, hp, q⟩ := h
  obtain ⟨u, rfl, rx⟩ := r.one
  cases rx
  obtain ⟨z, hd, ys, rel, dd⟩ := dt_rd I.hok hp
  have hl := Paired.length rel
  refine call_len_dictH hd dd (by rw [← hl]; rw [sizeLine_eq] at z; omega) ?_
  rw [← hl]
  exact ⟨.int _, H, I.tok _, ⟨_, rfl⟩, q⟩
theorem calld_lenDt {K : PySem.W.Frag} : CallD K (fun xs H Q => ∃ (p : Addr) (es : List (List Key × V)), xs = [.ref p] ∧ L2.Rd H p (.dT es) ∧ Q (.int ((es.length : Nat) : Int)) H) lenDt := by
  intro M mu H S xs vs P Q ok r h n
  unfold lenDt at h
  split at h
  · rename_i x
    obtain ⟨v, rfl, rv⟩ := r.one
    cases e : val S x with
    | dt es =>
      simp only [e] at h
      obtain ⟨a, es', rfl, hd, hk, _⟩ := dt_at ok rv e
      exact ⟨a, es', rfl, hd, by rw [rt_len hk]; exact n _ H (.int _) S (.refl _ _) ok rfl h⟩
    | _ => simp only [e] at h
  · exact h.elim
def listDt : DFn := fun xs S P => match xs with
  | [x] => (match val S x with
    | .dt es => P (.lst (keysT es)) S
    | _ => False)
  | _ => False
theorem rs_isKeys {K : PySem.W.Frag} {M : Addr → Prop} {mu : List Addr} {H : Hp} : ∀ {kvs : TD} {es : List (List Key × V)} {bs : List Addr}, es.map (·.1) = kvs.map (·.1) → IsKeys H es bs → Rs K M mu H (keysT kvs) (bs.map V.ref)
  | [], [], bs, _, h => by
    cases h
    rfl
  | [], _ :: _, _, h, _ => by cases h
  | _ :: _, [], _, h, _ => by cases h
  | (k1, d1) :: kvs, (k2, v2) :: es, bs, h, hk => by
    injection h with e3 e4
    obtain rfl : k2 = k1 := e3
    cases hk with
    | cons q t => exact ⟨_, _, rfl, ⟨_, _, rfl, q, rs_keys _⟩, rs_isKeys e4 t⟩
theorem calld_listDt {K : PySem.W.Frag} : CallD K (fun xs H Q => ∃ d kvs, xs = [V.ref d] ∧ L2.Rd H d (.dT kvs) ∧ ∀ p bs, H p = none → IsKeys H kvs bs → Q (.ref p) (upd H p (.lst (bs.map V.ref)))) listDt := by
  intro M mu H S xs vs P Q ok r h n
  unfold listDt at h
  split at h
  · rename_i x
    obtain ⟨v, rfl, rv⟩ := r.one
    cases e : val S x with
    | dt es =>
      simp only [e] at h
      obtain ⟨a, es', rfl, hd, hk, _⟩ := dt_at ok rv e
      refine ⟨a, es', rfl, hd, fun p bs hp hb => ?_⟩
      obtain ⟨ok2, k2, _⟩ := ok.alloc hp (.lst (bs.map V.ref))
      exact n _ _ _ S k2 ok2 (newL ok hp (rs_isKeys hk hb)) h
    | _ => simp only [e] at h
  · exact h.elim
end DL
set_option maxRecDepth 100000
namespace DL
open PySem PySem.Spec PyProof.Rows L2
/-! ### instances: fields -/
abbrev FD := List (Str × D)
def putFD (f : Str) (d : D) : FD → FD
  | [] => [(f, d)]
  | (g, x) :: r => if g = f then (g, d) :: r else (g, x) :: putFD f d r
section
variable {K : PySem.W.Frag} {M : Addr → Prop} {mu : List Addr} {H : Hp} {S : Sto}
theorem rfs_look : ∀ {fs : FD} {gs : List (Str × V)} (f : Str) {d : D}, gs.map (·.1) = fs.map (·.1) → Rfs K M mu H fs (gs.map (·.2)) → fs.lookup f = some d → ∃ v, gs.lookup f = some v ∧ R K M mu H d v
  | [], _, f, d, _, _, h => by cases h
  | _ :: _, [], f, d, h, _, _ => by cases h
  | (g1, d1) :: fs, (g2, v2) :: gs, f, d, h, r, l => by
    obtain ⟨v, rr, e, h1, h2⟩ := r
    injection e with e1 e2
    injection h with e3 e4
    obtain rfl : v2 = v := e1
    obtain rfl : g2 = g1 := e3
    rw [List.lookup_cons] at l ⊢
    cases q : f == g2 with
    | true =>
      rw [q] at l
      obtain rfl : d1 = d := Option.some.inj l
      exact ⟨v2, rfl, h1⟩
    | false =>
      rw [q] at l
      exact rfs_look f e4 (by rw [e2]; exact h2) l
theorem rfs_put {d : D} {v : V} (hr : R K M mu H d v) (f : Str) : ∀ {fs : FD} {gs : List (Str × V)}, gs.map (·.1) = fs.map (·.1) → Rfs K M mu H fs (gs.map (·.2)) →
    (putF f v gs).map (·.1) = (putFD f d fs).map (·.1) ∧ Rfs K M mu H (putFD f d fs) ((putF f v gs).map (·.2))
  | [], [], _, _ => ⟨rfl, v, [], rfl, hr, rfl⟩
  | [], _ :: _, h, _ => by cases h
  | _ :: _, [], h, _ => by cases h
  | (g1, d1) :: fs, (g2, v2) :: gs, h, r => by
    obtain ⟨v0, rr, e, h1, h2⟩ := r
    injection e with e1 e2
    injection h with e3 e4
    obtain rfl : v2 = v0 := e1
    obtain rfl : g2 = g1 := e3
    unfold putF putFD
    by_cases q : g2 = f
    · rw [if_pos q, if_pos q]
      refine ⟨by rw [List.map_cons, List.map_cons, e4], v, _, rfl, hr, ?_⟩
      rw [e2]
      exact h2
    · rw [if_neg q, if_neg q]
      obtain ⟨i1, i2⟩ := rfs_put hr f e4 (by rw [e2]; exact h2)
      exact ⟨by rw [List.map_cons, List.map_cons, i1], v2, _, rfl, h1, i2⟩
theorem rfs_len {fs : FD} {gs : List (Str × V)} (h : gs.map (·.1) = fs.map (·.1)) : gs.length = fs.length := by
  have := congrArg List.length h
  simpa using this
theorem obj_at (ok : Wok K M mu H S) {x : D} {v : V} {C : Addr} {fs : FD} (r : R K M mu H x v) (e : val S x = .obj C fs) : ∃ a dx gs, v = .ref a ∧ H a = some (.ins C dx gs) ∧ gs.map (·.1) = fs.map (·.1) ∧ Rfs K M mu H fs (gs.map (·.2)) := by
  cases x with
  | loc i =>
    obtain ⟨a, rfl, h2⟩ := r
    obtain ⟨dx, gs, q, h3, h4⟩ := (show Cl K M mu H (.obj C fs) a from ok.at_ i a _ h2 (val_loc e (by simp)))
    exact ⟨a, dx, gs, rfl, q, h3, h4⟩
  | obj C' l =>
    have e' : C' = C ∧ l = fs := by simpa [val] using e
    obtain ⟨rfl, rfl⟩ := e'
    obtain ⟨a, dx, gs, rfl, _, q, h3, h4⟩ := r
    exact ⟨a, dx, gs, rfl, q, h3, h4⟩
  | _ => simp [val] at e
theorem cell_obj (ok : Wok K M mu H S) {i : Nat} {a C dx : Addr} (ha : mu[i]? = some a) {gs us : List (Str × V)} {fs : FD} (hv : H a = some (.ins C dx gs)) (hk : us.map (·.1) = fs.map (·.1)) (r : Rfs K M mu H fs (us.map (·.2))) :
    Wok K M mu (upd H a (.ins C dx us)) (S.set i (.obj C fs)) ∧ Keep mu H (upd H a (.ins C dx us)) := by
  have ex : Ext0 M mu H M mu (upd H a (.ins C dx us)) := ⟨fun b q h nb => by rw [upd_ne fun e => nb.elim (fun nb => nb (by rw [e]; exact ok.sub a (List.mem_of_getElem? ha))) (notF_ins hv q (by rw [← e]; exact h))]; exact h, ⟨[], by simp⟩, fun a h => .inl h⟩
  exact ok.cell (o := .ins C dx us) (c := .obj C fs) ha (notF_ins hv) ⟨dx, us, upd_same, hk, Rfs.mono ex _ _ r⟩
end
/-- e.f, e an instance of the class at C -/
def fldD (C : Addr) (f : Str) (x : D) (S : Sto) (P : DK) : Prop := match val S x with
  | .obj C' fs => C' = C ∧ (match fs.lookup f with
    | some d => P d S
    | none => False)
  | _ => False
def wFld (C : Addr) (f : Str) (wo : DW) : DW := fun ρ S P E => wo ρ S (fun x S1 => fldD C f x S1 P) E
def wsFld (C : Addr) (f : Str) (wo we : DW) : DWS := fun Y ρ S => we ρ S (fun d S1 => wo ρ S1 (fun x S2 => match x with
  | .loc i => (match val S2 (.loc i) with
    | .obj C' fs => C' = C ∧ fs.length < 900 ∧ Y.nx ρ (S2.set i (.obj C (putFD f d fs)))
    | _ => False)
  | _ => False) Y.ex) Y.ex
section
variable {X : Cx} {W : WX} {C : Addr} {f : Str} {o e : Expr} {wo we : DW} {pos pos' : Pos}
theorem de_fld (c : Cls X.K C) (hn : NoAttr X.K C f) (ho : DE X W o wo) (hb : attributeBase o f X.env (eval o X.env) = eval o X.env := by rfl) : DE X W (.Attribute o f pos) (wFld C f wo) := by
  obtain ⟨_, po, ro⟩ := ho.ex
  refine ⟨_, pe_fld po hb, ⟨fun M mu σ ρ S H P E Q ok en hw n x => ?_⟩⟩
  refine ro.run M mu σ ρ S H _ E _ ok en hw (fun v H1 d S1 k1 ok1 r1 h1 => ?_) x
  unfold fldD at h1
  cases e1 : val S1 d with
  | obj C' fs =>
    simp only [e1] at h1
    obtain ⟨rfl, h1⟩ := h1
    cases e2 : fs.lookup f with
    | none => simp only [e2] at h1
    | some z =>
      simp only [e2] at h1
      obtain ⟨a, dx, gs, rfl, ha, hk, rv⟩ := obj_at ok1 r1 e1
      obtain ⟨u, hu, ru⟩ := rfs_look f hk rv e2
      exact ⟨a, C', dx, gs, u, rfl, ha, c, hn, hu, n u H1 z S1 k1 ok1 ru h1⟩
  | _ => simp only [e1] at h1
theorem ds_fld (c : Cls X.K C) (hn : NoAttr X.K C f) (ho : DE X W o wo) (he : DE X W e we) (hs : swapsWith e (some (.Attribute o f pos')) pos.line X.env = pure false := by rfl) : DS X W (.Assign [.Attribute o f pos'] e pos) (wsFld C f wo we) := by
  obtain ⟨_, po, ro⟩ := ho.ex
  obtain ⟨_, pe, re⟩ := he.ex
  refine ⟨_, ps_fld po pe hs, ⟨fun M mu σ ρ S H Y Y' ok en hw n => ?_⟩⟩
  refine re.run M mu σ ρ S H _ _ _ ok en hw (fun v H1 d S1 k1 ok1 r1 h1 => ?_) (n.exc ok.sub σ)
  have n1 := n.mono (.of ok.sub k1)
  refine ro.run M mu σ ρ S1 H1 _ _ _ ok1 (en.keep ok k1) h1 (fun u H2 x S2 k2 ok2 r2 h2 => ?_) (n1.exc ok1.sub σ)
  have n2 := n1.mono (.of ok1.sub k2)
  cases x with
  | loc i =>
    simp only at h2
    cases e1 : val S2 (.loc i) with
    | obj C' fs =>
      simp only [e1] at h2
      obtain ⟨rfl, hl, h2⟩ := h2
      obtain ⟨a, rfl, ha⟩ := r2
      obtain ⟨dx, gs, hv, hk, rv⟩ := (show Cl X.K M mu H2 (.obj C' fs) a from ok2.at_ i a _ ha (val_loc e1 (by simp)))
      obtain ⟨q1, q2⟩ := rfs_put (r1.keep ok1 k2) f hk rv
      obtain ⟨ok3, k3⟩ := cell_obj ok2 ha hv q1 q2
      have hlen : gs.length < 1000 := by rw [rfs_len hk]; omega
      exact ⟨a, C', dx, gs, rfl, hv, c, hn, hlen, n2.nx M mu σ ρ _ _ (.of ok2.sub k3) ok3 (((en.keep ok k1).keep ok1 k2).keep ok2 k3) h2⟩
    | _ => simp only [e1] at h2
  | _ => exact h2.elim
end
/-! ### a new instance: __init__ has it as a cell, behind it it is a tree -/
def makeD (C : Addr) (sp : DSp) (args : List D → List D) (S : Sto) (P : DK) : Prop := sp (args [.loc S.length]) (S ++ [.obj C []]) (fun d S' => d = .non ∧ (match S'[S.length]? with
  | some (.obj C' fs) => C' = C ∧ S'.length = S.length + 1 ∧ lofs S.length fs = true ∧ (S'.take S.length).all (lo S.length) = true ∧ P (.obj C fs) (S'.take S.length)
  | _ => False)) EF
theorem make_run {K : PySem.W.Frag} {M : Addr → Prop} {mu : List Addr} {H : Hp} {S : Sto} {C : Addr} {sp : DSp} {P : DK} {Q : VK} {E : XK} (ok : Wok K M mu H S) {args : List D → List D} {vargs : List V → List V}
    (ha : ∀ M' mu' H' ds vs, Ext0 M mu H M' mu' H' → Rs K M' mu' H' ds vs → Rs K M' mu' H' (args ds) (vargs vs)) (h : makeD C sp args S P) (n : Nrm K M mu H P Q) :
    ∀ x dx, H x = none → H dx = none → dx ≠ x → toSp K sp (vargs [.ref x]) (upd (upd H dx (.own x)) x (.ins C dx [])) (fun v H3 => v = .non ∧ Q (.ref x) H3) E := by
  intro x dx hx hdx hne
  obtain ⟨ok1, k1, _⟩ := ok.alloc hdx (.own x)
  have hx1 : (upd H dx (.own x)) x = none := by rw [upd_ne (Ne.symm hne)]; exact hx
  obtain ⟨ex2, oka⟩ := ok1.aside hx1 (.ins C dx [])
  have np : x ∉ mu := fun m => ok.tr x (ok.sub x m) hx
  have nM : ¬ M x := fun m => ok.tr x m hx
  obtain ⟨ok3, ex3⟩ := oka.pushC (c := .obj C []) np ⟨dx, [], upd_same, rfl, rfl⟩
  have e03 : Ext0 M mu H (fun a => M a ∨ a = x) (mu ++ [x]) (upd (upd H dx (.own x)) x (.ins C dx [])) := ⟨fun b q hb nb => ex2.keepM b q (k1 b q hb (nb.imp (fun nb m => nb (ok.sub b m)) id)) nb, ⟨[x], rfl⟩, fun a h => h.imp id fun e => by rw [e]; exact hx⟩
  refine ⟨_, mu ++ [x], _, args [.loc S.length], _, EF, ok3, ha _ _ _ _ _ e03 ⟨.ref x, [], rfl, ⟨x, rfl, by rw [ok.len]; simp⟩, rfl⟩, h, fun v H3 d S3 k3 ok4 r4 h4 => ?_, fun _ _ _ _ _ _ _ _ _ h => h.elim⟩
  obtain ⟨rfl, h4⟩ := h4
  refine ⟨r4, ?_⟩
  split at h4
  · rename_i C' fs e1
    obtain ⟨rfl, hl, h5, h6, h7⟩ := h4
    have hx3 : (mu ++ [x])[S.length]? = some x := by rw [ok.len]; simp
    obtain ⟨dx', gs, hv, hk, rv⟩ : Cl K (fun a => M a ∨ a = x) (mu ++ [x]) H3 (.obj C' fs) x := ok4.at_ S.length x _ hx3 e1
    rw [ok.len] at h5 h6 h7
    refine n (.ref x) H3 (.obj C' fs) _ (fun b q hb nb => ?_) (ok4.low (fun a h => .inl h) ok.sub h6) ⟨x, dx', gs, rfl, nM, hv, hk, Rfs.low (fun a h => .inl h) _ _ h5 rv⟩ h7
    have nbx : b ≠ x := ne_of_none hb hx
    refine k3 b q ?_ (nb.imp (fun nb m => (List.mem_append.mp m).elim nb fun z => nbx (List.mem_singleton.mp z)) id)
    rw [upd_ne nbx]
    exact k1 b q hb nb
  · exact h4.elim
def wMake (C : Addr) (sp : DSp) (n m : Nat) (g : List D → List D → List D → List D) (w wk : DWA) : DW := fun ρ S P E => w ρ S (fun ds S1 => wk ρ S1 (fun es S2 => ds.length = n ∧ es.length = m ∧ makeD C sp (fun self => g self ds es) S2 P) E) E
section
variable {X : Cx} {W : WX} {CX : CXT} {k n : Nat} {f C : Addr} {fd : FuncData} {ps ks : List Str} {sp : DSp} {x : Str} {p pos : Pos} {e : Expr} {es : List Expr} {kws : List Keyword} {w wk : DWA} {g : List Value → List Value → List Value} {gV : List V → List V → List V} {gD : List D → List D → List D → List D}
/-- the parameters' order, told of trees -/
def GRel (K : PySem.W.Frag) (gD : List D → List D → List D → List D) (gV : List V → List V → List V) : Prop := ∀ (M : Addr → Prop) (mu : List Addr) (H : Hp) (s : List D) (ds es : List D) (u us ws : List V), Rs K M mu H s u → Rs K M mu H ds us → Rs K M mu H es ws → Rs K M mu H (gD s ds es) (gV (u ++ us) ws)
theorem rd_make {K : PySem.W.Frag} {t tk : TA} {m : Nat} {E0 : XK} (hg : GRel K gD gV) (ra : RdA K W t w) (rk : RdA K W tk wk) : Rd K W (tMakeK C n m (toSp K sp) gV E0 t tk) (wMake C sp n m gD w wk) := by
  refine ⟨fun M mu σ ρ S H P E Q ok en hw nn x => ?_⟩
  refine ra.run M mu σ ρ S H _ E _ ok en hw (fun us H1 ds S1 k1 ok1 r1 h1 => ?_) x
  refine rk.run M mu σ ρ S1 H1 _ E _ ok1 (en.keep ok k1) h1 (fun ws H2 es S2 k2 ok2 r2 h2 => ?_) (x.mono k1)
  obtain ⟨l1, l2, h2⟩ := h2
  have r1' := r1.keep ok1 k2
  refine ⟨by rw [← r1.len]; exact l1, by rw [← r2.len]; exact l2, ?_⟩
  exact make_run ok2 (vargs := fun u => gV (u ++ us) ws) (fun M' mu' H' s u e0 r => hg M' mu' H' s ds es u us ws r (Rs.mono e0 _ _ r1') (Rs.mono e0 _ _ r2)) h2 (nn.mono (k1.trans k2))
/-- C(.., k = v, ..) -/
theorem de_makeK (M : Mk X.K C f) (F : FnOk X.prog X.w X.K X.mg X.base CX0 k f fd ps (toSp X.K sp)) (hr : Room (k + 1) X.A) (hm : X.mg x = some (.ref C)) (hb : KBn X.K fd ps (n + 1) ks g gV) (hgr : GRel X.K gD gV) (ha : DA X W (e :: es) w) (hk : DKw X W kws wk) (hg : Gl X x := by rfl)
    (hall : (backToKw pos (keywordEach kws X.env)).all (·.1.isSome) = true := by rfl) (hks : (backToKw pos (keywordEach kws X.env)).filterMap (·.1) = ks := by rfl) (hdb : (x == ("__debug__" : Str)) = false := by decide)
    (he : starEach (e :: es) X.env = (false, eval e X.env) :: starEach es X.env := by rfl) (hpl : ((backTo pos (starEach (e :: es) X.env)).any (·.1) || (backToKw pos (keywordEach kws X.env)).any (·.1.isNone)) = false := by rfl) :
    DE X W (.Call (.Name x p) (e :: es) kws pos) (wMake C sp n ks.length gD w wk) := by
  obtain ⟨_, pa, ra⟩ := ha.ex
  obtain ⟨_, pk, rk⟩ := hk.ex
  exact ⟨_, pe_makeK (E := fun _ _ _ => False) M F hr hg hm hb pass0 pa pk hall hks hdb he hpl, rd_make hgr ra rk⟩
theorem de_makeK0 (M : Mk X.K C f) (F : FnOk X.prog X.w X.K X.mg X.base CX0 k f fd ps (toSp X.K sp)) (hr : Room (k + 1) X.A) (hm : X.mg x = some (.ref C)) (hb : KBn X.K fd ps 1 ks g gV) (hgr : GRel X.K gD gV) (hk : DKw X W kws wk) (hg : Gl X x := by rfl)
    (hall : (backToKw pos (keywordEach kws X.env)).all (·.1.isSome) = true := by rfl) (hks : (backToKw pos (keywordEach kws X.env)).filterMap (·.1) = ks := by rfl) (hdb : (x == ("__debug__" : Str)) = false := by decide)
    (hpl : ((backTo pos (starEach [] X.env)).any (·.1) || (backToKw pos (keywordEach kws X.env)).any (·.1.isNone)) = false := by rfl) : DE X W (.Call (.Name x p) [] kws pos) (wMake C sp 0 ks.length gD wNil wk) := by
  obtain ⟨_, pk, rk⟩ := hk.ex
  exact ⟨_, pe_makeK0 (E := fun _ _ _ => False) M F hr hg hm hb pass0 pk hall hks hdb hpl, rd_make hgr ⟨fun M mu σ ρ S H P E Q ok en hw n x => n [] H [] S (.refl _ _) ok rfl hw⟩ rk⟩
end
end DL
set_option maxRecDepth 100000
namespace DL
open PySem PySem.Spec PyProof.Rows L2
/-! ### methods -/
/-- a method as it stands in its class: C the class, m its name, f the function -/
def MIn (K : PySem.W.Frag) (C : Addr) (m nm qual : Str) (st : Stmt) (dvs : List V) (kws : List (Str × V)) : Prop := ∃ (f : Addr) (fd : FuncData), FunD K nm qual (defArgs st) (defBody st) (defScope st) dvs kws f fd ∧ Cls K C ∧ Meth K C m f
/-- what a caller knows of a method -/
structure MtF (P : Program) (w : World) (K : PySem.W.Frag) (mg : Str → Option Value) (base : Heap) (k : Nat) (C : Addr) (m : Str) (ps : List Str) (sp : DSp) (f : Addr) (fd : FuncData) : Prop where
  ok : FnOk P w K mg base CX0 k f fd ps (toSp K sp)
  c : Cls K C
  m : Meth K C m f
  lk : ∃ (oc : Value) (od : Option Addr) (osl : Array (Option Value)), K.lookup f = some ⟨oc, od, .func fd, osl⟩
/-- .. called with all its parameters by position (self ahead) -/
def Mt (P : Program) (w : World) (K : PySem.W.Frag) (mg : Str → Option Value) (base : Heap) (k : Nat) (C : Addr) (m : Str) (ps : List Str) (sp : DSp) : Prop := ∃ f fd, MtF P w K mg base k C m ps sp f fd ∧ Binds K fd ps []
theorem hideM {P : Program} {w : World} {K : PySem.W.Frag} {mg : Str → Option Value} {base : Heap} {k : Nat} {C : Addr} {m : Str} {ps : List Str} {sp : DSp} (c : Mt P w K mg base k C m ps sp) : ∃ sp' : DSp, Mt P w K mg base k C m ps sp' ∧ ∀ ds S P E, sp ds S P E → sp' ds S P E := ⟨sp, c, fun _ _ _ _ h => h⟩
def recvD (C : Addr) (m : Str) (x : D) (S : Sto) : Prop := match val S x with
  | .obj C' fs => C' = C ∧ fs.lookup m = none
  | _ => False
def wMeth (C : Addr) (m : Str) (sp : DSp) (wo : DW) (w : DWA) : DW := fun ρ S P E => wo ρ S (fun x S1 => recvD C m x S1 ∧ w ρ S1 (fun ds S2 => sp (x :: ds) S2 P EF) E) E
theorem rfs_no {K : PySem.W.Frag} {M : Addr → Prop} {mu : List Addr} {H : Hp} : ∀ {fs : FD} {gs : List (Str × V)} (f : Str), gs.map (·.1) = fs.map (·.1) → fs.lookup f = none → gs.lookup f = none
  | [], [], _, _, _ => rfl
  | [], _ :: _, _, h, _ => by cases h
  | _ :: _, [], _, h, _ => by cases h
  | (g1, d1) :: fs, (g2, v2) :: gs, f, h, l => by
    injection h with e3 e4
    obtain rfl : g2 = g1 := e3
    rw [List.lookup_cons] at l ⊢
    cases q : f == g2 with
    | true => rw [q] at l; cases l
    | false => rw [q] at l; exact rfs_no (K := K) (M := M) (mu := mu) (H := H) f e4 l
section
variable {X : Cx} {W : WX} {C : Addr} {k j : Nat} {m : Str} {ps : List Str} {sp : DSp} {o e : Expr} {es : List Expr} {wo : DW} {w : DWA} {apos pos : Pos}
theorem rd_meth {K : PySem.W.Frag} {to : TE} {t : TA} (ro : Rd K W to wo) (ra : RdA K W t w) : Rd K W (tMeth C m (toSp K sp) [] (fun _ _ _ => False) to t) (wMeth C m sp wo w) := by
  refine ⟨fun M mu σ ρ S H P E Q ok en hw n x => ?_⟩
  refine ro.run M mu σ ρ S H _ E _ ok en hw (fun v H1 d S1 k1 ok1 r1 h1 => ?_) x
  obtain ⟨hr, h1⟩ := h1
  unfold recvD at hr
  cases e1 : val S1 d with
  | obj C' fs =>
    simp only [e1] at hr
    obtain ⟨rfl, hn⟩ := hr
    obtain ⟨a, dx, gs, rfl, ha, hk, rv⟩ := obj_at ok1 r1 e1
    refine ⟨a, dx, gs, rfl, ha, rfs_no (K := K) (M := M) (mu := mu) (H := H1) m hk hn, ?_⟩
    refine ra.run M mu σ ρ S1 H1 _ E _ ok1 (en.keep ok k1) h1 (fun vs H2 ds S2 k2 ok2 r2 h2 => ?_) (x.mono k1)
    exact ⟨M, mu, S2, d :: ds, P, EF, ok2, ⟨.ref a, vs ++ [], rfl, r1.keep ok1 k2, by rw [List.append_nil]; exact r2⟩, h2, n.mono (k1.trans k2), fun _ _ _ _ _ _ _ _ _ h => h.elim⟩
  | _ => simp only [e1] at hr
/-- o.m(e, ..) -/
theorem de_meth {pl : Sem Bool} (c : Mt X.prog X.w X.K X.mg X.base j C m ps sp) (hr : Room k X.A) (ho : DE X W o wo) (ha : DA X W (e :: es) w) (hjk : j ≤ k := by first | decide | exact Nat.le_refl _ | omega)
    (hst : starEach (e :: es) X.env = (false, eval e X.env) :: starEach es X.env := by rfl) (hpl : (backTo pos (starEach es X.env)).any (·.1) = false := by rfl)
    (ht : eval (.Call (.Attribute o m apos) (e :: es) [] pos) X.env = (do
      let ov ← eval o X.env
      standAt apos.atName
      let (f, first) ← holding [ov] (getMethod ov m pl)
      callWith pos f first (backTo pos (starEach (e :: es) X.env)) (backToKw pos (keywordEach [] X.env))) := by rfl) : DE X W (.Call (.Attribute o m apos) (e :: es) [] pos) (wMeth C m sp wo w) := by
  obtain ⟨f, fd, c, hb⟩ := c
  obtain ⟨_, po, ro⟩ := ho.ex
  obtain ⟨_, pa, ra⟩ := ha.ex
  exact ⟨_, pe_meth (pl := pl) (E := fun _ _ _ => False) po c.c c.m c.ok (hr.mono hjk) hb .nil pass0 pa hst hpl ht, rd_meth ro ra⟩
theorem de_meth0 {pl : Sem Bool} (c : Mt X.prog X.w X.K X.mg X.base j C m ps sp) (hr : Room k X.A) (ho : DE X W o wo) (hjk : j ≤ k := by first | decide | exact Nat.le_refl _ | omega)
    (ht : eval (.Call (.Attribute o m apos) [] [] pos) X.env = (do
      let ov ← eval o X.env
      standAt apos.atName
      let (f, first) ← holding [ov] (getMethod ov m pl)
      callWith pos f first (backTo pos (starEach [] X.env)) (backToKw pos (keywordEach [] X.env))) := by rfl) : DE X W (.Call (.Attribute o m apos) [] [] pos) (wMeth C m sp wo wNil) := by
  obtain ⟨f, fd, c, hb⟩ := c
  obtain ⟨_, po, ro⟩ := ho.ex
  exact ⟨_, pe_meth0 (pl := pl) (E := fun _ _ _ => False) po c.c c.m c.ok (hr.mono hjk) hb .nil pass0 ht, rd_meth ro ⟨fun M mu σ ρ S H P E Q ok en hw n x => n [] H [] S (.refl _ _) ok rfl hw⟩⟩
end
section
variable {P : Program} {w : World} {K : PySem.W.Frag} {mg : Str → Option Value} {base : Heap} {C : Addr} {m nm qual : Str} {st : Stmt} {dvs : List V} {kws : List (Str × V)}
/-- THE RULE for a method -/
theorem mtF_def {N ps : List Str} {k : Nat} {sp : DSp} {wb : DWS} (I : MIn K C m nm qual st dvs kws) (sc : FnScope N ps (defScope st)) (len : ∀ ds S P E, sp ds S P E → ds.length = ps.length)
    (hb : ∀ (f : Addr) (cdv : Value) (A : Around) (outer : List PySem.Env) (s : Shared) (H : Hp) (E : XK), Room k (A.deeper (envOfC qual (defScope st) s.heap.objs.size f cdv)) → DSs (cxOf CX0 P w K mg base N qual (defScope st) f cdv A outer s H E) (fun C d _ H' => E C d H') (defBody st) wb)
    (hw : ∀ ds S P E, S.all (lo S.length) = true → sp ds S P E → wb (endsOf S.length P E) (startD N.length ds) S) : ∃ f fd, MtF P w K mg base (k + 1) C m ps sp f fd ∧ FunD K nm qual (defArgs st) (defBody st) (defScope st) dvs kws f fd := by
  obtain ⟨f, fd, F, c, hm⟩ := I
  exact ⟨f, fd, ⟨ok_def F sc len (fun cdv A outer s H E hr => hb f cdv A outer s H E hr) hw, c, hm, let ⟨oc, od, _, _, _, _, _, _, _, osl, _, lk, _⟩ := F.ex; ⟨oc, od, osl, lk⟩⟩, F⟩
theorem mt_of {ps : List Str} {k : Nat} {sp : DSp} (h : ∃ f fd, MtF P w K mg base k C m ps sp f fd ∧ FunD K nm qual (defArgs st) (defBody st) (defScope st) [] [] f fd)
    (hbd : ∀ (kV doc pm : Value) (an : Option Addr) (cdv ct : Value) (us : List Value), us.length = ps.length → bindArgs (PySem.W.fnOf nm qual (defArgs st) (defBody st) (defScope st) .none kV doc pm an cdv ct) ⟨us, []⟩ = pure (ps.zip us)) : Mt P w K mg base k C m ps sp := by
  obtain ⟨f, fd, h, F⟩ := h
  exact ⟨f, fd, h, F.bindsN hbd⟩
end
end DL
set_option maxRecDepth 100000
namespace DL
open PySem PySem.Spec PyProof.Rows L2
/-! ### dict(list of pairs), the keys tuples -/
abbrev TP := List Key × Addr × V
abbrev TPU := List Key × Addr × Value
def putAll (ps : List TP) (acc : List (List Key × V)) : List (List Key × V) := ps.foldl (fun a p => putK a p.1 p.2.2) acc
theorem putAll_len : ∀ (ps : List TP) (acc : List (List Key × V)), (putAll ps acc).length ≤ acc.length + ps.length
  | [], acc => Nat.le_refl _
  | p :: ps, acc => by
    have h1 := putAll_len ps (putK acc p.1 p.2.2)
    have h2 := length_putK acc p.1 p.2.2
    show (putAll ps (putK acc p.1 p.2.2)).length ≤ _
    rw [List.length_cons]
    omega
def Tri (p : TP) (q : TPU) : Prop := p.1 = q.1 ∧ p.2.1 = q.2.1 ∧ RelV p.2.2 q.2.2
theorem kt_all {H : Hp} : ∀ {ps : List TP} {us : List TPU} {acc : List (List Key × V)} {xs : List TPU}, Paired Tri ps us → (∀ p ∈ ps, H p.2.1 = some (.tup (p.1.map kV))) → KT H acc xs → KT H (putAll ps acc) (storedAllH xs us)
  | [], _, acc, xs, .nil, _, k => k
  | p :: ps, q :: us, acc, xs, .cons h t, hk, k => by
    obtain ⟨h1, h2, h3⟩ := h
    have k2 := k.put p.1 (hk p (List.mem_cons_self ..)) h3
    have r := kt_all t (fun p hp => hk p (List.mem_cons_of_mem _ hp)) k2
    have e : storedH xs p.1 p.2.1 q.2.2 = storedH xs q.1 q.2.1 q.2.2 := by rw [h1, h2]
    rw [e] at r
    exact r
def rDictPT (K : PySem.W.Frag) : List V → Hp → VK → Prop := fun xs H Q => ∃ (a : Addr) (Ts : List Addr) (ps : List TP), xs = [.ref a] ∧ SqL K H a (Ts.map V.ref) ∧ Paired (fun T (p : TP) => SqT K H T [.ref p.2.1, p.2.2] ∧ H p.2.1 = some (.tup (p.1.map kV))) Ts ps ∧
  ∀ l, H l = none → Q (.ref l) (upd H l (.dT (putAll ps [])))
section
variable {X : Cx}
theorem vals_pairs {pins : List (Addr × Obj)} {σ : L2.St} {H : Hp} {s : Shared} (I : Inv X pins σ H s) : ∀ {Ts : List Addr} {ps : List TP}, Paired (fun T (p : TP) => SqT X.K H T [.ref p.2.1, p.2.2] ∧ H p.2.1 = some (.tup (p.1.map kV))) Ts ps →
    ∃ us : List TPU, Paired Tri ps us ∧ us.length = Ts.length ∧ (∀ (j : Nat) (q : TPU), us[j]? = some q → ∃ T, Ts[j]? = some T ∧ s.heap.IsTuple T #[.ref q.2.1, q.2.2]) ∧ (∀ q ∈ us, H q.2.1 = some (.tup (q.1.map kV))) ∧ ∀ p ∈ ps, H p.2.1 = some (.tup (p.1.map kV))
  | [], _, .nil => ⟨[], .nil, rfl, fun _ _ h => by simp at h, fun _ h => (nomatch h), fun _ h => (nomatch h)⟩
  | T :: Ts, p :: ps, .cons ⟨h, hk⟩ t => by
    obtain ⟨us, r1, r2, r3, r4, r5⟩ := vals_pairs I t
    obtain ⟨its, rv, pt, _⟩ := I.tuple h
    cases rv with
    | cons ra rb =>
      cases ra
      cases rb with
      | cons rc rd =>
        rename_i u _
        cases rd
        refine ⟨(p.1, p.2.1, u) :: us, .cons ⟨rfl, rfl, rc⟩ r1, by rw [List.length_cons, List.length_cons, r2], fun j q hj => ?_, fun q hq => ?_, fun q hq => ?_⟩
        · cases j with
          | zero =>
            obtain rfl : (p.1, p.2.1, u) = q := by simpa using hj
            exact ⟨T, rfl, pt⟩
          | succ j => exact r3 j q (by simpa using hj)
        · rcases List.mem_cons.mp hq with e | e
          · rw [e]; exact hk
          · exact r4 q e
        · rcases List.mem_cons.mp hq with e | e
          · rw [e]; exact hk
          · exact r5 q e
theorem call_dictPT (hu : X.A.units + 64 < cLine) (hcalm : X.calm = true) : CallR X (.type "dict") (rDictPT X.K) := by
  intro pins s σ H xs us Q I r q
  obtain ⟨a, Ts, ps, rfl, hq, hp, q⟩ := q
  obtain ⟨u, rfl, rx⟩ := r.one
  cases rx
  obtain ⟨its, rv, pl, hz⟩ := I.list hq
  obtain rfl := refs_at rv
  rw [List.length_map] at hz
  obtain ⟨prs, rel, hl, hpr, hku, hkp⟩ := vals_pairs I hp
  obtain ⟨o, n, ho, hc, hd, hdat⟩ := pl
  have hm : (s.heap.objs.size == sysModules) = false := beq_eq_false_iff_ne.mpr (Nat.ne_of_gt I.big)
  have at_ : ∀ (j : Nat) (k v : Value), (prs.map fun (x : TPU) => (Value.ref x.2.1, x.2.2))[j]? = some (k, v) → ∃ y : TPU, prs[j]? = some y ∧ k = .ref y.2.1 ∧ v = y.2.2 := fun j k v hj => by
    rw [List.getElem?_map] at hj
    obtain ⟨y, e1, e2⟩ := Option.map_eq_some_iff.mp hj
    injection e2 with e3 e4
    exact ⟨y, e1, e3.symm, e4.symm⟩
  refine call_dict_pairsH (knd := tupleKind (mixKind X.prog X.w)) (ps := prs) (PairArg.list a (Ts.map Value.ref).toArray (fun j => Ts.getD j 0) (prs.map fun (x : TPU) => (Value.ref x.2.1, x.2.2))) (I.ok.hd hcalm) (show X.A.units + 1 + 1 < cLine by omega)
    ⟨⟨o, n, ho, hc, hd, hdat⟩, by simp [hl], fun j k v hj => ?_⟩ ⟨by simp, fun i k v hi => ?_⟩ (fun h' keep y hy => ?_) (by simp [hl]; omega) fun h' tk hd' k => ?_
  · obtain ⟨y, e1, rfl, rfl⟩ := at_ j k v hj
    obtain ⟨T, hT, ht⟩ := hpr j y e1
    have eT : Ts.getD j 0 = T := by rw [List.getD_eq_getElem?_getD, hT]; rfl
    refine ⟨?_, ?_⟩
    · show (List.map Value.ref Ts).toArray[j]? = some (Value.ref (Ts.getD j 0))
      rw [eT]
      simp [hT]
    · show PairAt s.heap (Ts.getD j 0) _ _
      rw [eT]
      exact .inl ht
  · obtain ⟨y, e1, rfl, rfl⟩ := at_ i k v hi
    exact ⟨y.1, y.2.1, e1, rfl⟩
  · obtain ⟨ob, its', n', h1, h2⟩ := key_of I.hok (hku y hy)
    exact ⟨ob, its', n', keep _ _ (Nat.ne_of_lt (Heap.lt_size h1)) (by simp) h1, h2⟩
  · have hfresh : H s.heap.objs.size = none := I.hok.fresh (Nat.le_refl _)
    have hplen : ps.length = Ts.length := by rw [← hl]; exact Paired.length rel
    have hlen : (putAll ps []).length ≤ sizeLine := by
      have := putAll_len ps []
      rw [List.length_nil] at this
      omega
    obtain ⟨ob, es, ep, hob, c1, c2, c3, _, c4⟩ := hd'
    have kt := (kt_all (acc := []) (xs := []) rel hkp .nil).keeps (H' := upd H s.heap.objs.size (.dT (putAll ps []))) fun c ys ec => by
      rw [upd_ne (ne_of_none ec hfresh)]
      exact ec
    exact ⟨.ref s.heap.objs.size, upd H s.heap.objs.size (.dT (putAll ps [])), I.laid (t' := tk) (fun b o e => k b o (by simp) e) (Nat.le_refl _) (show ObjOk X.prog X.w _ _ _ (.dT (putAll ps [])) from ⟨hlen, hm, _, kt, ob, es, ep, hob, c1, c2, c3, c4⟩), rfl, q _ hfresh⟩
end
/-! told of trees -/
def pairsT : List D → Option TD
  | [] => some []
  | .tup [k, d] :: l => match tkOf k, pairsT l with
    | some q, some r => some ((q, d) :: r)
    | _, _ => none
  | _ :: _ => none
def putAllT (ps : TD) (acc : TD) : TD := ps.foldl (fun a p => putT a p.1 p.2) acc
section
variable {K : PySem.W.Frag} {M : Addr → Prop} {mu : List Addr} {H : Hp} {S : Sto}
theorem pairs_ok : ∀ {l : List D} {vs : List V} {ps : TD}, Rs K M mu H l vs → pairsT l = some ps → ∃ (Ts : List Addr) (qs : List TP), vs = Ts.map V.ref ∧ Paired (fun T (p : TP) => SqT K H T [.ref p.2.1, p.2.2] ∧ H p.2.1 = some (.tup (p.1.map kV))) Ts qs ∧
    Paired (fun (p : List Key × D) (q : TP) => p.1 = q.1 ∧ R K M mu H p.2 q.2.2) ps qs
  | [], vs, ps, r, e => by
    obtain rfl : vs = [] := r
    obtain rfl : ([] : TD) = ps := Option.some.inj e
    exact ⟨[], [], rfl, .nil, .nil⟩
  | x :: l, vs, ps, r, e => by
    unfold pairsT at e
    split at e
    · rename_i e0
      cases e0
    · rename_i k d l' e0
      injection e0 with e1 e2
      subst e1 e2
      split at e
      · rename_i q rr e3 e4
        obtain rfl := Option.some.inj e
        obtain ⟨v, us, rfl, ⟨T, ws, rfl, hT, hw⟩, ht⟩ := r
        obtain ⟨v1, v2, rfl, r1, r2⟩ := hw.two
        obtain ⟨b, rfl, hb⟩ := tk_ok r1 e3
        obtain ⟨Ts, qs, rfl, h1, h2⟩ := pairs_ok ht e4
        exact ⟨T :: Ts, (q, b, v2) :: qs, rfl, .cons ⟨SqT.of hT, hb⟩ h1, .cons ⟨rfl, r2⟩ h2⟩
      · cases e
    · cases e
theorem rt_putAll : ∀ {ps : TD} {qs : List TP} {acc : TD} {es : List (List Key × V)}, Paired (fun (p : List Key × D) (q : TP) => p.1 = q.1 ∧ R K M mu H p.2 q.2.2) ps qs → es.map (·.1) = acc.map (·.1) → Rt K M mu H acc (es.map (·.2)) →
    (putAll qs es).map (·.1) = (putAllT ps acc).map (·.1) ∧ Rt K M mu H (putAllT ps acc) ((putAll qs es).map (·.2))
  | [], _, _, _, .nil, h, r => ⟨h, r⟩
  | p :: ps, q :: qs, acc, es, .cons ⟨e, rq⟩ t, h, r => by
    obtain ⟨h1, h2⟩ := rt_put rq p.1 h r
    rw [e] at h1 h2
    have := rt_putAll (acc := putT acc q.1 p.2) (es := putK es q.1 q.2.2) t h1 h2
    rw [← e] at this
    rw [show putAll (q :: qs) es = putAll qs (putK es p.1 q.2.2) from by rw [e]; rfl]
    exact this
end
def wDictPT (w : DWA) : DW := fun ρ S P E => w ρ S (fun xs S1 => match xs with
  | [x] => (match val S1 x with
    | .lst l => (match pairsT l with
      | some ps => P (.dt (putAllT ps [])) S1
      | none => False)
    | _ => False)
  | _ => False) E
theorem de_dictPT {X : Cx} {W : WX} {e : Expr} {es : List Expr} {w : DWA} {p pos : Pos} (hu : X.A.units + 64 < cLine) (hc : X.calm = true) (hm : X.mg "dict" = none) (ha : DA X W (e :: es) w) (hg : Gl X "dict" := by rfl)
    (he : starEach (e :: es) X.env = (false, eval e X.env) :: starEach es X.env := by rfl) (hpl : (backTo pos (starEach es X.env)).any (·.1) = false := by rfl) : DE X W (.Call (.Name "dict" p) (e :: es) [] pos) (wDictPT w) := by
  obtain ⟨_, pa, ra⟩ := ha.ex
  refine ⟨_, pe_frz (pe_callTy (call_dictPT hu hc) hg hm bt_dict pa (by decide) (by decide) he hpl), ⟨fun M mu σ ρ S H P E Q ok en hw n x => ?_⟩⟩
  refine ra.run M mu σ ρ S H _ E _ ok en hw (fun vs H1 ds S1 k1 ok1 r1 h1 => ?_) x
  match ds, r1, h1 with
  | [d], r1, h1 =>
    obtain ⟨v, rfl, rv⟩ := r1.one
    cases e1 : val S1 d with
    | lst l =>
      simp only [e1] at h1
      cases e2 : pairsT l with
      | none => simp only [e2] at h1
      | some ps =>
        simp only [e2] at h1
        obtain ⟨a, ys, rfl, hq, rq⟩ := seq_lst ok1 rv e1
        obtain ⟨Ts, qs, rfl, g1, g2⟩ := pairs_ok rq e2
        refine ⟨a, Ts, qs, rfl, SqL.of hq, g1, fun q hp => ⟨q, _, rfl, upd_same, True.intro, fun od => ?_⟩⟩
        obtain ⟨ok2, k2, _⟩ := ok1.alloc hp (.frz od (.dT (putAll qs [])))
        have eu : upd (upd H1 q (.dT (putAll qs []))) q (.frz od (.dT (putAll qs []))) = upd H1 q (.frz od (.dT (putAll qs []))) := by
          funext b
          by_cases e : b = q
          · rw [e, upd_same, upd_same]
          · rw [upd_ne e, upd_ne e, upd_ne e]
        rw [eu]
        have e0 := (ok1.ext k2).toExt0
        obtain ⟨h3, h4⟩ := rt_putAll (acc := []) (es := []) g2 rfl rfl
        exact n _ _ (.dt (putAllT ps [])) S1 (k1.trans k2) ok2 ⟨q, od, _, rfl, upd_same, h3, Rt.mono e0 _ _ h4⟩ h1
    | _ => simp only [e1] at h1
end DL
set_option maxRecDepth 100000
namespace DL
open PySem PySem.Spec PyProof.Rows L2
/-! ### own special methods: ==, in, len, truth, repr -/
section
variable {X : Cx} {k : Nat} {C : Addr} {m : Str} {ps : List Str} {sp : DSp} {f : Addr} {fd : FuncData}
/-- the method's code called from the frame A -/
theorem run_fnA {A : Around} {pins : List (Addr × Obj)} {σ : L2.St} {H : Hp} {s : Shared} {Q : VK} {E : XK} {us : List Value} {vs : List V} {sp : Sp} (F : FnOk X.prog X.w X.K X.mg X.base CX0 k f fd ps sp) (hr : Room k A) (e0 : Env0 X.prog X.w X.K X.mg X.base A X.stack s H) (hb : Binds X.K fd ps [])
    (I : Inv X pins σ H s) (r : Vals vs us) (h : sp vs H Q E) {Ef : Value → Shared → Prop} : wpAny (model X.prog X.w) A (call (.ref f) us) (EP X pins σ Q) Ef s := by
  have hl : us.length = ps.length := by rw [← r.length]; exact F.len _ _ _ _ h
  refine wpAny_call (codeAny_mono (F.run A X.stack s H ⟨us, []⟩ (us ++ []) vs Q E hr e0 (hb s us I.kIn (by rw [List.append_nil]; exact hl)) (by rw [List.append_nil]; exact r) h) fun r s' hq => ?_)
  cases r with
  | error e => exact hq.elim
  | ok fl =>
    cases fl with
    | ret u => exact I.after hq
    | next => exact False.elim hq
    | brk => exact False.elim hq
    | cont => exact False.elim hq
/-- the promise, put before a heap -/
abbrev spE (K : PySem.W.Frag) (sp : DSp) : List V → Hp → VK → Prop := fun vs H Q => toSp K sp vs H Q fun _ _ _ => False
theorem insAt {pins : List (Addr × Obj)} {σ : L2.St} {H : Hp} {s : Shared} {a dx : Addr} {fs : List (Str × V)} (I : Inv X pins σ H s) (ha : H a = some (.ins C dx fs)) : ∃ od, PySem.W.InstAt s.heap a (PySem.W.instObj C dx) C (some od) := by
  obtain ⟨mA, O, _⟩ := ins_get I.hok ha
  obtain ⟨od, J, _⟩ := O.look
  exact ⟨od, J⟩
/-- the right operand of an own ==: an instance of C, or a dict -/
inductive EqR (K : PySem.W.Frag) (C : Addr) (H : Hp) : V → Prop where
  | same {b dx : Addr} {fs : List (Str × V)} (e : H b = some (.ins C dx fs)) : EqR K C H (.ref b)
  | dict {b : Addr} {es : List (List Key × V)} (e : L2.Rd H b (.dT es)) (n : PySem.W.notFirst K C (.type "dict") = true) : EqR K C H (.ref b)
def rEqOwn (K : PySem.W.Frag) (C : Addr) (sp : DSp) : R2 := fun x y H Q => ∃ a dx fs, x = .ref a ∧ H a = some (.ins C dx fs) ∧ EqR K C H y ∧ spE K sp [x, y] H Q
theorem op_eqOwn (hr : Room k X.A) (F : FnOk X.prog X.w X.K X.mg X.base CX0 k f fd ps (toSp X.K sp)) (hb : Binds X.K fd ps []) (hm : Meth X.K C "__eq__" f) : OpR X (compareOp .Eq) (rEqOwn X.K C sp) := by
  intro pins s σ H x y v u Q I rx ry h
  obtain ⟨a, dx, fs, rfl, ha, hy, q⟩ := h
  cases (show v = Value.ref a from rx)
  obtain ⟨od, J⟩ := insAt I ha
  obtain ⟨mm, hF⟩ := I.fr
  have back : ∀ {b : Addr}, RelV (.ref b) u → spE X.K sp [.ref a, .ref b] H Q → wpAny (model X.prog X.w) X.A (call (.ref f) [.ref a, u]) (PySem.W.CmpBack (EP X pins σ Q)) X.xe s := fun {b} rb q => by
    refine wpAny_mono (run_fnA (us := [.ref a, u]) (vs := [.ref a, .ref b]) F hr I.env0 hb I (.cons rfl (.cons rb .nil)) q) (fun w s' z => ?_) fun _ _ x => x
    obtain ⟨z', H', I', rz, qz⟩ := z
    exact SlX.cmpback rz ⟨z', H', I', rz, qz⟩
  cases hy with
  | same e =>
    rename_i b dy gs
    obtain ⟨od', J'⟩ := insAt I e
    cases (show u = Value.ref b from ry)
    exact PySem.W.cmp_K (op := .Eq) (tb := .ref C) hr.units0 hF I.ok.mod.kin J J'.type (by unfold PySem.W.notFirst; rw [show (Value.ref C == Value.ref C) = true from beq_self_eq_true _]; rfl) hm.at_ hm.fn (back rfl q)
  | dict e hn =>
    rename_i b es
    cases (show u = Value.ref b from ry)
    obtain ⟨_, _, ys, _, ob, es', ep, hob, hx, _⟩ := dt_rd I.hok e
    have lk : PySem.W.Looks (model X.prog X.w) s.heap (typeOf (.ref b)) (.type "dict") := fun A Q E s' kk q => wpAny_typeOf (show s'.TypeIs (.ref b) "dict" from ⟨ob, kk _ _ hob, hx.1⟩) q
    exact PySem.W.cmp_K (op := .Eq) (tb := .type "dict") hr.units0 hF I.ok.mod.kin J lk hn hm.at_ hm.fn (back rfl q)
/-- y in x -/
def rInOwn (K : PySem.W.Frag) (C : Addr) (sp : DSp) : R2 := fun y x H Q => ∃ a dx fs, x = .ref a ∧ H a = some (.ins C dx fs) ∧ spE K sp [x, y] H fun z H' => ∃ b, z = .bl b ∧ Q (.bl b) H'
theorem op_inOwn (hr : Room k X.A) (F : FnOk X.prog X.w X.K X.mg X.base CX0 k f fd ps (toSp X.K sp)) (hb : Binds X.K fd ps []) (hm : Meth X.K C "__contains__" f) : OpR X (compareOp .In) (rInOwn X.K C sp) := by
  intro pins s σ H y x v u Q I ry rx h
  obtain ⟨a, dx, fs, rfl, ha, q⟩ := h
  cases (show u = Value.ref a from rx)
  obtain ⟨od, J⟩ := insAt I ha
  obtain ⟨mm, hF⟩ := I.fr
  refine PySem.W.in_K hF I.ok.mod.kin J hm.at_ hm.fn (wpAny_mono (run_fnA (us := [.ref a, v]) (vs := [.ref a, y]) F hr I.env0 hb I (.cons rfl (.cons ry .nil)) q) (fun w s' z => ?_) fun _ _ x => x)
  obtain ⟨z', H', I', rz, b, rfl, qz⟩ := z
  cases rz
  exact wpAny_truthy_bool ⟨.bl b, H', I', rfl, qz⟩
/-- len(x) -/
def rLenOwn (K : PySem.W.Frag) (C : Addr) (sp : DSp) : List V → Hp → VK → Prop := fun xs H Q => ∃ a dx fs, xs = [.ref a] ∧ H a = some (.ins C dx fs) ∧ spE K sp xs H fun z H' => ∃ n : Int, z = .int n ∧ (0 ≤ n ∧ n < 2 ^ 63) ∧ Q (.int n) H'
theorem call_lenOwn (hr : Room (k + 1) X.A) (F : FnOk X.prog X.w X.K X.mg X.base CX0 k f fd ps (toSp X.K sp)) (hb : Binds X.K fd ps []) (hm : Meth X.K C "__len__" f) : CallR X (.builtin "len") (rLenOwn X.K C sp) := by
  intro pins s σ H xs us Q I r h
  obtain ⟨a, dx, fs, rfl, ha, q⟩ := h
  obtain ⟨u, rfl, ru⟩ := r.one
  cases (show u = Value.ref a from ru)
  obtain ⟨od, J⟩ := insAt I ha
  obtain ⟨mm, hF⟩ := I.fr
  refine PySem.W.len_K hF I.ok.mod.kin J hm.at_ hm.fn (wpAny_mono (run_fnA (us := [.ref a]) (vs := [.ref a]) F hr.in1 I.env0.in1 hb I (.cons rfl .nil) q) (fun w s' z => ?_) fun _ _ x => x)
  obtain ⟨z', H', I', rz, n, rfl, hn, qz⟩ := z
  obtain ⟨t, rfl⟩ := (show ∃ t, w = Value.int n t from rz)
  exact ⟨hn, .int n, H', I'.tok _, ⟨_, rfl⟩, qz⟩
/-- repr(x) -/
def rReprOwn (K : PySem.W.Frag) (C : Addr) (sp : DSp) : List V → Hp → VK → Prop := fun xs H Q => ∃ a dx fs, xs = [.ref a] ∧ H a = some (.ins C dx fs) ∧ spE K sp xs H fun z H' => ∃ n : Str, z = .str n ∧ Q (.str n) H'
theorem call_reprOwn (hr : Room (k + 1) X.A) (F : FnOk X.prog X.w X.K X.mg X.base CX0 k f fd ps (toSp X.K sp)) (hb : Binds X.K fd ps []) (hm : Meth X.K C "__repr__" f) : CallR X (.builtin "repr") (rReprOwn X.K C sp) := by
  intro pins s σ H xs us Q I r h
  obtain ⟨a, dx, fs, rfl, ha, q⟩ := h
  obtain ⟨u, rfl, ru⟩ := r.one
  cases (show u = Value.ref a from ru)
  obtain ⟨od, J⟩ := insAt I ha
  obtain ⟨mm, hF⟩ := I.fr
  refine PySem.W.repr_K hr.in1.units0 hF I.ok.mod.kin J hm.at_ hm.fn (wpAny_mono (run_fnA (us := [.ref a]) (vs := [.ref a]) F hr.in1 I.env0.in1 hb I (.cons rfl .nil) q) (fun w s' z => ?_) fun _ _ x => x)
  obtain ⟨z', H', I', rz, n, rfl, qz⟩ := z
  obtain ⟨t, rfl⟩ := (show ∃ t, w = Value.str n t from rz)
  exact ⟨.str n, H', I', ⟨_, rfl⟩, qz⟩
end
end DL
set_option maxRecDepth 100000
namespace DL
open PySem PySem.Spec PyProof.Rows L2
/-! ### own special methods, told of trees -/
def isObjD (C : Addr) (S : Sto) (x : D) : Prop := match val S x with
  | .obj C' _ => C' = C
  | _ => False
def isEqR (C : Addr) (S : Sto) (x : D) : Prop := match val S x with
  | .obj C' _ => C' = C
  | .dt _ => True
  | _ => False
section
variable {K : PySem.W.Frag} {M : Addr → Prop} {mu : List Addr} {H : Hp} {S : Sto} {C : Addr} {sp : DSp}
theorem isObj_ok (ok : Wok K M mu H S) {x : D} {v : V} (r : R K M mu H x v) (h : isObjD C S x) : ∃ a dx fs, v = .ref a ∧ H a = some (.ins C dx fs) := by
  unfold isObjD at h
  cases e : val S x with
  | obj C' fs =>
    rw [e] at h
    obtain rfl : C' = C := h
    obtain ⟨a, dx, gs, rfl, ha, _⟩ := obj_at ok r e
    exact ⟨a, dx, gs, rfl, ha⟩
  | _ => rw [e] at h; exact h.elim
theorem isEqR_ok (hn : PySem.W.notFirst K C (.type "dict") = true) (ok : Wok K M mu H S) {x : D} {v : V} (r : R K M mu H x v) (h : isEqR C S x) : EqR K C H v := by
  unfold isEqR at h
  cases e : val S x with
  | obj C' fs =>
    rw [e] at h
    obtain rfl : C' = C := h
    obtain ⟨a, dx, gs, rfl, ha, _⟩ := obj_at ok r e
    exact .same ha
  | dt es =>
    obtain ⟨a, es', rfl, hd, _⟩ := dt_at ok r e
    exact .dict hd hn
  | _ => rw [e] at h; exact h.elim
theorem rs_1 {d : D} {v : V} (r : R K M mu H d v) : Rs K M mu H [d] [v] := ⟨v, [], rfl, r, rfl⟩
theorem rs_2 {d e : D} {v u : V} (r : R K M mu H d v) (q : R K M mu H e u) : Rs K M mu H [d, e] [v, u] := ⟨v, [u], rfl, r, u, [], rfl, q, rfl⟩
theorem spE_of (ok : Wok K M mu H S) {ds : List D} {vs : List V} (r : Rs K M mu H ds vs) {P : DK} {Q : VK} (h : sp ds S P EF) (n : Nrm K M mu H P Q) : spE K sp vs H Q := ⟨M, mu, S, ds, P, EF, ok, r, h, n, fun _ _ _ _ _ _ _ _ _ h => h.elim⟩
def eqOwnD (C : Addr) (sp : DSp) : DF2 := fun x y S P => isObjD C S x ∧ isEqR C S y ∧ sp [x, y] S P EF
theorem opd_eqOwn (hn : PySem.W.notFirst K C (.type "dict") = true) : OpD K (rEqOwn K C sp) (eqOwnD C sp) := by
  intro M mu H S x y v u P Q ok rx ry h n
  obtain ⟨a, dx, fs, rfl, ha⟩ := isObj_ok ok rx h.1
  exact ⟨a, dx, fs, rfl, ha, isEqR_ok hn ok ry h.2.1, spE_of ok (rs_2 rx ry) h.2.2 n⟩
def blP (P : DK) : DK := fun z S => match z with
  | .bl b => P (.bl b) S
  | _ => False
def inOwnD (C : Addr) (sp : DSp) : DF2 := fun y x S P => isObjD C S x ∧ sp [x, y] S (blP P) EF
theorem opd_inOwn : OpD K (rInOwn K C sp) (inOwnD C sp) := by
  intro M mu H S y x u v P Q ok ry rx h n
  obtain ⟨a, dx, fs, rfl, ha⟩ := isObj_ok ok rx h.1
  refine ⟨a, dx, fs, rfl, ha, spE_of ok (rs_2 rx ry) h.2 fun z H' d S' k ok' r' h' => ?_⟩
  cases d with
  | bl b =>
    obtain rfl : z = .bl b := r'
    exact ⟨b, rfl, n _ H' (.bl b) S' k ok' rfl h'⟩
  | _ => exact h'.elim
def lenP (P : DK) : DK := fun z S => match z with
  | .int i => (0 ≤ i ∧ i < 1000000000) ∧ P (.int i) S
  | _ => False
def lenOwnD (C : Addr) (sp : DSp) : DFn := fun xs S P => match xs with
  | [x] => isObjD C S x ∧ sp [x] S (lenP P) EF
  | _ => False
theorem calld_lenOwn : CallD K (rLenOwn K C sp) (lenOwnD C sp) := by
  intro M mu H S xs vs P Q ok r h n
  unfold lenOwnD at h
  split at h
  · rename_i x
    obtain ⟨v, rfl, rv⟩ := r.one
    obtain ⟨a, dx, fs, rfl, ha⟩ := isObj_ok ok rv h.1
    refine ⟨a, dx, fs, rfl, ha, spE_of ok (rs_1 rv) h.2 fun z H' d S' k ok' r' h' => ?_⟩
    cases d with
    | int b =>
      obtain rfl : z = .int b := r'
      have e63 : (2 : Int) ^ 63 = 9223372036854775808 := by decide
      have h1 : (0 ≤ b ∧ b < 1000000000) ∧ P (.int b) S' := h'
      exact ⟨b, rfl, ⟨h1.1.1, by rw [e63]; have := h1.1.2; omega⟩, n _ H' (.int b) S' k ok' rfl h1.2⟩
    | _ => exact h'.elim
  · exact h.elim
def strP (P : DK) : DK := fun z S => match z with
  | .str i => P (.str i) S
  | _ => False
def reprOwnD (C : Addr) (sp : DSp) : DFn := fun xs S P => match xs with
  | [x] => isObjD C S x ∧ sp [x] S (strP P) EF
  | _ => False
theorem calld_reprOwn : CallD K (rReprOwn K C sp) (reprOwnD C sp) := by
  intro M mu H S xs vs P Q ok r h n
  unfold reprOwnD at h
  split at h
  · rename_i x
    obtain ⟨v, rfl, rv⟩ := r.one
    obtain ⟨a, dx, fs, rfl, ha⟩ := isObj_ok ok rv h.1
    refine ⟨a, dx, fs, rfl, ha, spE_of ok (rs_1 rv) h.2 fun z H' d S' k ok' r' h' => ?_⟩
    cases d with
    | str b =>
      obtain rfl : z = .str b := r'
      exact ⟨b, rfl, n _ H' (.str b) S' k ok' rfl h'⟩
    | _ => exact h'.elim
  · exact h.elim
end
/-! the truth of an instance -/
section
variable {X : Cx} {W : WX} {C : Addr} {k : Nat} {ps : List Str} {sp : DSp} {f : Addr} {fd : FuncData} {e : Expr} {we : DW}
def truP (P : Bool → Sto → Prop) : DK := fun z S => match z with
  | .bl b => P b S
  | _ => False
def wTruOwn (C : Addr) (sp : DSp) (we : DW) : DWT := fun ρ S P E => we ρ S (fun x S1 => isObjD C S1 x ∧ sp [x] S1 (truP P) EF) E
theorem dt_truOwn (hr : Room k X.A) (F : FnOk X.prog X.w X.K X.mg X.base CX0 k f fd ps (toSp X.K sp)) (hb : Binds X.K fd ps []) (hm : Meth X.K C "__bool__" f) (he : DE X W e we)
    (ht : ∀ whole, isTrue e X.env whole = (do let v ← whole; standAt e.pos; holding [v] (truthy v)) := by intro _; rfl) : DT X W e (wTruOwn C sp we) := by
  obtain ⟨t, p, r⟩ := he.ex
  refine ⟨fun σ H Q => t σ H fun v H1 => ∃ a dx fs, v = .ref a ∧ H1 a = some (.ins C dx fs) ∧ spE X.K sp [.ref a] H1 fun z H2 => ∃ b, z = .bl b ∧ Q b H2, ⟨fun pins s σ H Q I h => ?_⟩, ⟨fun M mu σ ρ S H P E Q ok en hw n x => ?_⟩⟩
  · refine isTrue_plain (thn (p.run pins s σ H _ I h) fun u s1 ⟨x, H1, I1, rx, a, dx, fs, ex, ha, q⟩ => ?_) (ht _)
    subst ex
    cases (show u = Value.ref a from rx)
    obtain ⟨od, J⟩ := insAt I1 ha
    obtain ⟨mm, hF⟩ := I1.fr
    refine PySem.W.truthy_K hF I1.ok.mod.kin J hm.at_ hm.fn (wpAny_mono (run_fnA (us := [.ref a]) (vs := [.ref a]) F hr I1.env0 hb I1 (.cons rfl .nil) q) (fun w s' z => ?_) fun _ _ x => x)
    obtain ⟨z', H', I', rz, b, rfl, qz⟩ := z
    cases rz
    exact ⟨H', I', qz⟩
  · refine r.run M mu σ ρ S H _ E _ ok en hw (fun v H1 d S1 k1 ok1 r1 h1 => ?_) x
    obtain ⟨a, dx, fs, rfl, ha⟩ := isObj_ok ok1 r1 h1.1
    refine ⟨a, dx, fs, rfl, ha, spE_of ok1 (rs_1 r1) h1.2 fun z H' d' S' k' ok' r' h' => ?_⟩
    cases d' with
    | bl b =>
      obtain rfl : z = .bl b := r'
      exact ⟨b, rfl, n b H' S' (k1.trans k') ok' h'⟩
    | _ => exact h'.elim
end
end DL
set_option maxRecDepth 100000
namespace DL
open PySem PySem.Spec PySem.W PyProof.Rows PyProof.V
/-! ### == of two dicts whose keys are objects (the road of KE.KEqDict, the keys found by their objects) -/
section
variable {prog : Program} {w : World} {K : Type} [DecidableEq K] {knd : HeapKind prog w K} {A : Around} {E : Value → Shared → Prop} {s : Shared}
/-- what the second dict says at the first one's keys -/
inductive HitsH (A : Around) (s : Shared) (xb : List (K × Addr × Value)) : List (K × Addr × Value) → Bool → Prop
  | nil : HitsH A s xb [] true
  | miss {k : K} {a : Addr} {v : Value} {r : List (K × Addr × Value)} : atKey xb k = none → HitsH A s xb ((k, a, v) :: r) false
  | hit {k : K} {a : Addr} {v : Value} {p : Addr × Value} {r : List (K × Addr × Value)} {e b : Bool} : atKey xb k = some p → SeqAt.EqAt A s v p.2 e → HitsH A s xb r b → HitsH A s xb ((k, a, v) :: r) (e && b)
theorem samePairs_H {nm : String} {a b : Addr} {xa xb : List (K × Addr × Value)} {r : Bool} {Q : Bool → Shared → Prop} (hu : knd.room A) (ha : (a == sysModules) = false) (hb : (b == sysModules) = false)
    (da : s.heap.DictOfH knd a xa) (db : s.heap.DictOfH knd b xb) (hits : xa.length = xb.length → HitsH A s xb xa r) (h : Q (xa.length == xb.length && r) s) : wpAny (model prog w) A (Builtin.Dict.samePairs nm a b) Q E s := by
  obtain ⟨oa, es, ep, hoa, _, hda, hea, hia, hna⟩ := da
  obtain ⟨ob, es', ep', hob, _, hdb, heb, hib, hnb⟩ := db
  have hla : xa.length = es.size := (size_of_entries hea).symm
  have hlb : xb.length = es'.size := (size_of_entries heb).symm
  rw [hla, hlb] at h
  unfold Builtin.Dict.samePairs Builtin.Dict.showsAll
  rw [if_neg (by rw [ha]; exact Bool.false_ne_true), if_neg (by rw [hb]; exact Bool.false_ne_true)]
  refine wpAny_bind (wpAny_pure (wpAny_bind (wpAny_pure (wpAny_bind (wpAny_dictEntries hoa hda ?_)))))
  dsimp only
  refine wpAny_bind (wpAny_dictEntries hob hdb ?_)
  by_cases hsz : es.size = es'.size
  case neg =>
    rw [if_pos (by simpa using hsz)]
    rw [show (es.size == es'.size) = false by simpa using hsz, Bool.false_and] at h
    exact wpAny_bind (wpAny_rule (wpAny_pure h))
  case pos =>
    have h' : Q r s := by simpa [hsz] using h
    rw [if_neg (by rw [hsz]; simp)]
    refine wpAny_bind (wpAny_dictEpoch hoa hda (wpAny_bind ?_))
    rw [Std.Legacy.Range.forIn_eq_forIn_range']
    simp only [Std.Legacy.Range.size, Nat.sub_zero, Nat.add_sub_cancel, Nat.div_one]
    refine wpAny_forIn_list _ (fun rest q s' => s' = s ∧ q = (none, ()) ∧ ∃ i, rest = List.range' i (es.size - i) ∧ i ≤ es.size ∧ HitsH A s xb (xa.drop i) r) _ ?_ ?_ _ _ ⟨rfl, rfl, 0, by simp, Nat.zero_le _, hits (by rw [hla, hlb]; exact hsz)⟩
    · rintro x rest q s' ⟨rfl, rfl, i, hr, hi, hpre⟩
      have hlt : i < es.size := by
        refine Nat.lt_of_not_le fun z => ?_
        rw [Nat.sub_eq_zero_of_le z] at hr
        simp at hr
      obtain ⟨rfl, hrest⟩ : x = i ∧ rest = List.range' (i + 1) (es.size - (i + 1)) := by
        rw [show es.size - i = (es.size - (i + 1)) + 1 by omega, List.range'_succ] at hr
        injection hr with h1 h2
        exact ⟨h1, h2⟩
      have hlt' : x < xa.length := by rw [hla]; exact hlt
      obtain ⟨k, c, v, hkv⟩ : ∃ k c v, xa[x] = (k, c, v) := ⟨_, _, _, rfl⟩
      have hmem : (k, c, v) ∈ xa := by rw [← hkv]; exact List.getElem_mem hlt'
      rw [List.drop_eq_getElem_cons hlt', hkv] at hpre
      refine wpAny_bind (wpAny_dictEntries hoa hda ?_)
      rw [entry_at hea x, List.getElem?_eq_getElem hlt', hkv]
      show wpAny _ _ (holding [Value.ref c, v] _ >>= _) _ _ _
      refine wpAny_bind (wpAny_holding (wpAny_bind (wpAny_dictFind_heap hu (hia _ hmem) hob hdb heb hib hnb (fun hno => ?_) fun j p hj => ?_)))
      · have hn := atKey_none_of_get hno
        cases hpre with
        | miss _ =>
          refine wpAny_pure ?_
          show wpAny _ _ (if (!false) = true then _ else _) _ _ _
          rw [if_pos (by decide)]
          exact wpAny_pure (wpAny_pure h')
        | hit hy _ _ => rw [hn] at hy; cases hy
      · have hat := atKey_of_get hnb hj
        refine wpAny_bind (wpAny_dictEntries hob hdb ?_)
        rw [entry_at heb j, hj]
        cases hpre with
        | miss hn => rw [hat] at hn; cases hn
        | @hit _ _ _ p' _ e b' hy he hrr =>
          obtain rfl : p = p' := Option.some.inj (hat.symm.trans hy)
          refine wpAny_holding (he prog w _ _ ?_)
          cases e with
          | false =>
            show wpAny _ _ (if (!false) = true then _ else _) _ _ _
            rw [if_pos (by decide)]
            exact wpAny_pure (wpAny_pure h')
          | true =>
            show wpAny _ _ (if (!true) = true then _ else _) _ _ _
            rw [if_neg (by decide)]
            refine wpAny_bind (wpAny_dictEpoch hoa hda ?_)
            rw [if_neg (by simp)]
            exact wpAny_pure ⟨rfl, rfl, x + 1, hrest, hlt, by simpa using hrr⟩
    · rintro q s' ⟨rfl, rfl, i, hr, hi, hpre⟩
      have hin : i = es.size := by
        refine Nat.le_antisymm hi (Nat.le_of_not_lt fun z => ?_)
        rw [show es.size - i = (es.size - (i + 1)) + 1 by omega, List.range'_succ] at hr
        cases hr
      refine wpAny_pure ?_
      rw [hin, ← hla, List.drop_length] at hpre
      cases hpre
      exact h'
theorem eq_dictsH {a b : Addr} {xa xb : List (K × Addr × Value)} {r : Bool} {Q : Value → Shared → Prop} (ha : (a == sysModules) = false) (hb : (b == sysModules) = false)
    (da : s.heap.DictOfH knd a xa) (db : s.heap.DictOfH knd b xb) (hu : A.units < cLine) (hr : knd.room A.in1) (hits : xa.length = xb.length → HitsH A.in1 s xb xa r) (h : Q (.bool (xa.length == xb.length && r)) s) : wpAny (model prog w) A (compareOp .Eq (.ref a) (.ref b)) Q E s := by
  refine wpAny_richCompare_same_room (op := .Eq) da.typeIs db.typeIs PySem.F.slot_dict_eq (wpAny_call_entry PySem.F.slot_dict_eq da.typeIs PySem.F.entry_dict_eq ?_ (PySem.F.args_dict_eq_2 _ _)) hu
  show wpAny _ _ (Builtin.Dict.dictSlotArgs "__eq__" ⟨[.ref a, .ref b], []⟩ >>= _) _ _ s
  unfold Builtin.Dict.dictSlotArgs
  refine wpAny_bind (wpAny_bind (wpAny_notOrdered_dict da.typeIs (wpAny_pure ?_)))
  refine wpAny_bind (wpAny_isInstance (T := "dict") db.typeIs PySem.F.sub_dict_dict ?_)
  simp only [Bool.not_true, Bool.false_eq_true, if_false]
  refine wpAny_bind (wpAny_pure (wpAny_bind (wpAny_pure (wpAny_bind (samePairs_H hr ha hb da db hits (wpAny_pure ⟨_, rfl, (fun x => nomatch x), by simpa using h⟩))))))
end
end DL
set_option maxRecDepth 100000
namespace DL
open PySem PySem.Spec PyProof.Rows L2
/-! ### dict == dict, tuple keys, values of plain data -/
abbrev TPy := List (List Key × PyData)
def lookP (ps : TPy) (k : List Key) : Option PyData := (ps.find? fun e => decide (e.1 = k)).map (·.2)
def eqTab (pa pb : TPy) : Bool := pa.length == pb.length && pa.all fun p => match lookP pb p.1 with
  | some q => PyData.eqv p.2 q
  | none => false
abbrev PT2 (K : PySem.W.Frag) (H : Hp) (es : List (List Key × V)) (ps : TPy) : Prop := Paired (fun (e : List Key × V) (p : List Key × PyData) => e.1 = p.1 ∧ Dp K H e.2 p.2) es ps
theorem look_pt {K : PySem.W.Frag} {H : Hp} (k : List Key) : ∀ {es : List (List Key × V)} {ps : TPy}, PT2 K H es ps → (valV es k = none ∧ lookP ps k = none) ∨ ∃ v p, valV es k = some v ∧ lookP ps k = some p ∧ Dp K H v p
  | [], [], .nil => .inl ⟨rfl, rfl⟩
  | e :: es, p :: ps, .cons ⟨h1, h2⟩ t => by
    by_cases hk : e.1 = k
    · exact .inr ⟨e.2, p.2, valV_pos hk, by simp [lookP, List.find?_cons, ← h1, hk], h2⟩
    · rw [valV_neg hk, show lookP (p :: ps) k = lookP ps k by simp [lookP, List.find?_cons, ← h1, hk]]
      exact look_pt k t
def rEqDt (K : PySem.W.Frag) : R2 := fun x y H Q => ∃ a b ea eb pa pb, x = .ref a ∧ y = .ref b ∧ L2.Rd H a (.dT ea) ∧ L2.Rd H b (.dT eb) ∧ PT2 K H ea pa ∧ PT2 K H eb pb ∧ (pa.all fun p => SeqAt.shaped p.2) = true ∧ (pb.all fun p => SeqAt.shaped p.2) = true ∧ Q (.bl (eqTab pa pb)) H
theorem lookP_shaped : ∀ {ps : TPy} {k : List Key} {q : PyData}, (ps.all fun p => SeqAt.shaped p.2) = true → lookP ps k = some q → SeqAt.shaped q = true := fun {ps k q} h e => by
  unfold lookP at e
  obtain ⟨p, h1, rfl⟩ := Option.map_eq_some_iff.mp e
  exact List.all_eq_true.mp h p (List.mem_of_find?_eq_some h1)
theorem hits_dt {X : Cx} {pins : List (Addr × Obj)} {σ : L2.St} {H : Hp} {s : Shared} (hu : X.A.units + 66 < cLine) (I : Inv X pins σ H s) {eb : List (List Key × V)} {xb : List (List Key × Addr × Value)} {pb : TPy} (kb : KT H eb xb) (hb : PT2 X.K H eb pb) (sb : (pb.all fun p => SeqAt.shaped p.2) = true) :
    ∀ {ea : List (List Key × V)} {xa : List (List Key × Addr × Value)} {pa : TPy}, KT H ea xa → PT2 X.K H ea pa → (pa.all fun p => SeqAt.shaped p.2) = true → HitsH X.A.in1 s xb xa (pa.all fun p => match lookP pb p.1 with
      | some q => PyData.eqv p.2 q
      | none => false)
  | [], [], [], .nil, .nil, _ => .nil
  | e :: ea, ⟨k, c, v⟩ :: xa, p :: pa, .cons ⟨h1, h2, h3⟩ t, .cons ⟨g1, g2⟩ t', sa => by
    rw [List.all_cons] at sa
    obtain ⟨sa1, sa2⟩ := and_tt sa
    have ih := hits_dt hu I kb hb sb t t' sa2
    rw [List.all_cons]
    have ek : p.1 = k := g1.symm.trans h1
    have rel := kb.val k
    rcases look_pt k hb with ⟨q1, q2⟩ | ⟨u, q, q1, q2, q3⟩
    · rw [ek, q2]
      refine .miss ?_
      rw [q1] at rel
      have z := RelO.none_of rel
      cases z2 : atKey xb k with
      | none => rfl
      | some y => rw [z2] at z; cases z
    · rw [ek, q2]
      rw [q1] at rel
      obtain ⟨w, hw, rw_⟩ := RelO.some_of rel
      obtain ⟨y, hy, rfl⟩ := Option.map_eq_some_iff.mp hw
      obtain ⟨as, r1⟩ := Dp.reads I p.2 e.2 v g2 h3
      obtain ⟨bs, r2⟩ := Dp.reads I q u y.2 q3 rw_
      exact .hit hy (PySem.W.keq_at r1 r2 sa1 (lookP_shaped sb q2) (by show X.A.units + 1 + 64 < cLine; omega)) ih
theorem op_eqDt {X : Cx} (hu : X.A.units + 66 < cLine) : OpR X (compareOp .Eq) (rEqDt X.K) := by
  intro pins s σ H x y v u Q I rx ry h
  obtain ⟨a, b, ea, eb, pa, pb, rfl, rfl, ha, hb, ga, gb, sa, sb, q⟩ := h
  cases (show v = Value.ref a from rx)
  cases (show u = Value.ref b from ry)
  obtain ⟨_, a0, xa, ka, da⟩ := dt_rd I.hok ha
  obtain ⟨_, b0, xb, kb, db⟩ := dt_rd I.hok hb
  have la : xa.length = pa.length := (Paired.length ka).symm.trans (Paired.length ga)
  have lb : xb.length = pb.length := (Paired.length kb).symm.trans (Paired.length gb)
  refine eq_dictsH a0 b0 da db (by omega) (show X.A.units + 1 < cLine by omega) (fun _ => hits_dt hu I kb gb sb ka ga sa) ?_
  rw [la, lb]
  exact ⟨.bl (eqTab pa pb), H, I, rfl, q⟩
/-! told of trees -/
def toPyT : TD → Option TPy
  | [] => some []
  | (k, d) :: es => match toPy d, toPyT es with
    | some p, some ps => some ((k, p) :: ps)
    | _, _ => none
theorem pt_of {K : PySem.W.Frag} {M : Addr → Prop} {mu : List Addr} {H : Hp} : ∀ {kvs : TD} {es : List (List Key × V)} {ps : TPy}, es.map (·.1) = kvs.map (·.1) → Rt K M mu H kvs (es.map (·.2)) → toPyT kvs = some ps → PT2 K H es ps
  | [], [], ps, _, _, e => by
    obtain rfl : ([] : TPy) = ps := Option.some.inj e
    exact .nil
  | [], _ :: _, _, h, _, _ => by cases h
  | _ :: _, [], _, h, _, _ => by cases h
  | (k1, d1) :: kvs, (k2, v2) :: es, ps, h, r, e => by
    obtain ⟨v, rr, e0, h1, h2⟩ := r
    injection e0 with e1 e2
    injection h with e3 e4
    obtain rfl : v2 = v := e1
    obtain rfl : k2 = k1 := e3
    unfold toPyT at e
    cases q1 : toPy d1 with
    | none => rw [q1] at e; cases e
    | some p =>
      cases q2 : toPyT kvs with
      | none => rw [q1, q2] at e; cases e
      | some qs =>
        rw [q1, q2] at e
        obtain rfl := Option.some.inj e
        exact .cons ⟨rfl, R.dp _ _ _ h1 q1⟩ (pt_of e4 (by rw [e2]; exact h2) q2)
def eqDt : DF2 := fun x y S P => match val S x, val S y with
  | .dt ea, .dt eb => (match toPyT ea, toPyT eb with
    | some pa, some pb => (pa.all fun p => SeqAt.shaped p.2) = true ∧ (pb.all fun p => SeqAt.shaped p.2) = true ∧ P (.bl (eqTab pa pb)) S
    | _, _ => False)
  | _, _ => False
theorem opd_eqDt {K : PySem.W.Frag} : OpD K (rEqDt K) eqDt := by
  intro M mu H S x y v u P Q ok rx ry h n
  unfold eqDt at h
  cases e1 : val S x with
  | dt ea =>
    cases e2 : val S y with
    | dt eb =>
      simp only [e1, e2] at h
      cases e3 : toPyT ea with
      | none => simp only [e3] at h
      | some pa =>
        cases e4 : toPyT eb with
        | none => simp only [e3, e4] at h
        | some pb =>
          simp only [e3, e4] at h
          obtain ⟨a, es, rfl, hd, hk, rv⟩ := dt_at ok rx e1
          obtain ⟨b, es', rfl, hd', hk', rv'⟩ := dt_at ok ry e2
          exact ⟨a, b, es, es', pa, pb, rfl, rfl, hd, hd', pt_of hk rv e3, pt_of hk' rv' e4, h.1, h.2.1, n _ H (.bl _) S (.refl _ _) ok rfl h.2.2⟩
    | _ => simp only [e1, e2] at h
  | _ => simp only [e1] at h
end DL
set_option maxRecDepth 100000
namespace DL
open PySem PySem.Spec PyProof.Rows
/-! ### sorted(list of tuples of ints of any sign): the rank is the kit's code of the ints moved up -/
def up (B : Int) (ns : List Int) : List Int := ns.map (· + B)
def rkS (B : Int) (ns : List Int) : Int := TS.code (2 * B) (up B ns)
def SBd (B : Int) (ns : List Int) : Prop := ∀ m, m ∈ ns → -B ≤ m ∧ m < B
theorem SBd.up {B : Int} {ns : List Int} (h : SBd B ns) : TS.Bd (2 * B) (up B ns) := fun m hm => by
  obtain ⟨z, hz, rfl⟩ := List.mem_map.mp hm
  have := h z hz
  omega
theorem SBd.tl {B d : Int} {r : List Int} (h : SBd B (d :: r)) : SBd B r := fun m hm => h m (List.mem_cons_of_mem _ hm)
theorem rk_lt {B d e : Int} {r q : List Int} (hl : r.length = q.length) (hr : SBd B r) (hq : SBd B q) (h : d < e) : rkS B (d :: r) < rkS B (e :: q) :=
  TS.code_lt (d := d + B) (e := e + B) (by simp [up, hl]) hr.up hq.up (by omega)
theorem rk_same {B d : Int} {r q : List Int} (hl : r.length = q.length) : rkS B (d :: r) < rkS B (d :: q) ↔ rkS B r < rkS B q :=
  TS.code_same (d := d + B) (by simp [up, hl])
def TupsS (h : Heap) (d : Nat) (B : Int) (vs : List Value) : Prop := ∀ v, v ∈ vs → ∃ ns, TS.TupInts h v ns ∧ ns.length = d ∧ SBd B ns
theorem TupsS.keeps {h h' : Heap} {d : Nat} {B : Int} {vs : List Value} (x : TupsS h d B vs) (k : ∀ b o, h.get? b = some o → o.cls = .type "tuple" → h'.get? b = some o) : TupsS h' d B vs := fun v hv =>
  have ⟨ns, t, r⟩ := x v hv
  ⟨ns, t.keeps k, r⟩
section
variable {prog : Program} {w : World} {A : Around} {E : Value → Shared → Prop} {s : Shared}
theorem lexS {B : Int} {b : Bool} {Q : Bool → Shared → Prop} : ∀ {xs ys : List Value} {ns ms : List Int} (i : Nat), IntsAre xs ns → IntsAre ys ms → ns.length = ms.length → SBd B ns → SBd B ms → Q (decide (rkS B ns < rkS B ms)) s → PySem.W.KatLex prog w A b false Q (xs.zip ys) i s
  | _, _, _, _, i, .nil, .nil, _, _, _, h => PySem.W.kat_nil (by
      have e : decide (rkS B [] < rkS B []) = false := decide_eq_false (Int.lt_irrefl _)
      rw [← e]
      exact h)
  | _, _, _, _, i, .nil, .cons .., hl, _, _, _ => by simp at hl
  | _, _, _, _, i, .cons .., .nil, hl, _, _, _ => by simp at hl
  | _, _, _, _, i, .cons p t (ns := ns) hx, .cons q u (ns := ms) hy, hl, h1, h2, h => by
    have hl' : ns.length = ms.length := by simpa using hl
    refine PySem.W.kat_cons (wpAny_eqBool_int ?_)
    by_cases e : p = q
    · subst e
      rw [beq_self_eq_true]
      refine PySem.W.kat_yes (lexS (i + 1) hx hy hl' h1.tl h2.tl ?_)
      rw [← decide_eq_decide.mpr (rk_same (d := p) hl')]
      exact h
    · rw [show (p == q) = false from beq_eq_false_iff_ne.mpr e]
      refine PySem.W.kat_no (TS.oneLt_ints _ ?_)
      have d : decide (rkS B (p :: ns) < rkS B (q :: ms)) = decide (p < q) := decide_eq_decide.mpr ⟨fun x => (by
        rcases Int.lt_trichotomy p q with y | y | y
        · exact y
        · exact absurd y e
        · have := rk_lt hl'.symm h2.tl h1.tl y
          omega), fun x => rk_lt hl' h1.tl h2.tl x⟩
      rw [← d]
      exact h
theorem firstsS {h : Heap} {d : Nat} {B : Int} (hd : 1 ≤ d) : ∀ vs : List Value, TupsS h d B vs → ∃ fs, PySem.W.KatTups h vs fs ∧ fs.length = vs.length ∧ ∀ f, f ∈ fs → ∃ n t, f = Value.int n t
  | [], _ => ⟨[], .nil, rfl, fun f hf => by simp at hf⟩
  | v :: vs, x => by
    obtain ⟨fs, k, hl, hi⟩ := firstsS hd vs fun u hu => x u (List.mem_cons_of_mem _ hu)
    obtain ⟨ns, ⟨a, xs, rfl, ⟨o, ho, hc, n, hdt⟩, i⟩, hn, _⟩ := x v (List.mem_cons_self ..)
    cases q : xs.toList with
    | nil =>
      have l := i.length
      rw [q, List.length_nil, hn] at l
      omega
    | cons y ys =>
      obtain ⟨m, t, hy⟩ := i.all y (by rw [q]; exact List.mem_cons_self ..)
      have hz : xs[0]? = some y := by
        have z := congrArg (fun l : List Value => l[0]?) q
        simpa using z
      exact ⟨y :: fs, .cons ho hc hdt hz k, by simp [hl], fun f hf => (List.mem_cons.mp hf).elim (fun e => ⟨m, t, e.trans hy⟩) (hi f)⟩
theorem kindS {d : Nat} {B : Int} {vs : List Value} (hd : 1 ≤ d) (h2 : 2 ≤ vs.length) (x : TupsS s.heap d B vs) (r : Value → Int) (hr : ∀ v, v ∈ vs → ∀ ns, TS.TupInts s.heap v ns → r v = rkS B ns) (Q : SortKind → Shared → Prop)
    (h : ∀ κ, TS.Cmp prog w A s κ (pairsOf vs) r → Q κ s) : wpAny (model prog w) A (keyKind' vs.toArray) Q E s := by
  obtain ⟨fs, k, hl, hi⟩ := firstsS hd vs x
  refine PySem.W.kat_kind (T := Value.type "int") k (by omega) (fun f hf => ?_) rfl (h _ fun p q hp hq Q' E' hQ => ?_)
  · obtain ⟨n, t, rfl⟩ := hi f hf
    exact PySem.W.Looks.of_pure rfl
  · rw [pairsOf_toList] at hp hq
    obtain ⟨ns, tp, lp, bp⟩ := x _ (mem_zip_self hp).2
    obtain ⟨ms, tq, lq, bq⟩ := x _ (mem_zip_self hq).2
    have hQ' : Q' (decide (rkS B ns < rkS B ms)) s := by
      rw [← hr _ (mem_zip_self hp).2 _ tp, ← hr _ (mem_zip_self hq).2 _ tq]
      exact hQ
    obtain ⟨a, xs, e1, ⟨o, ho, hc, n, hdt⟩, i⟩ := tp
    obtain ⟨a', ys, e2, ⟨o', ho', hc', n', hdt'⟩, i'⟩ := tq
    rw [e1, e2]
    refine PySem.W.kat_lt ho hdt ho' hdt' ?_
    have l1 := i.length
    have l2 := i'.length
    rw [Array.length_toList] at l1 l2
    rw [show decide (xs.size < ys.size) = false from decide_eq_false (by omega)]
    exact lexS 0 i i' (by omega) bp bq hQ'
theorem sortS {a : Addr} {vs : List Value} {n d : Nat} {B : Int} {P : PySem.Fin → Shared → Prop} (ho : s.heap.get? a = some (seqObj "list" vs.toArray n)) (h64 : vs.length < 64) (hd : 1 ≤ d) (x : TupsS s.heap d B vs)
    (r : Value → Int) (hr : ∀ v, v ∈ vs → ∀ ns, TS.TupInts s.heap v ns → r v = rkS B ns) (h : ∀ out : Array Value, out.toList.Perm vs → out.toList.Pairwise (fun u v => r u ≤ r v) → P (.done (.ret .none)) { s with heap := sortedHeap s.heap a vs out }) :
    wpAny (model prog w) A (Builtin.«list.sort» ⟨[.ref a], []⟩) P E s := by
  have keep : ∀ b o, s.heap.get? b = some o → o.cls = .type "tuple" → (TS.midHeap s.heap a vs).get? b = some o := fun b o e hc => by
    refine TS.midHeap_old (fun z => ?_) e
    subst z
    rw [ho] at e
    cases e
    injection hc with c
    exact absurd c (by decide)
  refine SK.plain_sort (r := r) ho h64 (fun h2 Q hQ => kindS (s := { s with heap := TS.midHeap s.heap a vs }) hd h2 (x.keeps keep) r (fun v hv ns t => ?_) Q hQ) fun ps out h1 h2 h3 => ?_
  · obtain ⟨ns0, t0, _⟩ := x v hv
    rw [t.ints.symm.trans (t0.keeps keep).ints]
    exact hr v hv ns0 t0
  · obtain ⟨p, o⟩ := TS.out_rank h1 h2 h3
    exact h out p o
end
end DL
set_option maxRecDepth 100000
namespace DL
open PySem PySem.Spec PyProof.Rows
section
variable {prog : Program} {w : World} {A : Around} {E : Value → Shared → Prop} {s : Shared}
/-- sorted(xs) -/
theorem sortedS {l : Addr} {vs : List Value} {d : Nat} {B : Int} {Q : Value → Shared → Prop} (hl : s.heap.IsList l vs.toArray) (h64 : vs.length < 64) (hd : 1 ≤ d) (x : TupsS s.heap d B vs)
    (h : ∀ out : Array Value, out.toList.Perm vs → out.toList.Pairwise (fun u v => rkS B (TS.intsOf s.heap u) ≤ rkS B (TS.intsOf s.heap v)) → Q (.ref (s.heap.objs.size + 1)) { s with heap := sortedAll s.heap vs out }) : wpAny (model prog w) A (call (.builtin "sorted") [.ref l]) Q E s := by
  refine Calls.call_function_entry kind_sorted plain_sorted entry_sorted (args_sorted1 _) ?_
  unfold Builtin.«sorted»
  refine wpAny_bind (m := checkCount "sorted" 1 1 _) (wpAny_pure (wpAny_bind (collect_list hl (wpAny_bind (wpAny_newList ?_ (by rw [sizeLine_eq]; omega))) (by rw [sizeLine_eq]; omega))))
  have hsz : ((s.heap.push (seqObj "list" #[] 0)).update s.heap.objs.size (Obj.mapSeq (· ++ vs.toArray))).objs.size = s.heap.objs.size + 1 := by rw [Heap.size_update, size_push']
  generalize hg : (s.heap.push (seqObj "list" #[] 0)).update s.heap.objs.size (Obj.mapSeq (· ++ vs.toArray)) = g at hsz
  have hoL : (g.push (seqObj "list" vs.toArray 0)).get? (s.heap.objs.size + 1) = some (seqObj "list" vs.toArray 0) := by
    rw [← hsz]
    exact Heap.get?_push_size _ rfl
  have keep : ∀ b o, s.heap.get? b = some o → o.cls = .type "tuple" → (g.push (seqObj "list" vs.toArray 0)).get? b = some o := fun b o q _ => by
    have hlt := Heap.lt_size q
    rw [Heap.get?_push_ne _ _ _ (by rw [hsz]; exact Nat.ne_of_lt (Nat.lt_succ_of_lt hlt)), ← hg, Heap.get?_update_ne _ _ _ _ (Nat.ne_of_lt hlt), Heap.get?_push_ne _ _ _ (Nat.ne_of_lt hlt)]
    exact q
  show wpAny _ _ _ _ _ { s with heap := g.push (seqObj "list" vs.toArray 0) }
  dsimp only
  rw [hsz]
  refine wpAny_bind (wpAny_holding (wpAny_call_entry slot_list_sort ⟨_, hoL, rfl⟩ entry_list_sort (sortS hoL h64 hd (x.keeps keep) (fun v => rkS B (TS.intsOf s.heap v)) (fun v hv ns t => ?_) fun out a1 a2 => ⟨_, rfl, wpAny_pure ⟨_, rfl, ?_⟩⟩) (args_list_sort _)))
  · obtain ⟨ns0, t0, _⟩ := x v hv
    show rkS B (TS.intsOf s.heap v) = rkS B ns
    rw [t.ints.symm.trans (t0.keeps keep).ints, t0.ints]
  · have z := h out a1 a2
    unfold sortedAll at z
    rw [hg] at z
    exact z
end
open L2
/-- the ints of a tuple -/
def intT : D → Option (List Int)
  | .tup ds => intsD ds
  | _ => none
def rSortS (K : PySem.W.Frag) (d : Nat) : List V → Hp → VK → Prop := fun vs H Q => ∃ (B : Int) (a : Addr) (xs : List V), vs = [V.ref a] ∧ SqL K H a xs ∧ xs.length < 64 ∧ (∀ x ∈ xs, ∃ ns, TupI K H x ns ∧ ns.length = d ∧ SBd B ns) ∧
  ∀ (ys : List V) (p : Addr), ys.Perm xs → ys.Pairwise (fun x y => ∀ n m, TupI K H x n → TupI K H y m → rkS B n ≤ rkS B m) → H p = none → Q (.ref p) (upd H p (.lst ys))
theorem cr_sortS {X : Cx} {d : Nat} (hd : 1 ≤ d) : CallR X (.builtin "sorted") (rSortS X.K d) := by
  intro pins s σ H vs us Q I r h
  obtain ⟨B, a, xs, rfl, hs, h64, hx, q⟩ := h
  obtain ⟨its, rv, hl, hz⟩ := I.list hs
  rw [Vals.ref1 r]
  obtain ⟨e1, e2⟩ := bkV_refs rv fun x m => by
    obtain ⟨ns, ⟨t, e, _⟩, _⟩ := hx x m
    exact ⟨t, e⟩
  refine sortedS (d := d) (B := B) hl.isList (by rw [← rv.length]; exact h64) hd (fun v hv => ?_) fun out h1 h2 => ?_
  · obtain ⟨t, rfl⟩ := e2 v hv
    obtain ⟨ns, ⟨t', e, ht⟩, hn, hb⟩ := hx (V.ref t) (by rw [e1]; exact List.mem_map.mpr ⟨_, hv, rfl⟩)
    cases e
    exact ⟨ns, tupI_raw I ht, hn, hb⟩
  · obtain ⟨ep, he'⟩ := PyProof.Rows.sortedAll_at s.heap its out
    have hp : (out.toList.map bkV).Perm xs := by
      rw [e1]
      exact h1.map bkV
    have hlen : (out.toList.map bkV).length ≤ sizeLine := by
      rw [hp.length_eq]
      exact hz
    refine ⟨.ref _, upd H (s.heap.objs.size + 1) (.lst (out.toList.map bkV)), I.laid (t' := s.toks) (fun _ _ => PyProof.Rows.sortedAll_old) (Nat.le_succ _) ⟨hlen, out.toList, ep, bkV_vals (fun u hu => e2 u (h1.mem_iff.mp hu)), he'⟩, rfl, q _ _ hp ?_ (I.hok.fresh (Nat.le_succ _))⟩
    rw [List.pairwise_map]
    refine List.Pairwise.imp (fun {u v} huv n m hn hm => ?_) h2
    obtain ⟨t, et, ht⟩ := hn
    obtain ⟨t', et', ht'⟩ := hm
    have i1 : TS.intsOf s.heap u = n := by
      rw [bkV_ref et]
      exact (tupI_raw I ht).ints
    have i2 : TS.intsOf s.heap v = m := by
      rw [bkV_ref et']
      exact (tupI_raw I ht').ints
    rw [← i1, ← i2]
    exact huv
/-! told of trees: a permutation, ascending by the order of tuples -/
theorem rs_perm {K : PySem.W.Frag} {M : Addr → Prop} {mu : List Addr} {H : Hp} {xs ys : List V} (p : xs.Perm ys) : ∀ {l : List D}, Rs K M mu H l xs → ∃ l', l.Perm l' ∧ Rs K M mu H l' ys := by
  induction p with
  | nil => exact fun {l} r => ⟨l, .refl _, r⟩
  | cons x _ ih =>
    intro l r
    cases l with
    | nil => cases (show _ = [] from r)
    | cons d l =>
      obtain ⟨v, rr, e, h1, h2⟩ := r
      injection e with e1 e2
      subst e1 e2
      obtain ⟨l', q1, q2⟩ := ih h2
      exact ⟨d :: l', q1.cons d, x, _, rfl, h1, q2⟩
  | swap x y z =>
    intro l r
    cases l with
    | nil => cases (show _ = [] from r)
    | cons d l =>
      obtain ⟨v, rr, e, h1, h2⟩ := r
      injection e with e1 e2
      subst e1 e2
      cases l with
      | nil => cases (show _ = [] from h2)
      | cons d2 l =>
        obtain ⟨v2, rr2, e, h3, h4⟩ := h2
        injection e with e1 e2
        subst e1 e2
        exact ⟨d2 :: d :: l, .swap _ _ _, _, _, rfl, h3, _, _, rfl, h1, h4⟩
  | trans _ _ ih1 ih2 =>
    intro l r
    obtain ⟨l1, q1, r1⟩ := ih1 r
    obtain ⟨l2, q2, r2⟩ := ih2 r1
    exact ⟨l2, q1.trans q2, r2⟩
/-- x is not behind y -/
def leT (x y : D) : Prop := ∀ n m, intT x = some n → intT y = some m → n = m ∨ lexI (fun i j => decide (i < j)) (fun a b => decide (a < b)) n m = true
theorem rk_lex {B : Int} : ∀ {n m : List Int}, n.length = m.length → SBd B n → SBd B m → rkS B n ≤ rkS B m → n = m ∨ lexI (fun i j => decide (i < j)) (fun a b => decide (a < b)) n m = true
  | [], [], _, _, _, _ => .inl rfl
  | [], _ :: _, hl, _, _, _ => by simp at hl
  | _ :: _, [], hl, _, _, _ => by simp at hl
  | p :: n, q :: m, hl, h1, h2, h => by
    have hl' : n.length = m.length := by simpa using hl
    by_cases e : p = q
    · subst e
      have h' : rkS B n ≤ rkS B m := by
        refine Int.not_lt.mp fun z => ?_
        have := (rk_same (d := p) hl'.symm).mpr z
        omega
      rcases rk_lex hl' h1.tl h2.tl h' with r | r
      · exact .inl (by rw [r])
      · refine .inr ?_
        unfold lexI
        rw [if_pos rfl]
        exact r
    · refine .inr ?_
      unfold lexI
      rw [if_neg e]
      refine decide_eq_true (Int.not_le.mp fun z => ?_)
      have z2 : q < p := by omega
      have := rk_lt hl'.symm h2.tl h1.tl z2
      omega
def sortedT (d : Nat) : DFn := fun xs S P => match xs with
  | [x] => (match val S x with
    | .lst l => (l.length < 64 ∧ ∀ y ∈ l, ∃ ns, intT y = some ns ∧ ns.length = d) ∧ ∀ l' : List D, l'.Perm l → l'.Pairwise leT → P (.lst l') S
    | _ => False)
  | _ => False
theorem bound_of : ∀ l : List (List Int), ∃ B : Int, ∀ ns ∈ l, SBd B ns
  | [] => ⟨0, fun _ h => nomatch h⟩
  | ns :: l => by
    obtain ⟨B, hB⟩ := bound_of l
    have one : ∀ ms : List Int, ∃ C : Int, SBd C ms := fun ms => by
      induction ms with
      | nil => exact ⟨0, fun _ h => nomatch h⟩
      | cons m ms ih =>
        obtain ⟨C, hC⟩ := ih
        refine ⟨(C.natAbs : Int) + m.natAbs + 1, fun z hz => ?_⟩
        rcases List.mem_cons.mp hz with e | e
        · subst e; omega
        · have := hC z e
          omega
    obtain ⟨C, hC⟩ := one ns
    refine ⟨(B.natAbs : Int) + C.natAbs, fun ms hm z hz => ?_⟩
    rcases List.mem_cons.mp hm with e | e
    · subst e
      have := hC z hz
      omega
    · have := hB ms e z hz
      omega
theorem tupI_of {K : PySem.W.Frag} {M : Addr → Prop} {mu : List Addr} {H : Hp} {d : D} {v : V} {ns : List Int} (r : R K M mu H d v) (e : intT d = some ns) : TupI K H v ns := by
  cases d with
  | tup ds =>
    obtain ⟨a, vs, rfl, ha, rv⟩ := r
    rw [ints_ok rv e] at ha
    exact ⟨a, rfl, SqT.of ha⟩
  | _ => cases e
theorem calld_sorted {K : PySem.W.Frag} {d : Nat} : CallD K (rSortS K d) (sortedT d) := by
  intro M mu H S xs vs P Q ok r h n
  unfold sortedT at h
  split at h
  · rename_i x
    obtain ⟨v, rfl, rv⟩ := r.one
    cases e : val S x with
    | lst l =>
      simp only [e] at h
      obtain ⟨⟨h64, hall⟩, h⟩ := h
      obtain ⟨a, ys, rfl, ha, ry⟩ := seq_lst ok rv e
      obtain ⟨B, hB⟩ := bound_of (l.filterMap intT)
      refine ⟨B, a, ys, rfl, SqL.of ha, by rw [← ry.len]; exact h64, fun y hy => ?_, fun zs p hp hs hn => ?_⟩
      · obtain ⟨i, hi⟩ := List.getElem?_of_mem hy
        obtain ⟨d', hd', rd⟩ := ry.getV hi
        obtain ⟨ns, q1, q2⟩ := hall d' (List.mem_of_getElem? hd')
        exact ⟨ns, tupI_of rd q1, q2, hB ns (List.mem_filterMap.mpr ⟨d', List.mem_of_getElem? hd', q1⟩)⟩
      · obtain ⟨l', p1, rl⟩ := rs_perm hp.symm ry
        obtain ⟨ok2, k2, _⟩ := ok.alloc hn (.lst zs)
        refine n _ _ (.lst l') S k2 ok2 (newL ok hn rl) (h l' p1.symm ?_)
        rw [List.pairwise_iff_getElem] at hs ⊢
        intro i j hi hj hij n' m' en em
        have e1 : l'[i]? = some l'[i] := List.getElem?_eq_getElem hi
        have e2 : l'[j]? = some l'[j] := List.getElem?_eq_getElem hj
        obtain ⟨u, hu, ru⟩ := rl.get e1
        obtain ⟨w, hw, rw_⟩ := rl.get e2
        obtain ⟨hi', hu'⟩ := List.getElem?_eq_some_iff.mp hu
        obtain ⟨hj', hw'⟩ := List.getElem?_eq_some_iff.mp hw
        have z := hs i j hi' hj' hij n' m' (by rw [hu']; exact tupI_of ru en) (by rw [hw']; exact tupI_of rw_ em)
        have mi : l'[i] ∈ l := p1.symm.mem_iff.mp (List.getElem_mem hi)
        have mj : l'[j] ∈ l := p1.symm.mem_iff.mp (List.getElem_mem hj)
        obtain ⟨n1, a1, a2⟩ := hall _ mi
        obtain ⟨m1, b1, b2⟩ := hall _ mj
        obtain rfl := Option.some.inj (a1.symm.trans en)
        obtain rfl := Option.some.inj (b1.symm.trans em)
        exact rk_lex (a2.trans b2.symm) (hB _ (List.mem_filterMap.mpr ⟨_, mi, a1⟩)) (hB _ (List.mem_filterMap.mpr ⟨_, mj, b1⟩)) z
    | _ => simp only [e] at h
  · exact h.elim
end DL
set_option maxRecDepth 100000
namespace DL
open PySem PySem.Spec PyProof.Rows L2
/-! ### str(int), f'..' , tuple(..), enumerate(list) -/
def Sm (i : Int) : Prop := i.natAbs.log2 < 1920
def strOf : DFn := fun xs S P => match xs with
  | [.int i] => Sm i ∧ P (.str (toString i)) S
  | _ => False
theorem calld_str {K : PySem.W.Frag} : CallD K (fun xs H Q => ∃ i, xs = [V.int i] ∧ i.natAbs.log2 < 1920 ∧ Q (.str (toString i)) H) strOf := by
  intro M mu H S xs vs P Q ok r h n
  unfold strOf at h
  split at h
  · rename_i i
    obtain ⟨v, rfl, rv⟩ := r.one
    obtain rfl : v = .int i := rv
    exact ⟨i, rfl, h.1, n _ H (.str _) S (.refl _ _) ok rfl h.2⟩
  · exact h.elim
/-- tuple(list), tuple(tuple) -/
def tupOf : DFn := fun xs S P => match xs with
  | [x] => (match val S x with
    | .lst l => P (.tup l) S
    | .tup l => isK x = false ∧ P (.tup l) S
    | _ => False)
  | _ => False
theorem calld_tuple {K : PySem.W.Frag} : CallD K (fun xs H Q => ∃ p ys, xs = [.ref p] ∧ ((SqL K H p ys ∧ ∀ l, H l = none → Q (.ref l) (upd H l (.tup ys))) ∨ (SqT K H p ys ∧ Q (.ref p) H))) tupOf := by
  intro M mu H S xs vs P Q ok r h n
  unfold tupOf at h
  split at h
  · rename_i x
    obtain ⟨v, rfl, rv⟩ := r.one
    cases e : val S x with
    | lst l =>
      simp only [e] at h
      obtain ⟨a, ys, rfl, ha, ry⟩ := seq_lst ok rv e
      refine ⟨a, ys, rfl, .inl ⟨SqL.of ha, fun p hp => ?_⟩⟩
      obtain ⟨ok2, k2, _⟩ := ok.alloc hp (.tup ys)
      exact n _ _ _ S k2 ok2 (newT ok hp ry) h
    | tup l =>
      simp only [e] at h
      cases x with
      | tup l' =>
        obtain rfl : l' = l := by simpa [val] using e
        obtain ⟨a, ys, rfl, ha, ry⟩ := rv
        exact ⟨a, ys, rfl, .inr ⟨SqT.of ha, n _ H (.tup l') S (.refl _ _) ok ⟨a, ys, rfl, ha, ry⟩ h.2⟩⟩
      | ktp _ => cases h.1
      | loc j =>
        obtain ⟨a, h1, h2⟩ := rv
        exact (show False from ok.at_ j a _ h2 (val_loc e (by simp))).elim
      | _ => simp [val] at e
    | _ => simp only [e] at h
  · exact h.elim
/-! f-strings -/
def fmtD (x : D) (S : Sto) (P : Str → Sto → Prop) : Prop := match x with
  | .str y => y.length ≤ 1000000 ∧ P y S
  | .int i => Sm i ∧ P (toString i) S
  | _ => False
def wFmt (we : DW) : DW := fun ρ S P E => we ρ S (fun x S1 => fmtD x S1 fun y S2 => P (.str y) S2) E
theorem de_fmt {X : Cx} {W : WX} {e : Expr} {we : DW} {pos : Pos} (he : DE X W e we) : DE X W (.FormattedValue e (-1) none pos) (wFmt we) := by
  obtain ⟨_, p, r⟩ := he.ex
  refine ⟨_, pe_fmt p, ⟨fun M mu σ ρ S H P E Q ok en hw n x => ?_⟩⟩
  refine r.run M mu σ ρ S H _ E _ ok en hw (fun v H1 d S1 k1 ok1 r1 h1 => ?_) x
  cases d with
  | str y =>
    obtain rfl : v = .str y := r1
    exact .inl ⟨y, rfl, line_of h1.1, n _ H1 (.str y) S1 k1 ok1 rfl h1.2⟩
  | int i =>
    obtain rfl : v = .int i := r1
    exact .inr ⟨i, rfl, h1.1, n _ H1 (.str _) S1 k1 ok1 rfl h1.2⟩
  | _ => exact h1.elim
/-! enumerate -/
def enumD (ds : List D) : List D := (List.range ds.length).map fun i => .tup [.int (i : Nat), ds.getD i .non]
def wiEnum (w : DWA) : DWI := fun ρ S P E => w ρ S (fun xs S1 => match xs with
  | [.lst ds] => P (enumD ds) none S1
  | [.loc i] => (match val S1 (.loc i) with
    | .lst ds => P (enumD ds) (some (i, ds)) S1
    | _ => False)
  | _ => False) E
theorem itOk_enumL {K : PySem.W.Frag} {M : Addr → Prop} {mu : List Addr} {H : Hp} {a : Addr} {j : Nat} {ds : List D} (h : mu[j]? = some a) : ItOk K (Ite K a) M mu H (enumD ds) (some (j, ds)) := fun M' mu' H' S' ex ok hs i => by
  obtain ⟨vs, h', r'⟩ : Cl K M' mu' H' (.lst ds) a := ok.at_ j a _ (ex.toExt0.at_ h) hs
  have hl : (enumD ds).length = ds.length := by simp [enumD]
  refine ⟨fun d hd => ?_, fun hi => ⟨vs, SqL.of h', by rw [← r'.len, ← hl]; exact hi⟩⟩
  have hi : i < ds.length := by rw [← hl]; exact (List.getElem?_eq_some_iff.mp hd).1
  have e1 : ds[i]? = some (ds.getD i .non) := by rw [List.getD_eq_getElem?_getD, List.getElem?_eq_getElem hi]; rfl
  have e2 : d = .tup [.int (i : Nat), ds.getD i .non] := by
    unfold enumD at hd
    rw [List.getElem?_map, List.getElem?_range hi] at hd
    exact (Option.some.inj hd).symm
  obtain ⟨v, hv, rv⟩ := r'.get e1
  refine ⟨⟨vs, v, SqL.of h', hv⟩, fun x H2 y => ?_⟩
  obtain ⟨T, z, rfl, nT, rfl, hz⟩ := y
  obtain rfl : v = z := Option.some.inj (hv.symm.trans (hz vs (SqL.of h')))
  rw [e2]
  exact new2 ok nT rfl rv
theorem itOk_enum {K : PySem.W.Frag} {M : Addr → Prop} {mu : List Addr} {H : Hp} {a : Addr} {vs : List V} {ds : List D} (hm : ¬ M a) (ha : H a = some (.lst vs)) (r : Rs K M mu H ds vs) : ItOk K (Ite K a) M mu H (enumD ds) none := fun M' mu' H' S' ex ok _ i => by
  have h' := (ex.toExt0.okM hm ha).2
  have r' := Rs.mono ex.toExt0 _ _ r
  have hl : (enumD ds).length = ds.length := by simp [enumD]
  refine ⟨fun d hd => ?_, fun hi => ⟨vs, SqL.of h', by rw [← r.len, ← hl]; exact hi⟩⟩
  have hi : i < ds.length := by rw [← hl]; exact (List.getElem?_eq_some_iff.mp hd).1
  have e1 : ds[i]? = some (ds.getD i .non) := by rw [List.getD_eq_getElem?_getD, List.getElem?_eq_getElem hi]; rfl
  have e2 : d = .tup [.int (i : Nat), ds.getD i .non] := by
    unfold enumD at hd
    rw [List.getElem?_map, List.getElem?_range hi] at hd
    exact (Option.some.inj hd).symm
  obtain ⟨v, hv, rv⟩ := r'.get e1
  refine ⟨⟨vs, v, SqL.of h', hv⟩, fun x H2 y => ?_⟩
  obtain ⟨T, z, rfl, nT, rfl, hz⟩ := y
  obtain rfl : v = z := Option.some.inj (hv.symm.trans (hz vs (SqL.of h')))
  rw [e2]
  exact new2 ok nT rfl rv
theorem di_enum {X : Cx} {W : WX} {e : Expr} {w : DWA} {p pos tpos : Pos} {elts : List Expr} {kk : Nat} (hg : Gl X "enumerate") (hm : X.mg "enumerate" = none) (ha : DA X W [e] w) (hs : starEach [e] X.env = [(false, eval e X.env)] := by rfl) :
    DI X W (.Tuple elts kk tpos) (.Call (.Name "enumerate" p) [e] [] pos) (wiEnum w) := by
  obtain ⟨_, pa, ra⟩ := ha.ex
  refine ⟨_, pi_enum hg hm pa hs, ⟨fun M mu σ ρ S H P E Q ok en hw n x => ?_⟩⟩
  refine ra.run M mu σ ρ S H _ E _ ok en hw (fun vs H1 ds S1 k1 ok1 r1 h1 => ?_) x
  split at h1
  · rename_i l
    obtain ⟨v, rfl, a, ys, rfl, hm1, ha1, rr⟩ := r1.one
    exact ⟨a, ys, rfl, SqL.of ha1, n _ H1 _ none S1 k1 ok1 (itOk_enum hm1 ha1 rr) True.intro h1⟩
  · rename_i i
    obtain ⟨v, rfl, rv⟩ := r1.one
    cases q : val S1 (.loc i) with
    | lst ds =>
      simp only [q] at h1
      obtain ⟨a, rfl, ha⟩ := rv
      obtain ⟨vs, h3, h4⟩ : Cl X.K M mu H1 (.lst ds) a := ok1.at_ i a _ ha (val_loc q (by simp))
      exact ⟨a, vs, rfl, SqL.of h3, n _ H1 _ (some (i, ds)) S1 k1 ok1 (itOk_enumL ha) (val_loc q (by simp)) h1⟩
    | _ => simp only [q] at h1
  · exact h1.elim
end DL
namespace DL
open PySem PySem.Spec PyProof.Rows L2
/-! f'..{}..' of two parts or more -/
def wJs : List DW → Str → Loc → Sto → (Str → Sto → Prop) → Ex → Prop
  | [], acc, _, S, P, _ => P acc S
  | w :: ws, acc, ρ, S, P, E => w ρ S (fun x S1 => match x with
    | .str y => (acc ++ y).length ≤ 1000000 ∧ wJs ws (acc ++ y) ρ S1 P E
    | _ => False) E
inductive DJ (X : Cx) (W : WX) : List Expr → List DW → Prop where
  | nil : DJ X W [] []
  | cons {e : Expr} {w : DW} {es : List Expr} {ws : List DW} (h : DE X W e w) (r : DJ X W es ws) : DJ X W (e :: es) (w :: ws)
theorem dj_ex {X : Cx} {W : WX} {es : List Expr} {ws : List DW} (h : DJ X W es ws) : ∃ ts, PJ X es ts ∧ ∀ (M : Addr → Prop) (mu : List Addr) (σ : L2.St) (ρ : Loc) (S : Sto) (H : Hp) (acc : Str) (P : Str → Sto → Prop) (E : Ex) (Q : Str → Hp → Prop), Wok X.K M mu H S → Env X.K M mu H ρ σ → wJs ws acc ρ S P E →
    (∀ y H' S', Keep mu H H' → Wok X.K M mu H' S' → P y S' → Q y H') → Exc X.K M mu H E (fun C d H' => W C d σ H') → tJs ts acc σ H Q := by
  induction h with
  | nil => exact ⟨[], .nil, fun M mu σ ρ S H acc P E Q ok en hw n x => n acc H S (.refl _ _) ok hw⟩
  | @cons e w es ws he r ih =>
    obtain ⟨t, pt, rt⟩ := he.ex
    obtain ⟨ts, ps, rs⟩ := ih
    refine ⟨t :: ts, .cons pt ps, fun M mu σ ρ S H acc P E Q ok en hw n x => ?_⟩
    refine rt.run M mu σ ρ S H _ E _ ok en hw (fun v H1 d S1 k1 ok1 r1 h1 => ?_) x
    cases d with
    | str y =>
      obtain rfl : v = .str y := r1
      exact ⟨y, rfl, line_of h1.1, rs M mu σ ρ S1 H1 (acc ++ y) P E Q ok1 (en.keep ok k1) h1.2 (fun z H2 S2 k2 => n z H2 S2 (k1.trans k2)) (x.mono k1)⟩
    | _ => exact h1.elim
def wFs (ws : List DW) : DW := fun ρ S P E => wJs ws Str.empty ρ S (fun y S1 => P (.str y) S1) E
theorem de_fs {X : Cx} {W : WX} {v1 v2 : Expr} {rest : List Expr} {ws : List DW} {pos : Pos} (h : DJ X W (v1 :: v2 :: rest) ws) : DE X W (.JoinedStr (v1 :: v2 :: rest) pos) (wFs ws) := by
  obtain ⟨ts, ps, rs⟩ := dj_ex h
  exact ⟨_, pe_joined ps, ⟨fun M mu σ ρ S H P E Q ok en hw n x => rs M mu σ ρ S H _ _ E _ ok en hw (fun y H' S' k ok' h' => n _ H' (.str y) S' k ok' rfl h') x⟩⟩
end DL
set_option maxRecDepth 100000
namespace DL
open PySem PySem.Spec PyProof.Rows L2
/-! the combinators of DL14..DL27 applied -/
theorem wsNever_ap  {z0} {z1} {z2} : wsNever  z0 z1 z2 = (False) := rfl
theorem wNever_ap  {z0} {z1} {z2} {z3} : wNever  z0 z1 z2 z3 = (False) := rfl
theorem wFr_ap  {w : DWA} {ρ} {S} {P} {E} : wFr w ρ S P E = (w ρ S (fun ds S1 => P (.loc S1.length) (S1 ++ [.lst ds])) E) := rfl
theorem wFLst_ap  {w : DWA} {ρ} {S} {P} {E} : wFLst w ρ S P E = (w ρ S (fun ds S1 => ds.length ≤ 1000000 ∧ P ds S1) E) := rfl
theorem wFList_ap  {w : DWA} {ρ} {S} {P} {E} : wFList w ρ S P E = (w ρ S (fun xs S1 => match xs with
  | [x] => (match val S1 x with
    | .lst ds => P ds S1
    | .tup ds => P ds S1
    | _ => False)
  | _ => False) E) := rfl
theorem wFAdd_ap  {wa wb : DW} {ρ} {S} {P} {E} : wFAdd wa wb ρ S P E = (wa ρ S (fun x S1 => wb ρ S1 (fun y S2 => match val S2 x, val S2 y with
  | .lst a, .lst b => a.length + b.length ≤ 1000000 ∧ P (a ++ b) S2
  | _, _ => False) E) E) := rfl
theorem wBM_ap  {T : String} {f : DFm} {wo : DW} {w : DWA} {ρ} {S} {P} {E} : wBM T f wo w ρ S P E = (wo ρ S (fun x S1 => rcv T S1 x ∧ w ρ S1 (fun xs S2 => f x xs S2 P) E) E) := rfl
theorem wBM0_ap  {T : String} {f : DFm} {wo : DW} {ρ} {S} {P} {E} : wBM0 T f wo ρ S P E = (wo ρ S (fun x S1 => rcv T S1 x ∧ f x [] S1 P) E) := rfl
theorem wDGet_ap  {wo wk : DW} {ρ} {S} {P} {E} : wDGet wo wk ρ S P E = (wo ρ S (fun x S1 => wk ρ S1 (fun y S2 => entT x y S2 P) E) E) := rfl
theorem wDGet2_ap  {wo wk wd : DW} {ρ} {S} {P} {E} : wDGet2 wo wk wd ρ S P E = (wo ρ S (fun x S1 => isDt S1 x ∧ wk ρ S1 (fun y S2 => wd ρ S2 (fun z S3 => dflT x y z S3 P) E) E) E) := rfl
theorem wsDPut_ap  {we wo wk : DW} {Y} {ρ} {S} : wsDPut we wo wk Y ρ S = (we ρ S (fun d S1 => wo ρ S1 (fun x S2 => wk ρ S2 (fun y S3 => match x, tkOf y with
  | .loc i, some k => (match val S3 (.loc i) with
    | .dt es => es.length < 1000000 ∧ Y.nx ρ (S3.set i (.dt (putT es k d)))
    | _ => False)
  | _, _ => False) Y.ex) Y.ex) Y.ex) := rfl
theorem wNewT_ap  {z0} {S} {P} {z3} : wNewT  z0 S P z3 = (P (.loc S.length) (S ++ [.dt []])) := rfl
theorem wsRetire_ap  {v : Nat} {w : DWS} {Y} {ρ} {S} : wsRetire v w Y ρ S = (match ρ[v]? with
  | some (some (.loc i)) => (match S[i]? with
    | some (.dt es) => w Y (ρ.set v (some (.dt es))) (S.set i .non)
    | _ => False)
  | _ => False) := rfl
theorem wiKeysT_ap  {w : DW} {ρ} {S} {P} {E} : wiKeysT w ρ S P E = (w ρ S (fun d S1 => match d with
  | .dt es => P (keysT es) none S1
  | _ => False) E) := rfl
theorem wDcT_ap  {wi : DWI} {g : DWG} {tt : DWT} {tk tv : DW} {vs : List Nat} {ρ} {S} {P} {E} : wDcT wi g tt tk tv vs ρ S P E = (wi ρ S (fun items src S1 => (match src with
  | none => True
  | some _ => False) ∧ dcW g tt tk tv (wD ρ vs) (fun es S2 => P (.dt es) S2) items [] S1) E) := rfl
theorem wFld_ap  {C : Addr} {f : Str} {wo : DW} {ρ} {S} {P} {E} : wFld C f wo ρ S P E = (wo ρ S (fun x S1 => fldD C f x S1 P) E) := rfl
theorem wsFld_ap  {C : Addr} {f : Str} {wo we : DW} {Y} {ρ} {S} : wsFld C f wo we Y ρ S = (we ρ S (fun d S1 => wo ρ S1 (fun x S2 => match x with
  | .loc i => (match val S2 (.loc i) with
    | .obj C' fs => C' = C ∧ fs.length < 900 ∧ Y.nx ρ (S2.set i (.obj C (putFD f d fs)))
    | _ => False)
  | _ => False) Y.ex) Y.ex) := rfl
theorem wMake_ap  {C : Addr} {sp : DSp} {n m : Nat} {g : List D → List D → List D → List D} {w wk : DWA} {ρ} {S} {P} {E} : wMake C sp n m g w wk ρ S P E = (w ρ S (fun ds S1 => wk ρ S1 (fun es S2 => ds.length = n ∧ es.length = m ∧ makeD C sp (fun self => g self ds es) S2 P) E) E) := rfl
theorem wMeth_ap  {C : Addr} {m : Str} {sp : DSp} {wo : DW} {w : DWA} {ρ} {S} {P} {E} : wMeth C m sp wo w ρ S P E = (wo ρ S (fun x S1 => recvD C m x S1 ∧ w ρ S1 (fun ds S2 => sp (x :: ds) S2 P EF) E) E) := rfl
theorem wDictPT_ap  {w : DWA} {ρ} {S} {P} {E} : wDictPT w ρ S P E = (w ρ S (fun xs S1 => match xs with
  | [x] => (match val S1 x with
    | .lst l => (match pairsT l with
      | some ps => P (.dt (putAllT ps [])) S1
      | none => False)
    | _ => False)
  | _ => False) E) := rfl
theorem wTruOwn_ap  {C : Addr} {sp : DSp} {we : DW} {ρ} {S} {P} {E} : wTruOwn C sp we ρ S P E = (we ρ S (fun x S1 => isObjD C S1 x ∧ sp [x] S1 (truP P) EF) E) := rfl
theorem wFmt_ap  {we : DW} {ρ} {S} {P} {E} : wFmt we ρ S P E = (we ρ S (fun x S1 => fmtD x S1 fun y S2 => P (.str y) S2) E) := rfl
theorem wFs_ap  {ws : List DW} {ρ} {S} {P} {E} : wFs ws ρ S P E = (wJs ws Str.empty ρ S (fun y S1 => P (.str y) S1) E) := rfl
theorem wiEnum_ap  {w : DWA} {ρ} {S} {P} {E} : wiEnum w ρ S P E = (w ρ S (fun xs S1 => match xs with
  | [.lst ds] => P (enumD ds) none S1
  | [.loc i] => (match val S1 (.loc i) with
    | .lst ds => P (enumD ds) (some (i, ds)) S1
    | _ => False)
  | _ => False) E) := rfl
theorem wJs_nil {acc : Str} {ρ : Loc} {S : Sto} {P : Str → Sto → Prop} {E : Ex} : wJs [] acc ρ S P E = P acc S := rfl
theorem wJs_cons {w : DW} {ws : List DW} {acc : Str} {ρ : Loc} {S : Sto} {P : Str → Sto → Prop} {E : Ex} : wJs (w :: ws) acc ρ S P E = (w ρ S (fun x S1 => match x with
    | .str y => (acc ++ y).length ≤ 1000000 ∧ wJs ws (acc ++ y) ρ S1 P E
    | _ => False) E) := rfl
theorem dcW_nil {g : DWG} {tt : DWT} {tk tv : DW} {ρ : Loc} {P : TD → Sto → Prop} {acc : TD} {S : Sto} : dcW g tt tk tv ρ P [] acc S = P acc S := rfl
theorem units2 {k : Nat} {A : Around} (r : Room k A) : A.units + 66 < cLine := by have := r.un; omega
end DL
set_option maxRecDepth 100000
namespace DL
open PySem PySem.Spec PyProof.Rows L2
/-! ### tables of places, in plain Lean -/
abbrev Pl := Int × Int
abbrev Tab := List (Pl × Int)
def kP (p : Pl) : List Key := [.inl p.1, .inl p.2]
def encT (t : Tab) : TD := t.map fun e => (kP e.1, D.int e.2)
def tget (t : Tab) (p : Pl) : Option Int := (t.find? fun e => decide (e.1 = p)).map (·.2)
def tput (t : Tab) (p : Pl) (c : Int) : Tab := if (t.any fun e => decide (e.1 = p)) = true then t.map (fun e => if e.1 = p then (e.1, c) else e) else t ++ [(p, c)]
theorem kP_inj {p q : Pl} : kP p = kP q ↔ p = q := by
  obtain ⟨a, b⟩ := p
  obtain ⟨c, d⟩ := q
  simp [kP]
theorem look_enc (p : Pl) : ∀ t : Tab, lookT (encT t) (kP p) = (tget t p).map D.int
  | [] => rfl
  | e :: t => by
    have ih := look_enc p t
    unfold lookT tget at ih ⊢
    unfold encT at ih ⊢
    rw [List.map_cons, List.find?_cons, List.find?_cons]
    by_cases h : e.1 = p
    · simp [h]
    · have h' : ¬ kP e.1 = kP p := fun z => h (kP_inj.mp z)
      simp only [h, h', decide_false]
      exact ih
theorem put_enc (t : Tab) (p : Pl) (c : Int) : putT (encT t) (kP p) (.int c) = encT (tput t p c) := by
  have ha : ((encT t).any fun e => decide (e.1 = kP p)) = (t.any fun e => decide (e.1 = p)) := by
    unfold encT
    rw [List.any_map]
    congr 1
    funext e
    show decide (kP e.1 = kP p) = decide (e.1 = p)
    exact decide_eq_decide.mpr kP_inj
  unfold putT tput
  rw [ha]
  by_cases q : (t.any fun e => decide (e.1 = p)) = true
  · rw [if_pos q, if_pos q]
    unfold encT
    rw [List.map_map, List.map_map]
    refine List.map_congr_left fun e _ => ?_
    show (if kP e.1 = kP p then _ else _) = _
    by_cases h : e.1 = p
    · rw [if_pos (kP_inj.mpr h)]
      show _ = (fun e : Pl × Int => (kP e.1, D.int e.2)) (if e.1 = p then (e.1, c) else e)
      rw [if_pos h]
    · rw [if_neg (fun z => h (kP_inj.mp z))]
      show _ = (fun e : Pl × Int => (kP e.1, D.int e.2)) (if e.1 = p then (e.1, c) else e)
      rw [if_neg h]
  · rw [if_neg q, if_neg q]
    unfold encT
    rw [List.map_append]
    rfl
theorem len_enc (t : Tab) : (encT t).length = t.length := by simp [encT]
theorem keys_enc (t : Tab) : keysT (encT t) = t.map fun e => .tup [.int e.1.1, .int e.1.2] := by
  unfold keysT encT
  rw [List.map_map]
  rfl
def TOk (t : Tab) : Prop := (t.map (·.1)).Nodup
theorem tget_none {t : Tab} {p : Pl} (h : (t.any fun e => decide (e.1 = p)) = false) : tget t p = none := by
  unfold tget
  rw [List.find?_eq_none.mpr fun e he => ?_]
  · rfl
  · have := List.any_eq_false.mp h e he
    simpa using this
theorem any_iff {t : Tab} {p : Pl} : (t.any fun e => decide (e.1 = p)) = true ↔ p ∈ t.map (·.1) := by
  rw [List.any_eq_true, List.mem_map]
  constructor
  · rintro ⟨e, h1, h2⟩
    exact ⟨e, h1, of_decide_eq_true h2⟩
  · rintro ⟨e, h1, h2⟩
    exact ⟨e, h1, decide_eq_true h2⟩
theorem tok_put {t : Tab} (h : TOk t) (p : Pl) (c : Int) : TOk (tput t p c) := by
  unfold TOk tput at *
  by_cases q : (t.any fun e => decide (e.1 = p)) = true
  · rw [if_pos q, List.map_map]
    have e : ((fun e : Pl × Int => e.1) ∘ fun e => if e.1 = p then (e.1, c) else e) = fun e => e.1 := by
      funext e
      show (if e.1 = p then (e.1, c) else e).1 = e.1
      split <;> rfl
    rw [e]
    exact h
  · rw [if_neg q, List.map_append, List.nodup_append]
    refine ⟨h, by simp, fun a ha b hb e => q (any_iff.mpr ?_)⟩
    have : b = p := by simpa using hb
    rw [← this, ← e]
    exact ha
theorem tget_put (t : Tab) (p q : Pl) (c : Int) : tget (tput t p c) q = if q = p then some c else tget t q := by
  unfold tput
  by_cases a : (t.any fun e => decide (e.1 = p)) = true
  · rw [if_pos a]
    induction t with
    | nil => simp at a
    | cons e t ih =>
      unfold tget at ih ⊢
      rw [List.map_cons, List.find?_cons, List.find?_cons]
      by_cases h : e.1 = p
      · rw [if_pos h]
        by_cases hq : q = p
        · subst hq; simp [h]
        · have h1 : ¬ e.1 = q := fun z => hq (z.symm.trans h)
          simp only [h1, decide_false, if_neg hq]
          by_cases a' : (t.any fun e => decide (e.1 = p)) = true
          · have := ih a'
            rw [if_neg hq] at this
            exact this
          · have e2 : (t.map fun e => if e.1 = p then (e.1, c) else e) = t := by
              refine (List.map_congr_left fun x hx => ?_).trans (List.map_id t)
              rw [if_neg fun z => a' (any_iff.mpr (List.mem_map.mpr ⟨x, hx, z⟩))]
              rfl
            rw [e2]
      · rw [if_neg h]
        by_cases hq : e.1 = q
        · have hqp : ¬ q = p := fun z => h (hq.trans z)
          simp [hq, hqp]
        · simp only [hq, decide_false]
          rw [List.any_cons, decide_eq_false h, Bool.false_or] at a
          exact ih a
  · rw [if_neg a]
    have hn := tget_none (Bool.eq_false_iff.mpr a)
    unfold tget at hn ⊢
    rw [List.find?_append]
    by_cases hq : q = p
    · subst hq
      rw [if_pos rfl]
      have : t.find? (fun e => decide (e.1 = q)) = none := by simpa using hn
      rw [this]
      simp
    · rw [if_neg hq]
      cases t.find? (fun e => decide (e.1 = q)) with
      | some y => rfl
      | none =>
        have hz : ¬ p = q := fun z => hq z.symm
        simp [hz]
theorem tget_mem {t : Tab} (h : TOk t) {e : Pl × Int} (he : e ∈ t) : tget t e.1 = some e.2 := by
  unfold TOk at h
  induction t with
  | nil => cases he
  | cons x t ih =>
    rw [List.map_cons, List.nodup_cons] at h
    unfold tget at ih ⊢
    rw [List.find?_cons]
    rcases List.mem_cons.mp he with z | z
    · subst z; simp
    · have hx : ¬ x.1 = e.1 := fun q => h.1 (by rw [q]; exact List.mem_map_of_mem z)
      simp only [hx, decide_false]
      exact ih h.2 z
/-- a colour as the ink leaves it -/
def tally (rows : List (Pl × Int)) (t : Tab) : Tab := rows.foldl (fun t r => tput t r.1 ((tget t r.1).getD 0 + r.2)) t
/-- what is left of a table -/
def leaves (f : Int → Int) (t : Tab) : Tab := t.filterMap fun e => if f e.2 = 0 then none else some (e.1, f e.2)
theorem tok_tally : ∀ (rows : List (Pl × Int)) {t : Tab}, TOk t → TOk (tally rows t)
  | [], _, h => h
  | r :: rows, t, h => tok_tally rows (tok_put h _ _)
theorem tok_leaves {f : Int → Int} : ∀ {t : Tab}, TOk t → TOk (leaves f t)
  | [], _ => List.nodup_nil
  | e :: t, h => by
    unfold TOk at h
    rw [List.map_cons, List.nodup_cons] at h
    have ih : TOk (leaves f t) := tok_leaves h.2
    unfold leaves at ih ⊢
    rw [List.filterMap_cons]
    by_cases q : f e.2 = 0
    · rw [if_pos q]
      exact ih
    · rw [if_neg q]
      show ((_ :: _ : Tab).map (·.1)).Nodup
      rw [List.map_cons, List.nodup_cons]
      refine ⟨fun z => h.1 ?_, ih⟩
      obtain ⟨y, hy, e1⟩ := List.mem_map.mp z
      obtain ⟨x, hx, e2⟩ := List.mem_filterMap.mp hy
      by_cases q2 : f x.2 = 0
      · rw [if_pos q2] at e2; cases e2
      · rw [if_neg q2] at e2
        obtain rfl := Option.some.inj e2
        exact List.mem_map.mpr ⟨x, hx, e1⟩
end DL
set_option maxRecDepth 100000
namespace DL
open PySem PySem.Spec PyProof.Rows L2
/-- the cell that a loop walks over is there -/
def srcOk (src : Src) (all : List D) (S : Sto) : Prop := match src with
  | none => True
  | some (j, l) => S[j]? = some (.lst l)
theorem for_inv2 {g : DWG} {tb : DWS} {Y : DEnds} {all : List D} {src : Src} (J : List D → Loc → Sto → Prop) (hk : ∀ xs ρ S, J xs ρ S → srcOk src all S)
    (hs : ∀ x xs ρ S, J (x :: xs) ρ S → ∀ nx : Loc → Sto → Prop, (∀ ρ' S', J xs ρ' S' → nx ρ' S') → g x S ρ fun ρ' => tb { Y with nx := nx, ct := nx, bk := Y.nx } ρ' S)
    (he : ∀ ρ S, J [] ρ S → Y.nx ρ S) : ∀ xs ρ S, J xs ρ S → forW g tb Y all src xs ρ S
  | [], ρ, S, h => ⟨hk _ _ _ h, he ρ S h⟩
  | x :: xs, ρ, S, h => ⟨hk _ _ _ h, hs x xs ρ S h _ fun ρ' S' h' => for_inv2 J hk hs he xs ρ' S' h'⟩
/-- what gives the items l, one after the other -/
def SeqD (x : D) (S : Sto) (l : List D) : Prop := x = .lst l ∨ x = .tup l ∨ x = .ktp l ∨ ∃ i, x = .loc i ∧ S[i]? = some (.lst l)
theorem wiSeq_of {w : DW} {ρ : Loc} {S : Sto} {x : D} {l : List D} {P : List D → Src → Sto → Prop} {E : Ex} (hw : ∀ Q : DK, Q x S → w ρ S Q E) (h : SeqD x S l) (hp : ∀ src, srcOk src l S → P l src S) : wiSeq w ρ S P E := by
  refine hw _ ?_
  rcases h with rfl | rfl | rfl | ⟨i, rfl, e⟩
  · exact hp none True.intro
  · exact hp none True.intro
  · exact hp none True.intro
  · show (match val S (.loc i) with
      | .lst ds => P ds (some (i, ds)) S
      | _ => False)
    rw [val_at e]
    exact hp (some (i, l)) e
/-- handed back behind own cells -/
theorem rt_new {S T : Sto} {P : DK} {E : Ex} {d : D} (hS : S.all (lo S.length) = true) (hd : thw S.length (S ++ T) d = some d) (h : P d S) : (endsOf S.length P E).rt d (S ++ T) := by
  have e : (S ++ T).take S.length = S := List.take_left
  exact .inr ⟨d, hd, by rw [e]; exact hS, by rw [e]; exact h⟩
theorem set_last {S : Sto} {c d : D} : (S ++ [c]).set S.length d = S ++ [d] := by
  rw [List.set_append_right _ _ (Nat.le_refl _), Nat.sub_self]
  rfl
theorem get_last {S : Sto} {c : D} : (S ++ [c])[S.length]? = some c := by simp
theorem val_lastT {S : Sto} {es : TD} : val (S ++ [.dt es]) (.loc S.length) = .dt es := by
  show cont ((S ++ [D.dt es]).getD S.length .non) (.loc S.length) = _
  rw [List.getD_eq_getElem?_getD, get_last]
  rfl
theorem lot_enc (n : Nat) : ∀ t : Tab, lot n (encT t) = true
  | [] => rfl
  | e :: t => by
    show (true && lot n (encT t)) = true
    rw [lot_enc n t]
    rfl
def rowD (r : Pl × Int) : D := .tup [.int r.1.1, .int r.1.2, .int r.2]
theorem tk_pl (a b : Int) : tkOf (.tup [.int a, .int b]) = some (kP (a, b)) := rfl
end DL
namespace DL
open PySem PySem.Spec PyProof.Rows L2
theorem getD_int (o : Option Int) : (o.map D.int).getD (.int 0) = .int (o.getD 0) := by cases o <;> rfl
theorem tput_len (t : Tab) (p : Pl) (c : Int) : (tput t p c).length ≤ t.length + 1 := by
  unfold tput
  split
  · rw [List.length_map]; omega
  · rw [List.length_append]; simp
theorem tput_new {t : Tab} {p : Pl} (c : Int) (h : p ∉ t.map (·.1)) : tput t p c = t ++ [(p, c)] := by
  unfold tput
  rw [if_neg fun z => h (any_iff.mp z)]
theorem src_last {S : Sto} {j : Nat} {all : List D} {es fs : TD} (e : (S ++ [D.dt es])[j]? = some (.lst all)) : (S ++ [D.dt fs])[j]? = some (.lst all) := by
  by_cases h : j < S.length
  · rw [List.getElem?_append_left h] at e ⊢
    exact e
  · rw [List.getElem?_append_right (by omega)] at e
    cases q : j - S.length with
    | zero => rw [q] at e; cases e
    | succ k => rw [q] at e; cases e
def plD (p : Pl) : D := .tup [.int p.1, .int p.2]
theorem tk_plD (p : Pl) : tkOf (plD p) = some (kP p) := rfl
theorem keys_encP (t : Tab) : keysT (encT t) = t.map fun e => plD e.1 := keys_enc t
end DL
namespace DL
open PySem PySem.Spec PyProof.Rows L2
theorem retire_of {v i : Nat} {w : DWS} {Y : DEnds} {ρ : Loc} {S : Sto} {es : TD} (h1 : ρ[v]? = some (some (.loc i))) (h2 : S[i]? = some (.dt es)) : wsRetire v w Y ρ S = w Y (ρ.set v (some (.dt es))) (S.set i .non) := by
  unfold wsRetire
  rw [h1]
  show (match S[i]? with
    | some (.dt es) => w Y (ρ.set v (some (.dt es))) (S.set i .non)
    | _ => False) = _
  rw [h2]
theorem dcW_leaves {i : Nat} {tt : DWT} {tk tv : DW} {ρ : Loc} {P : TD → Sto → Prop} {S : Sto} (f : Int → Int) (T : Tab) (htt : ∀ e ∈ T, ∀ Q : Bool → Sto → Prop, Q (!decide (f e.2 = 0)) S → tt (ρ.set i (some (plD e.1))) S Q EF)
    (htk : ∀ e ∈ T, ∀ Q : DK, Q (plD e.1) S → tk (ρ.set i (some (plD e.1))) S Q EF) (htv : ∀ e ∈ T, ∀ Q : DK, Q (.int (f e.2)) S → tv (ρ.set i (some (plD e.1))) S Q EF) :
    ∀ (R acc : Tab), (∀ e ∈ R, e ∈ T) → (R.map (·.1)).Nodup → (∀ e ∈ R, e.1 ∉ acc.map (·.1)) → acc.length + R.length < 1000000 → P (encT (acc ++ leaves f R)) S → dcW (wgName i) tt tk tv ρ P (R.map fun e => plD e.1) (encT acc) S
  | [], acc, _, _, _, _, h => by
    have e : acc ++ leaves f [] = acc := by simp [leaves]
    rw [e] at h
    exact h
  | e :: R, acc, hm, hn, hd, hl, h => by
    rw [List.map_cons, List.nodup_cons] at hn
    rw [List.length_cons] at hl
    have he := hm e (List.mem_cons_self ..)
    refine htt e he _ ?_
    by_cases q : f e.2 = 0
    · rw [decide_eq_true q]
      refine dcW_leaves f T htt htk htv R acc (fun x hx => hm x (List.mem_cons_of_mem _ hx)) hn.2 (fun x hx => hd x (List.mem_cons_of_mem _ hx)) (by omega) ?_
      have e1 : leaves f (e :: R) = leaves f R := by
        unfold leaves
        rw [List.filterMap_cons, if_pos q]
      rw [e1] at h
      exact h
    · rw [decide_eq_false q]
      refine htk e he _ (htv e he _ ⟨by rw [len_enc]; omega, ?_⟩)
      have e1 : leaves f (e :: R) = (e.1, f e.2) :: leaves f R := by
        unfold leaves
        rw [List.filterMap_cons, if_neg q]
      have e2 : putT (encT acc) (kP e.1) (.int (f e.2)) = encT (acc ++ [(e.1, f e.2)]) := by
        rw [put_enc, tput_new _ (hd e (List.mem_cons_self ..))]
      show dcW (wgName i) tt tk tv ρ P (R.map fun e => plD e.1) (putT (encT acc) (kP e.1) (.int (f e.2))) S
      rw [e2]
      refine dcW_leaves f T htt htk htv R _ (fun x hx => hm x (List.mem_cons_of_mem _ hx)) hn.2 (fun x hx z => ?_) (by rw [List.length_append, List.length_singleton]; omega) ?_
      · rw [List.map_append, List.mem_append] at z
        rcases z with z | z
        · exact hd x (List.mem_cons_of_mem _ hx) z
        · have e3 : x.1 = e.1 := by simpa using z
          exact hn.1 (by rw [← e3]; exact List.mem_map_of_mem hx)
      · rw [e1] at h
        rw [List.append_assoc]
        exact h
end DL
namespace DL
open PySem PySem.Spec PyProof.Rows L2
theorem lcW_filt {α : Type} {i : Nat} {tt : DWT} {te : DW} {ρ : Loc} {P : List D → Sto → Prop} {S : Sto} (g v : α → D) (b : α → Bool) (T : List α) (htt : ∀ e ∈ T, ∀ Q : Bool → Sto → Prop, Q (b e) S → tt (ρ.set i (some (g e))) S Q EF)
    (hte : ∀ e ∈ T, ∀ Q : DK, Q (v e) S → te (ρ.set i (some (g e))) S Q EF) : ∀ (R : List α) (acc : List D), (∀ e ∈ R, e ∈ T) → acc.length + R.length ≤ 1000000 → P (acc ++ (R.filter b).map v) S → lcW (wgName i) tt te ρ P (R.map g) acc S
  | [], acc, _, hl, h => ⟨by simpa using hl, by simpa using h⟩
  | e :: R, acc, hm, hl, h => by
    rw [List.length_cons] at hl
    refine ⟨by omega, ?_⟩
    refine htt e (hm e (List.mem_cons_self ..)) _ ?_
    cases q : b e with
    | false =>
      rw [List.filter_cons, q] at h
      exact lcW_filt g v b T htt hte R acc (fun x hx => hm x (List.mem_cons_of_mem _ hx)) (by omega) h
    | true =>
      rw [List.filter_cons, q] at h
      refine hte e (hm e (List.mem_cons_self ..)) _ ?_
      refine lcW_filt g v b T htt hte R (acc ++ [v e]) (fun x hx => hm x (List.mem_cons_of_mem _ hx)) (by rw [List.length_append, List.length_singleton]; omega) ?_
      rw [List.append_assoc]
      exact h
theorem pairs_leaves (f : Int → Int) : ∀ T : Tab, pairsT ((T.filter fun e => !decide (f e.2 = 0)).map fun e => .tup [plD e.1, .int (f e.2)]) = some (encT (leaves f T))
  | [] => rfl
  | e :: T => by
    have ih := pairs_leaves f T
    unfold leaves at ih ⊢
    rw [List.filter_cons, List.filterMap_cons]
    by_cases q : f e.2 = 0
    · rw [if_pos q, decide_eq_true q]
      exact ih
    · rw [if_neg q, decide_eq_false q]
      show (match tkOf (plD e.1), pairsT _ with
        | some q, some r => some ((q, D.int (f e.2)) :: r)
        | _, _ => none) = _
      rw [tk_plD, ih]
      rfl
theorem putAll_enc : ∀ (R acc : Tab), (R.map (·.1)).Nodup → (∀ e ∈ R, e.1 ∉ acc.map (·.1)) → putAllT (encT R) (encT acc) = encT (acc ++ R)
  | [], acc, _, _ => by rw [List.append_nil]; rfl
  | e :: R, acc, hn, hd => by
    rw [List.map_cons, List.nodup_cons] at hn
    show putAllT (encT R) (putT (encT acc) (kP e.1) (.int e.2)) = _
    rw [put_enc, tput_new _ (hd e (List.mem_cons_self ..)), putAll_enc R _ hn.2 (fun x hx z => ?_), List.append_assoc]
    · rfl
    · rw [List.map_append, List.mem_append] at z
      rcases z with z | z
      · exact hd x (List.mem_cons_of_mem _ hx) z
      · have e3 : x.1 = e.1 := by simpa using z
        exact hn.1 (by rw [← e3]; exact List.mem_map_of_mem hx)
theorem tally_len : ∀ (rs : List (Pl × Int)) (t : Tab), (tally rs t).length ≤ t.length + rs.length
  | [], t => Nat.le_refl _
  | r :: rs, t => by
    have h1 := tally_len rs (tput t r.1 ((tget t r.1).getD 0 + r.2))
    have h2 := tput_len t r.1 ((tget t r.1).getD 0 + r.2)
    rw [List.length_cons]
    exact Nat.le_trans h1 (by omega)
end DL
set_option maxRecDepth 100000
namespace DL
open PySem PySem.Spec PyProof.Rows L2
/-! ### a list == [] , told by the lengths alone -/
def rEmp (K : PySem.W.Frag) (neg : Bool) : R2 := fun x y H Q => ∃ a b xs ys, x = .ref a ∧ y = .ref b ∧ SqL K H a xs ∧ SqL K H b ys ∧ (xs.length = 0 ∨ ys.length = 0) ∧ Q (.bl (if neg then !decide (xs.length = ys.length) else decide (xs.length = ys.length))) H
theorem op_eqE {X : Cx} (hu : X.A.units + 64 < cLine) : OpR X (compareOp .Eq) (rEmp X.K false) := by
  intro pins s σ H x y v u Q I rx ry h
  obtain ⟨a, b, xs, ys, rfl, rfl, ha, hb, hz, q⟩ := h
  cases (show v = Value.ref a from rx)
  cases (show u = Value.ref b from ry)
  by_cases e : xs.length = ys.length
  · have e1 : xs = [] := List.eq_nil_of_length_eq_zero (by omega)
    have e2 : ys = [] := List.eq_nil_of_length_eq_zero (by omega)
    subst e1 e2
    exact op_eqD hu _ _ _ _ (.ref a) (.ref b) _ _ _ I rfl rfl ⟨.list [], .list [], .lst ha .nil, .lst hb .nil, rfl, rfl, q⟩
  · obtain ⟨us, r1, p1, _⟩ := I.list ha
    obtain ⟨ws, r2, p2, _⟩ := I.list hb
    refine SeqAt.RcAt.lists_lengths p1.isList p2.isList (by rw [List.size_toArray, List.size_toArray, ← r1.length, ← r2.length]; simpa using e) (by omega) X.prog X.w _ _ ?_
    rw [if_neg (by decide), decide_eq_false e] at q
    exact ⟨.bl false, H, I, rfl, q⟩
theorem op_neE {X : Cx} (hu : X.A.units + 64 < cLine) : OpR X (compareOp .NotEq) (rEmp X.K true) := by
  intro pins s σ H x y v u Q I rx ry h
  obtain ⟨a, b, xs, ys, rfl, rfl, ha, hb, hz, q⟩ := h
  cases (show v = Value.ref a from rx)
  cases (show u = Value.ref b from ry)
  by_cases e : xs.length = ys.length
  · have e1 : xs = [] := List.eq_nil_of_length_eq_zero (by omega)
    have e2 : ys = [] := List.eq_nil_of_length_eq_zero (by omega)
    subst e1 e2
    exact op_neD hu _ _ _ _ (.ref a) (.ref b) _ _ _ I rfl rfl ⟨.list [], .list [], .lst ha .nil, .lst hb .nil, rfl, rfl, q⟩
  · obtain ⟨us, r1, p1, _⟩ := I.list ha
    obtain ⟨ws, r2, p2, _⟩ := I.list hb
    refine SeqAt.RcNeAt.lists_lengths p1.isList p2.isList (by rw [List.size_toArray, List.size_toArray, ← r1.length, ← r2.length]; simpa using e) (by omega) X.prog X.w _ _ ?_
    rw [if_pos rfl, decide_eq_false e] at q
    exact ⟨.bl true, H, I, rfl, q⟩
def empD (neg : Bool) : DF2 := fun x y S P => match val S x, val S y with
  | .lst xs, .lst ys => (xs = [] ∨ ys = []) ∧ P (.bl (if neg then !decide (xs.length = ys.length) else decide (xs.length = ys.length))) S
  | _, _ => False
theorem opd_emp {K : PySem.W.Frag} {neg : Bool} : OpD K (rEmp K neg) (empD neg) := by
  intro M mu H S x y v u P Q ok rx ry h n
  unfold empD at h
  cases e1 : val S x with
  | lst xs =>
    cases e2 : val S y with
    | lst ys =>
      simp only [e1, e2] at h
      obtain ⟨a, vs, rfl, ha, ra⟩ := seq_lst ok rx e1
      obtain ⟨b, us, rfl, hb, rb⟩ := seq_lst ok ry e2
      have l1 := ra.len
      have l2 := rb.len
      refine ⟨a, b, vs, us, rfl, rfl, SqL.of ha, SqL.of hb, ?_, ?_⟩
      · rcases h.1 with e | e
        · subst e; exact .inl l1.symm
        · subst e; exact .inr l2.symm
      · rw [← l1, ← l2]
        exact n _ H (.bl _) S (.refl _ _) ok rfl h.2
    | _ => simp only [e1, e2] at h
  | _ => simp only [e1] at h
end DL
set_option maxRecDepth 100000
namespace DL
open PySem PySem.Spec PyProof.Rows L2
/-! ### enumerate(tuple) -/
set_option maxHeartbeats 1000000 in
theorem meets_enum1 {v : Value} {o : Obj} {HH : Heap → Prop} (B : Begins v o HH) :
    Meets (Builtin.«enumerate.__new__» ⟨[.type "enumerate", v], []⟩) (fun _ R s => HH s.heap ∧
      R (.ok (.ret (.ref (s.heap.push o).objs.size))) { s with heap := (s.heap.push o).push { cls := .type "enumerate", data := .fields #[.none, .bool false, .ref s.heap.objs.size, rawInt 0, .none, .none] } }) :=
  .of_wp fun prog w A R s h => by
    obtain ⟨hp, g, d, tk, os⟩ := s; obtain ⟨h1, h⟩ := h
    have hsub := sub_enumerate
    have q1 : ∀ {A' : Around} {E : Value → Shared → Prop} {Q : Value → Shared → Prop}, Q (.ref hp.objs.size) ⟨hp.push o, g, d, tk, os⟩ → wpAny (model prog w) A' (pyIter v) Q E ⟨hp, g, d, tk, os⟩ :=
      fun q => B.iter prog w _ _ ⟨hp, g, d, tk, os⟩ _ h1 q
    wp_walk using q1
    refine wpAny_stack_any fun st => wpAny_pure ?_
    split
    · rename_i c _ _ _ _ _
      cases (c == Value.type "enumerate")
      · wp_walk using q1
        exact ⟨_, rfl, h⟩
      · wp_walk using q1
        exact ⟨_, rfl, h⟩
    · wp_walk using q1
      exact ⟨_, rfl, h⟩
theorem enum_begins1 {prog : Program} {w : World} {A : Around} {E : Value → Shared → Prop} {s : Shared} {v : Value} {o : Obj} {HH : Heap → Prop} {Q : Value → Shared → Prop} (B : Begins v o HH) (h1 : HH s.heap)
    (h : ∀ h', IsEnum h' (s.heap.objs.size + 1) s.heap.objs.size 0 .none → h'.get? s.heap.objs.size = some o → h'.objs.size = s.heap.objs.size + 2 →
      (∀ b o, s.heap.get? b = some o → h'.get? b = some o) → Q (.ref (s.heap.objs.size + 1)) { s with heap := h' }) :
    wpAny (model prog w) A (call (.type "enumerate") [v]) Q E s := by
  refine callType_new F.called_enumerate (by decide) (F.typeCall_enumerate_1 _) (F.newCall_enumerate_1 _) (fun obj => F.args_object_init_2 obj _) F.entry_enumerate_new
    (meets_enum1 B) ⟨h1, ?_⟩
  have hz : (s.heap.push o).objs.size = s.heap.objs.size + 1 := Heap.size_push ..
  show _ ∧ _
  rw [hz]
  have he : IsEnum ((s.heap.push o).push { cls := .type "enumerate", data := .fields #[.none, .bool false, .ref s.heap.objs.size, rawInt 0, .none, .none] }) (s.heap.objs.size + 1) s.heap.objs.size 0 .none := by
    have := Heap.get?_push_size (s.heap.push o) (o := { cls := .type "enumerate", data := .fields #[.none, .bool false, .ref s.heap.objs.size, rawInt 0, .none, .none] }) rfl
    rw [hz] at this; exact this
  refine ⟨⟨_, he, rfl⟩, h _ he (Heap.get?_push_of_some _ (Heap.get?_push_size _ B.free)) (by rw [Heap.size_push, hz]) fun b o x => Heap.get?_push_of_some _ (Heap.get?_push_of_some _ x)⟩
theorem next_enumT_end {prog : Program} {w : World} {A : Around} {E : Value → Shared → Prop} {s : Shared} {e it t : Addr} {items : Array Value} {k : Nat} {i : Int} {old : Value} {Q : Option Value → Shared → Prop}
    (hh : A.in1.handled = none) (he : IsEnum s.heap e it i old) (h1 : s.heap.IsTupleIter it t k) (h2 : s.heap.IsTuple t items) (hk : items.size ≤ k)
    (hQ : ∀ h', Heap.ExtBut it s.heap h' → Q none { s with heap := h' }) : wpAny (model prog w) A (pyNext (.ref e)) Q E s := by
  have hT : s.TypeIs (.ref e) "enumerate" := ⟨_, he, rfl⟩
  unfold pyNext
  refine wpAny_bind (wpAny_attempt (wpAny_callSpecial?_slot (name := Str.ofString "__next__") hT F.slot_enumerate_next
    (wpAny_call_entry F.slot_enumerate_next hT F.entry_enumerate_next ?_ (F.args_enumerate_next_1 _))))
  show wpAny _ _ (field (.ref e) 2 >>= _) _ _ _
  refine wpAny_bind (wpAny_field he rfl (x := .ref it) rfl ?_)
  refine wpAny_bind (wpAny_nextOf_tuple_end hh h1 h2 (Array.getElem?_eq_none hk) fun h' x he' hx' => ?_)
  obtain ⟨o, ho, hc⟩ := hx'
  refine wpAny_bind (wpAny_isInstance (T := "StopIteration") (b := true) ⟨o, ho, hc⟩ isSubtype_stop ?_)
  exact wpAny_pure (hQ _ he')
/-- the tuple at a, each item in a new pair -/
def IteT (K : PySem.W.Frag) (a : Addr) : It :=
  ⟨fun i H => ∃ (xs : List V) (x : V), SqT K H a xs ∧ xs[i]? = some x, fun i H v H' => ∃ T x, v = .ref T ∧ H T = none ∧ H' = upd H T (.tup [.int (i : Nat), x]) ∧ ∀ xs, SqT K H a xs → xs[i]? = some x, fun i H => ∃ xs : List V, SqT K H a xs ∧ xs.length ≤ i⟩
theorem turn_enumT {P : Program} {w : World} {K : PySem.W.Frag} {elts : List Expr} {kk : Nat} {tpos : Pos} (a e it : Addr) (hai : a ≠ it) :
    Turn P w K (.Tuple elts kk tpos) (IteT K a) [e, it] e (fun i h => (∃ old, IsEnum h e it ((i : Nat) : Int) old) ∧ h.IsTupleIter it a i ∧ e ≠ it ∧ e ≠ a) where
  mem := by simp
  obj := fun i h st b hb => by
    obtain ⟨⟨old, he⟩, ⟨o, ho, hc, hd⟩, _⟩ := st
    have e' : b = e ∨ b = it := by simpa using hb
    rcases e' with z | z
    · rw [z]; exact ⟨_, he, fun v q => nomatch q⟩
    · rw [z]; exact ⟨o, ho, fun v q => by rw [hd] at q; cases q⟩
  keep := fun i h h' st k => let ⟨⟨old, he⟩, hi, hne⟩ := st; ⟨⟨old, k e (by simp) _ he⟩, hi.at fun o q => k it (by simp) o q, hne⟩
  item := by
    intro X hP hw hK hc i pins s σ H E I hf st hg
    subst hP hw hK
    obtain ⟨⟨old, he⟩, hit, hne, hea⟩ := st
    obtain ⟨xs, x, hq, hx⟩ := hg
    obtain ⟨its, rv, p, hz⟩ := I.tuple hq
    obtain ⟨u, hu, ru⟩ := rv.get hx
    have hel : e < s.heap.objs.size := Heap.lt_size he
    have hil : it < s.heap.objs.size := by obtain ⟨_, q, _⟩ := hit; exact Heap.lt_size q
    have hul : i < its.toArray.size := by simpa using (List.getElem?_eq_some_iff.mp hu).1
    refine wpAny_pyNext_enum_itemD (Draws.tuple (prog := X.prog) (w := X.w) (A := X.A.in1) (I.ok.hd hc) it a hai its.toArray) he ⟨hit, p⟩ hul hne (by simp [hne, hea]) fun x' h' tk hP ho hst hT hsz hk => ?_
    obtain ⟨hit', _⟩ := hst
    obtain rfl : u = x' := by
      have hP' : its.toArray[i]? = some x' := hP
      rw [List.getElem?_toArray, hu] at hP'
      exact Option.some.inj hP'
    refine ⟨_, rfl, wpAny_letOwnedTupleGo_enum (s := { s with heap := h', toks := tk + 1 }) ho fun h'' he' sb => ?_⟩
    have hT2 : h''.get? s.heap.objs.size = some { cls := .type "tuple", data := .seq #[.int i tk, u] } := (sb.2 _ (Nat.ne_of_gt hel)).trans hT
    have new : ObjOk X.prog X.w (upd H s.heap.objs.size (.tup [.int (i : Nat), x])) h'' s.heap.objs.size (.tup [.int (i : Nat), x]) :=
      ⟨by show 2 ≤ sizeLine; decide, [.int i tk, u], .cons ⟨_, rfl⟩ (.cons ru .nil), ⟨_, hT2, rfl, _, rfl⟩⟩
    have I1 : Inv X pins σ (upd H s.heap.objs.size (.tup [.int (i : Nat), x])) { s with heap := h'', toks := tk + 1 } :=
      I.turnedNew (ch := [e, it]) (fun b ob hb q => (sb.2 b (fun z => hb (by simp [z]))).trans (hk b ob (fun z => hb (by simp [z])) (fun z => hb (by simp [z])) q)) hf (Nat.le_refl _) new
    refine ⟨.ref s.heap.objs.size, _, I1, rfl, ⟨_, x, rfl, I.hok.fresh (Nat.le_refl _), rfl, fun ys hy => by rw [I.tuple_inj hy hq]; exact hx⟩, ⟨⟨u, ?_⟩, hit'.at fun o q => (sb.2 it (Ne.symm hne)).trans q, hne, hea⟩, fun b hb => ?_⟩
    · have e1 : ((i + 1 : Nat) : Int) = (i : Int) + 1 := by omega
      rw [e1]; exact he'
    · have hb' : b < s.heap.objs.size := by
        have e' : b = e ∨ b = it := by simpa using hb
        rcases e' with z | z
        · rw [z]; exact hel
        · rw [z]; exact hil
      rw [upd_ne (Nat.ne_of_lt hb')]
      exact (hf b hb).1
  done := by
    intro X hP hw hK hc i pins s σ H E I hf st hg
    subst hP hw hK
    obtain ⟨⟨old, he⟩, hit, hne, hea⟩ := st
    obtain ⟨xs, hq, hx⟩ := hg
    obtain ⟨its, rv, p, hz⟩ := I.tuple hq
    obtain ⟨f0, f1, f2, f3, f4, f5⟩ := hf it (by simp)
    have hl := rv.length
    exact next_enumT_end (I.ok.hd hc) he hit p (by simp; omega) fun h' eb => ⟨rfl, I.turned (t' := s.toks) (fun b o hb q => eb b o hb q) f0 f1 f3 f4 f5⟩
  self := fun A i s Q E st h => let ⟨⟨_, he⟩, _⟩ := st; wpAny_pyIter_enum he h
def iEnumT (K : PySem.W.Frag) (ta : TA) : TI := fun σ H R => ta σ H fun vs H1 => ∃ a xs, vs = [.ref a] ∧ ((SqL K H1 a xs ∧ R (Ite K a) H1) ∨ (SqT K H1 a xs ∧ R (IteT K a) H1))
theorem pi_enumT {X : Cx} {e : Expr} {ta : TA} {p pos tpos : Pos} {elts : List Expr} {kk : Nat} (hg : Gl X "enumerate") (hm : X.mg "enumerate" = none) (ha : PA X [e] ta) (hs : starEach [e] X.env = [(false, eval e X.env)] := by rfl) :
    PI X (.Tuple elts kk tpos) (.Call (.Name "enumerate" p) [e] [] pos) (iEnumT X.K ta) := by
  refine ⟨fun pins s σ H R I h => ?_⟩
  refine Call_ (ld_blt I hg hm boot_enumerate (PyProof.Rows.callWith_type1 (thn (ha.run pos pins s σ H _ I h) fun us s1 ⟨vs, H1, I1, r1, q1⟩ => ?_) hs rfl))
  obtain ⟨a, xs, ex, q1⟩ := q1
  subst ex
  cases r1 with
  | cons r rr =>
    cases rr
    cases r
    have fp : ∀ b ∈ [s1.heap.objs.size + 1, s1.heap.objs.size], _ := fun b hb => (show s1.heap.objs.size ≤ b by
      have e' : b = s1.heap.objs.size + 1 ∨ b = s1.heap.objs.size := by simpa using hb
      rcases e' with z | z
      · rw [z]; exact Nat.le_add_right _ _
      · rw [z]; exact Nat.le_refl _)
    rcases q1 with ⟨hq, q⟩ | ⟨hq, q⟩
    · obtain ⟨its, rv, p', hz⟩ := I1.list hq
      refine call_enumerate_list p'.isList fun h' he hit hsz hk => wpAny_pyIter_enum he ?_
      have I2 : Inv X pins σ H1 { s1 with heap := h' } := I1.kept (t' := s1.toks) hk
      exact ⟨s1.heap.objs.size + 1, [s1.heap.objs.size + 1, s1.heap.objs.size], _, _, H1, rfl, I2, turn_enum a (s1.heap.objs.size + 1) s1.heap.objs.size, ⟨⟨.none, he⟩, hit, Nat.succ_ne_self _⟩, fun b hb => I1.fpOk (fp b hb) (I1.hok.fresh (fp b hb)), q⟩
    · obtain ⟨its, rv, p', hz⟩ := I1.tuple hq
      have al : a < s1.heap.objs.size := by obtain ⟨o, ho, _⟩ := p'; exact Heap.lt_size ho
      refine enum_begins1 (begins_tuple a its.toArray) p' fun h' he hit hsz hk => wpAny_pyIter_enum he ?_
      have I2 : Inv X pins σ H1 { s1 with heap := h' } := I1.kept (t' := s1.toks) hk
      exact ⟨s1.heap.objs.size + 1, [s1.heap.objs.size + 1, s1.heap.objs.size], _, _, H1, rfl, I2, turn_enumT a (s1.heap.objs.size + 1) s1.heap.objs.size (Nat.ne_of_lt al), ⟨⟨.none, he⟩, ⟨_, hit, rfl, rfl⟩, Nat.succ_ne_self _, Nat.ne_of_gt (Nat.lt_succ_of_lt al)⟩, fun b hb => I1.fpOk (fp b hb) (I1.hok.fresh (fp b hb)), q⟩
/-! told of trees -/
def wiEnumA (w : DWA) : DWI := fun ρ S P E => w ρ S (fun xs S1 => match xs with
  | [.lst ds] => P (enumD ds) none S1
  | [.tup ds] => P (enumD ds) none S1
  | [.ktp ds] => P (enumD ds) none S1
  | [.loc i] => (match val S1 (.loc i) with
    | .lst ds => P (enumD ds) (some (i, ds)) S1
    | _ => False)
  | _ => False) E
theorem itOk_enumT {K : PySem.W.Frag} {M : Addr → Prop} {mu : List Addr} {H : Hp} {a : Addr} {vs : List V} {ds : List D} (ha : H a = some (.tup vs) ∨ SqTK K a vs) (r : Rs K M mu H ds vs) : ItOk K (IteT K a) M mu H (enumD ds) none := fun M' mu' H' S' ex ok _ i => by
  have h' : SqT K H' a vs := ha.elim (fun q => SqT.of (ex.toExt0.keepM a _ q (.inr isF_tup))) fun q => q.to
  have r' := Rs.mono ex.toExt0 _ _ r
  have hl : (enumD ds).length = ds.length := by simp [enumD]
  refine ⟨fun d hd => ?_, fun hi => ⟨vs, h', by rw [← r.len, ← hl]; exact hi⟩⟩
  have hi : i < ds.length := by rw [← hl]; exact (List.getElem?_eq_some_iff.mp hd).1
  have e1 : ds[i]? = some (ds.getD i .non) := by rw [List.getD_eq_getElem?_getD, List.getElem?_eq_getElem hi]; rfl
  have e2 : d = .tup [.int (i : Nat), ds.getD i .non] := by
    unfold enumD at hd
    rw [List.getElem?_map, List.getElem?_range hi] at hd
    exact (Option.some.inj hd).symm
  obtain ⟨v, hv, rv⟩ := r'.get e1
  refine ⟨⟨vs, v, h', hv⟩, fun x H2 y => ?_⟩
  obtain ⟨T, z, rfl, nT, rfl, hz⟩ := y
  obtain rfl : v = z := Option.some.inj (hv.symm.trans (hz vs (h')))
  rw [e2]
  exact new2 ok nT rfl rv
theorem di_enumA {X : Cx} {W : WX} {e : Expr} {w : DWA} {p pos tpos : Pos} {elts : List Expr} {kk : Nat} (hg : Gl X "enumerate") (hm : X.mg "enumerate" = none) (ha : DA X W [e] w) (hs : starEach [e] X.env = [(false, eval e X.env)] := by rfl) :
    DI X W (.Tuple elts kk tpos) (.Call (.Name "enumerate" p) [e] [] pos) (wiEnumA w) := by
  obtain ⟨_, pa, ra⟩ := ha.ex
  refine ⟨_, pi_enumT hg hm pa hs, ⟨fun M mu σ ρ S H P E Q ok en hw n x => ?_⟩⟩
  refine ra.run M mu σ ρ S H _ E _ ok en hw (fun vs H1 ds S1 k1 ok1 r1 h1 => ?_) x
  split at h1
  · rename_i l
    obtain ⟨v, rfl, a, ys, rfl, hm1, ha1, rr⟩ := r1.one
    exact ⟨a, ys, rfl, .inl ⟨SqL.of ha1, n _ H1 _ none S1 k1 ok1 (itOk_enum hm1 ha1 rr) True.intro h1⟩⟩
  · rename_i l
    obtain ⟨v, rfl, a, ys, rfl, ha1, rr⟩ := r1.one
    exact ⟨a, ys, rfl, .inr ⟨SqT.of ha1, n _ H1 _ none S1 k1 ok1 (itOk_enumT (.inl ha1) rr) True.intro h1⟩⟩
  · rename_i l
    obtain ⟨v, rfl, a, ys, rfl, ha1, rr⟩ := r1.one
    exact ⟨a, ys, rfl, .inr ⟨ha1.to, n _ H1 _ none S1 k1 ok1 (itOk_enumT (.inr ha1) rr) True.intro h1⟩⟩
  · rename_i i
    obtain ⟨v, rfl, rv⟩ := r1.one
    cases q : val S1 (.loc i) with
    | lst ds =>
      simp only [q] at h1
      obtain ⟨a, rfl, ha⟩ := rv
      obtain ⟨vs, h3, h4⟩ : Cl X.K M mu H1 (.lst ds) a := ok1.at_ i a _ ha (val_loc q (by simp))
      exact ⟨a, vs, rfl, .inl ⟨SqL.of h3, n _ H1 _ (some (i, ds)) S1 k1 ok1 (itOk_enumL ha) (val_loc q (by simp)) h1⟩⟩
    | _ => simp only [q] at h1
  · exact h1.elim
theorem wiEnumA_ap {w : DWA} {ρ : Loc} {S : Sto} {P : List D → Src → Sto → Prop} {E : Ex} : wiEnumA w ρ S P E = (w ρ S (fun xs S1 => match xs with
  | [.lst ds] => P (enumD ds) none S1
  | [.tup ds] => P (enumD ds) none S1
  | [.ktp ds] => P (enumD ds) none S1
  | [.loc i] => (match val S1 (.loc i) with
    | .lst ds => P (enumD ds) (some (i, ds)) S1
    | _ => False)
  | _ => False) E) := rfl
end DL
set_option maxRecDepth 100000
namespace PySem
/-! bool(x), x an own instance -/
theorem bool_new_own {prog : Program} {w : World} {a : Addr} : MeetsIn prog w (Builtin.«bool.__new__» ⟨[.type "bool", .ref a], []⟩) (fun A R s => wpAny (model prog w) A.in1 (truthy (.ref a)) (fun b s' => R (.ok (.ret (.bool b))) s') (fun _ _ => False) s) :=
  .of_wp fun A R s h => by
    obtain ⟨hp, g, d, tk, os⟩ := s
    have f1 := F.conv_sub_bool
    repeat (any_goals (first | assumption | (with_reducible refine wpAny_mono h (fun b s' q => ?_) (fun _ _ x => x.elim)) | wp_step))
    exact ⟨_, rfl, q⟩
theorem call_bool_own {prog : Program} {w : World} {A : Around} {E : Value → Shared → Prop} {s : Shared} {a : Addr} {Q : Value → Shared → Prop} (h : wpAny (model prog w) A.in1.in1 (truthy (.ref a)) (fun b s' => Q (.bool b) s') (fun _ _ => False) s) : wpAny (model prog w) A (call (.type "bool") [.ref a]) Q E s :=
  callType_newIn F.called_bool F.newNe_bool (F.typeCall_bool_1 _) (F.newCall_bool_1 _) (fun obj => F.args_object_init_2 obj _) F.entry_bool_new bool_new_own (wpAny_mono h (fun b s' q => ⟨rfl, q⟩) fun _ _ x => x)
end PySem
namespace DL
open PySem PySem.Spec PyProof.Rows L2
section
variable {X : Cx} {C : Addr} {k : Nat} {ps : List Str} {sp : DSp} {f : Addr} {fd : FuncData}
def rBoolOwn (K : PySem.W.Frag) (C : Addr) (sp : DSp) : List V → Hp → VK → Prop := fun xs H Q => ∃ a dx fs, xs = [.ref a] ∧ H a = some (.ins C dx fs) ∧ spE K sp xs H fun z H' => ∃ b, z = .bl b ∧ Q (.bl b) H'
theorem call_boolOwn (hr : Room (k + 2) X.A) (F : FnOk X.prog X.w X.K X.mg X.base CX0 k f fd ps (toSp X.K sp)) (hb : Binds X.K fd ps []) (hm : Meth X.K C "__bool__" f) : CallR X (.type "bool") (rBoolOwn X.K C sp) := by
  intro pins s σ H xs us Q I r h
  obtain ⟨a, dx, fs, rfl, ha, q⟩ := h
  obtain ⟨u, rfl, ru⟩ := r.one
  cases (show u = Value.ref a from ru)
  obtain ⟨od, J⟩ := insAt I ha
  obtain ⟨mm, hF⟩ := I.fr
  refine call_bool_own (PySem.W.truthy_K hF I.ok.mod.kin J hm.at_ hm.fn (wpAny_mono (run_fnA (us := [.ref a]) (vs := [.ref a]) F hr.in1.in1 I.env0.in1.in1 hb I (.cons rfl .nil) q) (fun w s' z => ?_) fun _ _ x => x))
  obtain ⟨z', H', I', rz, b, rfl, qz⟩ := z
  cases rz
  exact ⟨.bl b, H', I', rfl, qz⟩
end
section
variable {K : PySem.W.Frag} {C : Addr} {sp : DSp}
def boolOwnD (C : Addr) (sp : DSp) : DFn := fun xs S P => match xs with
  | [x] => isObjD C S x ∧ sp [x] S (blP P) EF
  | _ => False
theorem calld_boolOwn : CallD K (rBoolOwn K C sp) (boolOwnD C sp) := by
  intro M mu H S xs vs P Q ok r h n
  unfold boolOwnD at h
  split at h
  · rename_i x
    obtain ⟨v, rfl, rv⟩ := r.one
    obtain ⟨a, dx, fs, rfl, ha⟩ := isObj_ok ok rv h.1
    refine ⟨a, dx, fs, rfl, ha, spE_of ok (rs_1 rv) h.2 fun z H' d' S' k' ok' r' h' => ?_⟩
    cases d' with
    | bl b =>
      obtain rfl : z = .bl b := r'
      exact ⟨b, rfl, n _ H' (.bl b) S' k' ok' rfl h'⟩
    | _ => exact h'.elim
  · exact h.elim
end
/-! not x, x an own instance -/
section
variable {X : Cx} {W : WX} {C : Addr} {k : Nat} {ps : List Str} {sp : DSp} {f : Addr} {fd : FuncData} {e : Expr} {we : DW} {pos : Pos}
def wNotOwn (C : Addr) (sp : DSp) (we : DW) : DW := fun ρ S P E => we ρ S (fun x S1 => isObjD C S1 x ∧ sp [x] S1 (truP fun b S2 => P (.bl (!b)) S2) EF) E
theorem de_notOwn (hr : Room k X.A) (F : FnOk X.prog X.w X.K X.mg X.base CX0 k f fd ps (toSp X.K sp)) (hb : Binds X.K fd ps []) (hm : Meth X.K C "__bool__" f) (he : DE X W e we) : DE X W (.UnaryOp .Not e pos) (wNotOwn C sp we) := by
  obtain ⟨t, p, r⟩ := he.ex
  refine ⟨fun σ H Q => t σ H fun v H1 => ∃ a dx fs, v = .ref a ∧ H1 a = some (.ins C dx fs) ∧ spE X.K sp [.ref a] H1 fun z H2 => ∃ b, z = .bl b ∧ Q (.bl (!b)) H2, ⟨fun pins s σ H Q I h => ?_⟩, ⟨fun M mu σ ρ S H P E Q ok en hw n x => ?_⟩⟩
  · refine UnaryOp_ (thn (p.run pins s σ H _ I h) fun u s1 ⟨x, H1, I1, rx, a, dx, fs, ex, ha, q⟩ => ?_)
    subst ex
    cases (show u = Value.ref a from rx)
    obtain ⟨od, J⟩ := insAt I1 ha
    obtain ⟨mm, hF⟩ := I1.fr
    refine not_of (PySem.W.truthy_K hF I1.ok.mod.kin J hm.at_ hm.fn (wpAny_mono (run_fnA (us := [.ref a]) (vs := [.ref a]) F hr I1.env0 hb I1 (.cons rfl .nil) q) (fun w s' z => ?_) fun _ _ x => x))
    obtain ⟨z', H', I', rz, b, rfl, qz⟩ := z
    cases rz
    exact ⟨.bl (!b), H', I', rfl, qz⟩
  · refine r.run M mu σ ρ S H _ E _ ok en hw (fun v H1 d S1 k1 ok1 r1 h1 => ?_) x
    obtain ⟨a, dx, fs, rfl, ha⟩ := isObj_ok ok1 r1 h1.1
    refine ⟨a, dx, fs, rfl, ha, spE_of ok1 (rs_1 r1) h1.2 fun z H' d' S' k' ok' r' h' => ?_⟩
    cases d' with
    | bl b =>
      obtain rfl : z = .bl b := r'
      exact ⟨b, rfl, n (.bl (!b)) H' (.bl (!b)) S' (k1.trans k') ok' rfl h'⟩
    | _ => exact h'.elim
end
/-! a class by its name; isinstance of it -/
section
variable {X : Cx} {W : WX} {C : Addr} {x : Str} {pos : Pos}
theorem de_gcls (hm : X.mg x = some (.ref C)) (hg : Gl X x := by rfl) (hd : (x == ("__debug__" : Str)) = false := by decide) : DE X W (.Name x pos) (wC (.cst C)) :=
  ⟨tC (.ref C), pe_glob hg hm rfl hd, ⟨fun M mu σ ρ S H P E Q ok en hw n x => n (.ref C) H (.cst C) S (.refl _ _) ok rfl hw⟩⟩
/-- what isinstance(x, C) asks: C, and that a dict is none -/
structure IsC (K : PySem.W.Frag) (C : Addr) : Prop where
  c : C8.InsC K C
  d : PySem.W.kitOne K (.type "dict") (.ref C) = some false
def rIsC (K : PySem.W.Frag) (C : Addr) : List V → Hp → VK → Prop := fun xs H Q => ∃ a, xs = [.ref a, .ref C] ∧ ((∃ dx fs, H a = some (.ins C dx fs) ∧ Q (.bl true) H) ∨ (∃ es, L2.Rd H a (.dT es) ∧ Q (.bl false) H))
theorem call_isCD (c : IsC X.K C) : CallR X (.builtin "isinstance") (rIsC X.K C) := by
  intro pins s σ H xs us Q I r h
  obtain ⟨a, rfl, h⟩ := h
  rcases h with ⟨dx, fs, ha, q⟩ | ⟨es, ha, q⟩
  · exact C8.call_isC c.c pins s σ H _ us Q I r ⟨a, dx, fs, rfl, ha, q⟩
  · obtain ⟨u, w', rfl, ru, rw'⟩ := vals2 r
    cases rw'
    cases (show u = Value.ref a from ru)
    obtain ⟨_, _, ys, _, ob, es', ep, hob, hx, _⟩ := dt_rd I.hok ha
    exact PySem.W.kia_one PySem.W.kitx_dict I.kIn ⟨ob, hob, hx.1⟩ c.d (fun z => nomatch z) fun tk => ⟨.bl false, H, I.tok _, rfl, q⟩
def isCD : DFn := fun xs S P => match xs with
  | [x, .cst C] => (match val S x with
    | .obj C' _ => C' = C ∧ P (.bl true) S
    | .dt _ => P (.bl false) S
    | _ => False)
  | _ => False
end
section
variable {K : PySem.W.Frag} {C : Addr}
def isCDof (C : Addr) : DFn := fun xs S P => match xs with
  | [x, .cst C'] => C' = C ∧ isCD [x, .cst C] S P
  | _ => False
theorem calld_isC : CallD K (rIsC K C) (isCDof C) := by
  intro M mu H S xs vs P Q ok r h n
  unfold isCDof at h
  split at h
  · rename_i x C'
    obtain ⟨rfl, h⟩ := h
    obtain ⟨v, u, rfl, rv, ru⟩ := r.two
    obtain rfl : u = .ref C' := ru
    unfold isCD at h
    cases e : val S x with
    | obj C2 fs =>
      simp only [e] at h
      obtain ⟨rfl, h⟩ := h
      obtain ⟨a, dx, gs, rfl, ha, _⟩ := obj_at ok rv e
      exact ⟨a, rfl, .inl ⟨dx, gs, ha, n _ H (.bl true) S (.refl _ _) ok rfl h⟩⟩
    | dt es =>
      simp only [e] at h
      obtain ⟨a, es', rfl, ha, _⟩ := dt_at ok rv e
      exact ⟨a, rfl, .inr ⟨es', ha, n _ H (.bl false) S (.refl _ _) ok rfl h⟩⟩
    | _ => simp only [e] at h
  · exact h.elim
end
/-! a new instance: what a caller knows -/
/-- C(..) with n values by position and the keywords ks: __init__'s parameters are gD [self] ds es -/
def NewC (P : Program) (w : World) (K : PySem.W.Frag) (mg : Str → Option Value) (base : Heap) (k : Nat) (x : Str) (C : Addr) (n : Nat) (ks : List Str) (sp : DSp) (gD : List D → List D → List D → List D) : Prop :=
  ∃ (f : Addr) (fd : FuncData) (ps : List Str) (g : List Value → List Value → List Value) (gV : List V → List V → List V), Mk K C f ∧ FnOk P w K mg base CX0 k f fd ps (toSp K sp) ∧ mg x = some (.ref C) ∧ KBn K fd ps (n + 1) ks g gV ∧ GRel K gD gV
theorem hideN {P : Program} {w : World} {K : PySem.W.Frag} {mg : Str → Option Value} {base : Heap} {k : Nat} {x : Str} {C : Addr} {n : Nat} {ks : List Str} {sp : DSp} {gD : List D → List D → List D → List D} (c : NewC P w K mg base k x C n ks sp gD) : ∃ sp' : DSp, NewC P w K mg base k x C n ks sp' gD ∧ ∀ ds S P E, sp ds S P E → sp' ds S P E := ⟨sp, c, fun _ _ _ _ h => h⟩
section
variable {X : Cx} {W : WX} {k j n : Nat} {C : Addr} {ks : List Str} {sp : DSp} {x : Str} {p pos : Pos} {e : Expr} {es : List Expr} {kws : List Keyword} {w wk : DWA} {gD : List D → List D → List D → List D}
theorem de_new (c : NewC X.prog X.w X.K X.mg X.base k x C n ks sp gD) (hr : Room j X.A) (ha : DA X W (e :: es) w) (hk : DKw X W kws wk) (hjk : k + 1 ≤ j := by first | decide | exact Nat.le_refl _ | omega) (hg : Gl X x := by rfl)
    (hall : (backToKw pos (keywordEach kws X.env)).all (·.1.isSome) = true := by rfl) (hks : (backToKw pos (keywordEach kws X.env)).filterMap (·.1) = ks := by rfl) (hdb : (x == ("__debug__" : Str)) = false := by decide)
    (he : starEach (e :: es) X.env = (false, eval e X.env) :: starEach es X.env := by rfl) (hpl : ((backTo pos (starEach (e :: es) X.env)).any (·.1) || (backToKw pos (keywordEach kws X.env)).any (·.1.isNone)) = false := by rfl) :
    DE X W (.Call (.Name x p) (e :: es) kws pos) (wMake C sp n ks.length gD w wk) :=
  let ⟨_, _, _, _, _, M, F, hm, hb, hgr⟩ := c; de_makeK M F (hr.mono hjk) hm hb hgr ha hk hg hall hks hdb he hpl
theorem de_new0 (c : NewC X.prog X.w X.K X.mg X.base k x C 0 ks sp gD) (hr : Room j X.A) (hk : DKw X W kws wk) (hjk : k + 1 ≤ j := by first | decide | exact Nat.le_refl _ | omega) (hg : Gl X x := by rfl)
    (hall : (backToKw pos (keywordEach kws X.env)).all (·.1.isSome) = true := by rfl) (hks : (backToKw pos (keywordEach kws X.env)).filterMap (·.1) = ks := by rfl) (hdb : (x == ("__debug__" : Str)) = false := by decide)
    (hpl : ((backTo pos (starEach [] X.env)).any (·.1) || (backToKw pos (keywordEach kws X.env)).any (·.1.isNone)) = false := by rfl) : DE X W (.Call (.Name x p) [] kws pos) (wMake C sp 0 ks.length gD wNil wk) :=
  let ⟨_, _, _, _, _, M, F, hm, hb, hgr⟩ := c; de_makeK0 M F (hr.mono hjk) hm hb hgr hk hg hall hks hdb hpl
end
/-! methods that hand back a fresh list -/
def MtFr (P : Program) (w : World) (K : PySem.W.Frag) (mg : Str → Option Value) (base : Heap) (k : Nat) (C : Addr) (m : Str) (ps : List Str) (sp : DSpF) : Prop := ∃ (f : Addr) (fd : FuncData), FnOk P w K mg base CX0 k f fd ps (toSpF K sp) ∧ Cls K C ∧ Meth K C m f ∧ Binds K fd ps []
theorem hideMF {P : Program} {w : World} {K : PySem.W.Frag} {mg : Str → Option Value} {base : Heap} {k : Nat} {C : Addr} {m : Str} {ps : List Str} {sp : DSpF} (c : MtFr P w K mg base k C m ps sp) : ∃ sp' : DSpF, MtFr P w K mg base k C m ps sp' ∧ ∀ ds S P E, sp ds S P E → sp' ds S P E := ⟨sp, c, fun _ _ _ _ h => h⟩
theorem frP {K : PySem.W.Frag} {M : Addr → Prop} {mu : List Addr} {H : Hp} {S : Sto} {P : DK} {Q : VK} (ok : Wok K M mu H S) (n : Nrm K M mu H P Q) : NrmF K M mu H (fun l S' => P (.lst l) S') Q := fun p vs H' ds S' hn k hp ok' rr h =>
  n (.ref p) H' (.lst ds) S' k (ok'.less (fun _ m => .inl m) ok.sub) ⟨p, vs, rfl, fun m => ok.tr p m hn, hp, Rs.mono (ext_less fun _ m => .inl m) _ _ rr⟩ h
def wMethX0 (C : Addr) (m : Str) (sp : DSpF) (wo : DW) : DWA := fun ρ S P E => wo ρ S (fun x S1 => recvD C m x S1 ∧ sp [x] S1 P EF) E
def wMethF0 (C : Addr) (m : Str) (sp : DSpF) (wo : DW) : DW := fun ρ S P E => wo ρ S (fun x S1 => recvD C m x S1 ∧ sp [x] S1 (fun l S2 => P (.lst l) S2) EF) E
section
variable {X : Cx} {W : WX} {C : Addr} {k j : Nat} {m : Str} {ps : List Str} {sp : DSpF} {o : Expr} {wo : DW} {apos pos : Pos}
theorem rd_methX {K : PySem.W.Frag} {to : TE} (ro : Rd K W to wo) : RdF K W (tMeth C m (toSpF K sp) [] (fun _ _ _ => False) to tNil) (wMethX0 C m sp wo) := by
  refine ⟨fun M mu σ ρ S H P E Q ok en hw n x => ?_⟩
  refine ro.run M mu σ ρ S H _ E _ ok en hw (fun v H1 d S1 k1 ok1 r1 h1 => ?_) x
  obtain ⟨hr, h1⟩ := h1
  unfold recvD at hr
  cases e1 : val S1 d with
  | obj C' fs =>
    simp only [e1] at hr
    obtain ⟨rfl, hn⟩ := hr
    obtain ⟨a, dx, gs, rfl, ha, hk, rv⟩ := obj_at ok1 r1 e1
    refine ⟨a, dx, gs, rfl, ha, rfs_no (K := K) (M := M) (mu := mu) (H := H1) m hk hn, ?_⟩
    exact ⟨M, mu, S1, [d], P, EF, ok1, ⟨.ref a, [], rfl, r1, rfl⟩, h1, fun p vs H' ds S' hp k hp' ok' rr h =>
      n p vs H' ds S' ((Ext.of ok.sub k1).back hp fun m => ok1.tr p (ok1.sub p m) hp) (k1.trans k) hp' ok' rr h, fun _ _ _ _ _ _ _ _ _ h => h.elim⟩
  | _ => simp only [e1] at hr
theorem df_meth0 {pl : Sem Bool} (c : MtFr X.prog X.w X.K X.mg X.base j C m ps sp) (hr : Room k X.A) (ho : DE X W o wo) (hjk : j ≤ k := by first | decide | exact Nat.le_refl _ | omega)
    (ht : eval (.Call (.Attribute o m apos) [] [] pos) X.env = (do
      let ov ← eval o X.env
      standAt apos.atName
      let (f, first) ← holding [ov] (getMethod ov m pl)
      callWith pos f first (backTo pos (starEach [] X.env)) (backToKw pos (keywordEach [] X.env))) := by rfl) : DF X W (.Call (.Attribute o m apos) [] [] pos) (wMethX0 C m sp wo) := by
  obtain ⟨f, fd, F, c1, c2, hb⟩ := c
  obtain ⟨_, po, ro⟩ := ho.ex
  exact ⟨_, pe_meth0 (pl := pl) (E := fun _ _ _ => False) po c1 c2 F (hr.mono hjk) hb .nil pass0 ht, rd_methX ro⟩
theorem de_methF0 {pl : Sem Bool} (c : MtFr X.prog X.w X.K X.mg X.base j C m ps sp) (hr : Room k X.A) (ho : DE X W o wo) (hjk : j ≤ k := by first | decide | exact Nat.le_refl _ | omega)
    (ht : eval (.Call (.Attribute o m apos) [] [] pos) X.env = (do
      let ov ← eval o X.env
      standAt apos.atName
      let (f, first) ← holding [ov] (getMethod ov m pl)
      callWith pos f first (backTo pos (starEach [] X.env)) (backToKw pos (keywordEach [] X.env))) := by rfl) : DE X W (.Call (.Attribute o m apos) [] [] pos) (wMethF0 C m sp wo) := by
  obtain ⟨t, pt, rt⟩ := (df_meth0 (pl := pl) c hr ho hjk ht).ex
  exact ⟨t, pt, ⟨fun M mu σ ρ S H P E Q ok en hw n x => rt.run M mu σ ρ S H (fun l S2 => P (.lst l) S2) E Q ok en hw (frP ok n) x⟩⟩
end
section
variable {P : Program} {w : World} {K : PySem.W.Frag} {mg : Str → Option Value} {base : Heap} {C : Addr} {m nm qual : Str} {st : Stmt}
/-- THE RULE for a method that hands back a fresh list -/
theorem mtFr_def {N ps : List Str} {k : Nat} {sp : DSpF} {wb : DWS} (I : MIn K C m nm qual st [] []) (sc : FnScope N ps (defScope st))
    (hbd : ∀ (kV doc pm : Value) (an : Option Addr) (cdv ct : Value) (us : List Value), us.length = ps.length → bindArgs (PySem.W.fnOf nm qual (defArgs st) (defBody st) (defScope st) .none kV doc pm an cdv ct) ⟨us, []⟩ = pure (ps.zip us))
    (len : ∀ ds S P E, sp ds S P E → ds.length = ps.length)
    (hb : ∀ (f : Addr) (cdv : Value) (A : Around) (outer : List PySem.Env) (s : Shared) (H : Hp) (E : XK), Room k (A.deeper (envOfC qual (defScope st) s.heap.objs.size f cdv)) → DSs (cxOf CX0 P w K mg base N qual (defScope st) f cdv A outer s H E) (fun C d _ H' => E C d H') (defBody st) wb)
    (hw : ∀ ds S P E, S.all (lo S.length) = true → sp ds S P E → wb (endsF S.length P E) (startD N.length ds) S) : MtFr P w K mg base (k + 1) C m ps sp := by
  obtain ⟨f, fd, F, c, hm⟩ := I
  refine ⟨f, fd, F.ok sc (fun vs H Q E h => ?_) (fun cdv A outer s H vs Q E hr h => ?_), c, hm, F.bindsN hbd⟩
  · obtain ⟨M, mu, S, ds, P, Ex, ok, r, q, _⟩ := h
    rw [← r.len]
    exact len _ _ _ _ q
  · obtain ⟨M, mu, S, ds, P, Ex, ok, r, q, n, xx⟩ := h
    obtain ⟨t, p, rb⟩ := (hb f cdv A outer s H E hr).ex
    exact ⟨t, p, rb.run M mu _ _ S H _ _ ok (env_start r) (hw ds S P Ex ok.scoped q) (eok_defF ok n xx)⟩
end
/-! a list comprehension, held -/
def wLcF (wi : DWI) (wg : DWG) (wt : DWT) (we : DW) (vs : List Nat) : DWA := fun ρ S P E => wi ρ S (fun items src S1 => (match src with
  | none => True
  | some _ => False) ∧ lcW wg wt we (wD ρ vs) P items [] S1) E
section
variable {K : PySem.W.Frag} {W : WX} {ti : TI} {g : TG} {tt : TT} {te : TE} {wi : DWI} {wg : DWG} {wt : DWT} {we : DW} {vs is : List Nat}
theorem rd_lcF (ri : RdI K W ti wi) (rg : RdG K g wg is) (hs : ∀ i ∈ is, i ∈ vs) (rt : RdT K W0 tt wt) (re : Rd K W0 te we) : RdF K W (tLc ti g tt te vs) (wLcF wi wg wt we vs) := by
  refine ⟨fun M mu σ ρ S H P E Q ok en hw n x => ?_⟩
  refine ri.run M mu σ ρ S H _ E _ ok en hw (fun J H1 items src S1 k1 ok1 it hsrc h1 => ?_) x
  obtain ⟨hnone, h1⟩ := h1
  have hsrc0 : src = none := by
    cases src with
    | none => rfl
    | some _ => exact hnone.elim
  subst hsrc0
  intro p hp
  have np : p ∉ mu := fun h => ok1.tr p (ok1.sub p h) hp
  obtain ⟨ex1, oka⟩ := ok1.aside hp (.lst [])
  have en1 := en.keep ok k1
  have good : ∀ H', Keep mu H1 H' → Ext M mu H1 (fun a => M a ∨ a = p) mu H' := fun H' k => ⟨⟨fun b q h nb => k b q h (nb.imp (fun nb z => nb (ok1.sub b z)) id), ⟨[], by simp⟩, fun a h => h.imp id fun e => by rw [e]; exact hp⟩, k, fun a h => .inl h, fun a h => .inl h, ok1.sub⟩
  have xf : ∀ (M : Addr → Prop) H' σ', Exc K M mu H' EF (fun C d H' => W0 C d σ' H') := fun _ _ _ _ _ _ _ _ _ _ _ _ h => h
  refine ⟨fun i m H' => m = items.length - i ∧ i ≤ items.length ∧ ∃ S' acc vacc, Keep mu H1 H' ∧ H' p = some (.lst vacc) ∧ Wok K (fun a => M a ∨ a = p) mu H' S' ∧ Rs K (fun a => M a ∨ a = p) mu H' acc vacc ∧ lcW wg wt we (wD ρ vs) P (items.drop i) acc S',
    ⟨items.length, by simp, Nat.zero_le _, S1, [], [], ex1.keep, upd_same, oka, rfl, by simpa using h1⟩, ?_⟩
  rintro i m H' ⟨rfl, hi, S', acc, vacc, kH, hpa, okp, racc, hl⟩
  have ex' := good H' kH
  by_cases hlt : i < items.length
  · refine .inr ?_
    rw [List.drop_eq_getElem_cons hlt] at hl
    have hl1 := (it _ _ _ S' ex' okp True.intro i).1 items[i] (List.getElem?_eq_getElem hlt)
    refine ⟨hl1.1, fun H2 => ∃ S2 acc2 vacc2, Keep mu H1 H2 ∧ H2 p = some (.lst vacc2) ∧ Wok K (fun a => M a ∨ a = p) mu H2 S2 ∧ Rs K (fun a => M a ∨ a = p) mu H2 acc2 vacc2 ∧ lcW wg wt we (wD ρ vs) P (items.drop (i + 1)) acc2 S2,
      fun H2 q => ⟨items.length - (i + 1), by omega, rfl, hlt, q⟩, fun y H2 hy => ?_⟩
    obtain ⟨k2, ok2, r2⟩ := hl1.2 y H2 hy
    have enb : Env K (fun a => M a ∨ a = p) mu H2 (wD ρ vs) (wipe σ vs) := (en1.wipe vs).mono (good H2 (kH.trans k2)).toExt0
    have racc2 := racc.keep okp k2
    refine rg.run _ mu _ _ S' H2 items[i] y _ _ ok2 enb r2 hl.2 fun σ3 ρ3 en3 w3 h3 => ?_
    refine ⟨(w3 vs hs).trans wipe_wipe, ?_⟩
    refine rt.run _ mu σ3 ρ3 S' H2 _ EF _ ok2 en3 h3 (fun b H4 S4 k4 ok4 h4 => ?_) (xf _ _ _)
    cases b with
    | false =>
      rw [if_neg Bool.false_ne_true] at h4 ⊢
      exact ⟨S4, acc, vacc, kH.trans (k2.trans k4), k4 _ _ (k2 _ _ hpa (.inl np)) (.inl np), ok4, racc2.keep ok2 k4, h4⟩
    | true =>
      rw [if_pos rfl] at h4 ⊢
      refine re.run _ mu σ3 ρ3 S4 H4 _ EF _ ok4 (en3.keep ok2 k4) h4 (fun v H5 d5 S5 k5 ok5 r5 h5 => ?_) (xf _ _ _)
      have hp5 : H5 p = some (.lst vacc) := k5 _ _ (k4 _ _ (k2 _ _ hpa (.inl np)) (.inl np)) (.inl np)
      have racc5 := (racc2.keep ok2 k4).keep ok4 k5
      have hlen := lcW_len h5
      obtain ⟨exw, okw⟩ := ok5.wrote np (notF_lst hp5) (.lst (vacc ++ [v]))
      refine ⟨vacc, hp5, ?_, S5, acc ++ [d5], vacc ++ [v], ?_, upd_same, okw, (Rs.mono exw _ _ racc5).app ⟨v, [], rfl, R.mono exw _ _ r5, rfl⟩, h5⟩
      · rw [← racc5.len]
        rw [List.length_append, List.length_singleton] at hlen
        rw [sizeLine_eq]
        omega
      · intro b q hb nb
        rw [upd_ne (ne_of_none hb hp)]
        exact k5 _ _ (k4 _ _ (k2 _ _ (kH b q hb nb) nb) nb) nb
  · refine .inl ?_
    have e : i = items.length := by omega
    subst e
    rw [List.drop_length] at hl
    refine ⟨(it _ _ _ S' ex' okp True.intro _).2 (Nat.le_refl _), ?_⟩
    exact n p vacc H' acc S' ((Ext.of ok.sub k1).back hp np) (k1.trans kH) hpa okp racc hl.2
end
section
variable {X : Cx} {W : WX} {elt tg iter : Expr} {ifs : List Expr} {scope : Scope} {own : List (Str × Nat)} {pos : Pos} {wi : DWI} {wg : DWG} {wt : DWT} {we : DW} {is : List Nat}
theorem df_lc (hc : X.calm = true) (hN : X.N.Nodup) (hi : DI X W tg iter wi) (ok : BlkOk X.N X.env.scope scope own)
    (hg : ∀ (s : Shared) (H : Hp) (C : Addr) (cl : List (Str × Addr)) (fp : List Addr), DG (X.blk s H scope (compEnvC scope cl C X.env) fp) tg wg is)
    (ht : ∀ (s : Shared) (H : Hp) (C : Addr) (cl : List (Str × Addr)) (fp : List Addr), DTs (X.blk s H scope (compEnvC scope cl C X.env) fp) W0 ifs wt)
    (he : ∀ (s : Shared) (H : Hp) (C : Addr) (cl : List (Str × Addr)) (fp : List Addr), DE (X.blk s H scope (compEnvC scope cl C X.env) fp) W0 elt we)
    (his : ∀ i ∈ is, i ∈ own.map (·.2) := by decide) (hs : ∀ x, foldedSetIterable iter X.env x = pure x := by intro _; rfl) :
    DF X W (.ListComp elt [⟨tg, iter, ifs, 0⟩] scope pos) (wLcF wi wg wt we (own.map (·.2))) := by
  obtain ⟨ti, pi, ri⟩ := hi.ex
  exact ⟨_, pe_lc hc hN pi ok (fun s H C cl fp => (hg s H C cl fp).can) (fun s H C cl fp => (ht s H C cl fp).can) (fun s H C cl fp => (he s H C cl fp).can) hs, rd_lcF ri rd_gOf his rd_ttOf rd_tOf⟩
end
/-! e.append(x) as a statement, e a fresh list -/
def wsBMX (T : String) (f : DFm) (wo : DW) (w : DWA) : DWS := fun Y ρ S => wo ρ S (fun x S1 => rcv T S1 x ∧ w ρ S1 (fun xs S2 => f x xs S2 (fun _ S3 => Y.nx ρ S3)) Y.ex) Y.ex
section
variable {X : Cx} {W : WX} {o e : Expr} {es : List Expr} {wo : DW} {w : DWA} {name : Str} {apos cpos pos : Pos} {T id : String} {r : V → List V → Hp → VK → Prop} {f : DFm}
theorem ds_bmX (pa : PlainAttrs T) (slot : Slot T name id) (hty : typeOf (.builtin id) = pure (.type "method_descriptor")) (hm : MtR X id r) (hf : MtD X.K r f) (ho : DX X W o wo) (ha : DA X W (e :: es) w)
    (hbase : attributeBase o name X.env (eval o X.env) = eval o X.env := by rfl)
    (hfew : ((backTo cpos (starEach (e :: es) X.env)).all (fun x => !x.1) && (backToKw cpos (keywordEach [] X.env)).all (fun x => x.1.isSome)
      && decide ((e :: es).length + ([] : List Keyword).length + (if ([] : List Keyword).isEmpty then 0 else 1) < 30)) = true := by rfl)
    (hline : (apos.endLine == cpos.line) = true := by rfl) (hs : starEach (e :: es) X.env = (false, eval e X.env) :: starEach es X.env := by rfl) (hplain : (backTo cpos (starEach es X.env)).any (·.1) = false := by rfl)
    (hsw : swapsWith (.Call (.Attribute o name apos) (e :: es) [] cpos) none pos.line X.env = pure false := by rfl) :
    DS X W (.Expr (.Call (.Attribute o name apos) (e :: es) [] cpos) pos) (wsBMX T f wo w) := by
  obtain ⟨_, po, ro⟩ := ho.ex
  obtain ⟨_, pt, rt⟩ := ha.ex
  refine ⟨_, ps_expr (pe_bm pa slot hty hm po pt hbase hfew hline hs hplain) hsw, ⟨fun M mu σ ρ S H Y Y' ok en hw n => ?_⟩⟩
  refine ro.run M mu σ ρ S H _ _ _ ok en hw (fun M1 mu1 v H1 d S1 e1 ok1 r1 h1 => ?_) (n.excX σ)
  have n1 := n.mono e1
  have en1 := en.mono e1.toExt0
  refine ⟨rcv_ok ok1 r1 h1.1, ?_⟩
  refine rt.run M1 mu1 σ ρ S1 H1 _ _ _ ok1 en1 h1.2 (fun vs H2 ds S2 k2 ok2 r2 h2 => ?_) (n1.exc ok1.sub σ)
  exact hf M1 mu1 H2 S2 d ds v vs _ _ ok2 (r1.keep ok1 k2) r2 h2 fun v' H3 d' S3 k3 ok3 r3 h3 => n1.nx M1 mu1 σ ρ S3 H3 (.of ok1.sub (k2.trans k3)) ok3 (en1.keep ok1 (k2.trans k3)) h3
end
theorem wiEnum_of {w : DWA} {ρ : Loc} {S : Sto} {x : D} {l : List D} {P : List D → Src → Sto → Prop} {E : Ex} (hw : ∀ Q : List D → Sto → Prop, Q [x] S → w ρ S Q E) (h : SeqD x S l) (hp : ∀ src, srcOk src l S → P (enumD l) src S) : wiEnumA w ρ S P E := by
  refine hw _ ?_
  rcases h with rfl | rfl | rfl | ⟨i, rfl, e⟩
  · exact hp none True.intro
  · exact hp none True.intro
  · exact hp none True.intro
  · show (match val S (.loc i) with
      | .lst ds => P (enumD ds) (some (i, ds)) S
      | _ => False)
    rw [val_at e]
    exact hp (some (i, l)) e
/-! the combinators applied -/
section
variable {C : Addr} {m : Str} {sp : DSp} {spf : DSpF} {we wo : DW} {w : DWA} {ρ : Loc} {S : Sto} {P : DK} {PL : List D → Sto → Prop} {E : Ex} {Y : DEnds} {T : String} {f : DFm} {wi : DWI} {g : DWG} {tt : DWT} {te : DW} {vs : List Nat}
theorem wNotOwn_ap : wNotOwn C sp we ρ S P E = (we ρ S (fun x S1 => isObjD C S1 x ∧ sp [x] S1 (truP fun b S2 => P (.bl (!b)) S2) EF) E) := rfl
theorem wMethX0_ap : wMethX0 C m spf wo ρ S PL E = (wo ρ S (fun x S1 => recvD C m x S1 ∧ spf [x] S1 PL EF) E) := rfl
theorem wMethF0_ap : wMethF0 C m spf wo ρ S P E = (wo ρ S (fun x S1 => recvD C m x S1 ∧ spf [x] S1 (fun l S2 => P (.lst l) S2) EF) E) := rfl
theorem wsBMX_ap : wsBMX T f wo w Y ρ S = (wo ρ S (fun x S1 => rcv T S1 x ∧ w ρ S1 (fun xs S2 => f x xs S2 (fun _ S3 => Y.nx ρ S3)) Y.ex) Y.ex) := rfl
theorem wLcF_ap : wLcF wi g tt te vs ρ S PL E = (wi ρ S (fun items src S1 => (match src with
  | none => True
  | some _ => False) ∧ lcW g tt te (wD ρ vs) PL items [] S1) E) := rfl
end
end DL
set_option maxRecDepth 100000
namespace DL
open PySem PySem.Spec PyProof.Rows L2
/-! tables told by what they give -/
theorem tget_iff {t : Tab} (h : TOk t) {p : Pl} {c : Int} : tget t p = some c ↔ (p, c) ∈ t := by
  constructor
  · intro q
    unfold tget at q
    obtain ⟨e, h1, h2⟩ := Option.map_eq_some_iff.mp q
    have h3 := List.find?_some h1
    have h4 := List.mem_of_find?_eq_some h1
    obtain ⟨e1, e2⟩ := e
    obtain rfl : e1 = p := of_decide_eq_true h3
    obtain rfl : e2 = c := h2
    exact h4
  · intro q
    exact tget_mem h q
theorem tget_isSome {t : Tab} {p : Pl} : (tget t p).isSome = true ↔ p ∈ t.map (·.1) := by
  rw [← any_iff]
  cases q : (t.any fun e => decide (e.1 = p)) with
  | false => simp [tget_none q]
  | true =>
    refine ⟨fun _ => rfl, fun _ => ?_⟩
    unfold tget
    rw [Option.isSome_map, List.find?_isSome]
    obtain ⟨e, h1, h2⟩ := List.any_eq_true.mp q
    exact ⟨e, h1, h2⟩
def sumAt (p : Pl) : List (Pl × Int) → Int
  | [] => 0
  | r :: rs => (if r.1 = p then r.2 else 0) + sumAt p rs
theorem sumAt_cons {p : Pl} {r : Pl × Int} {rs : List (Pl × Int)} : sumAt p (r :: rs) = (if r.1 = p then r.2 else 0) + sumAt p rs := rfl
theorem sumAt_perm {p : Pl} {rs rs' : List (Pl × Int)} (h : rs.Perm rs') : sumAt p rs = sumAt p rs' := by
  induction h with
  | nil => rfl
  | cons x _ ih => unfold sumAt; rw [ih]
  | swap x y l => simp only [sumAt]; omega
  | trans _ _ ih1 ih2 => rw [ih1, ih2]
theorem sumAt_none {p : Pl} : ∀ {rs : List (Pl × Int)}, (rs.any fun r => decide (r.1 = p)) = false → sumAt p rs = 0
  | [], _ => rfl
  | r :: rs, h => by
    rw [List.any_cons, Bool.or_eq_false_iff] at h
    unfold sumAt
    rw [if_neg (of_decide_eq_false h.1), sumAt_none h.2]; rfl
theorem tget_tally (p : Pl) : ∀ (rs : List (Pl × Int)) (t : Tab), tget (tally rs t) p = if (rs.any fun r => decide (r.1 = p)) = true then some ((tget t p).getD 0 + sumAt p rs) else tget t p
  | [], t => rfl
  | r :: rs, t => by
    show tget (tally rs (tput t r.1 ((tget t r.1).getD 0 + r.2))) p = _
    rw [tget_tally p rs, tget_put, List.any_cons]
    by_cases h : r.1 = p
    · subst h
      rw [if_pos rfl, decide_eq_true rfl, Bool.true_or, if_pos rfl]
      rw [sumAt_cons, if_pos rfl]
      by_cases q : (rs.any fun s => decide (s.1 = r.1)) = true
      · rw [if_pos q]
        congr 1
        show (tget t r.1).getD 0 + r.2 + sumAt r.1 rs = _
        omega
      · rw [if_neg q, sumAt_none (Bool.eq_false_iff.mpr q)]
        congr 1
        omega
    · have h' : ¬ p = r.1 := fun z => h z.symm
      rw [if_neg h', decide_eq_false h, Bool.false_or]
      rw [sumAt_cons, if_neg h, Int.zero_add]
theorem tget_leaves {f : Int → Int} {p : Pl} {t : Tab} (h : TOk t) : tget (leaves f t) p = (tget t p).bind fun c => if f c = 0 then none else some (f c) := by
  cases q : tget t p with
  | none =>
    cases q2 : tget (leaves f t) p with
    | none => rfl
    | some c =>
      have h1 := (tget_iff (tok_leaves h)).mp q2
      obtain ⟨x, hx, e2⟩ := List.mem_filterMap.mp h1
      by_cases z : f x.2 = 0
      · rw [if_pos z] at e2; cases e2
      · rw [if_neg z] at e2
        injection e2 with e2
        injection e2 with e3 e4
        have := tget_mem h hx
        rw [e3, q] at this
        cases this
  | some c =>
    have h1 := (tget_iff h).mp q
    show _ = if f c = 0 then none else some (f c)
    by_cases z : f c = 0
    · rw [if_pos z]
      cases q2 : tget (leaves f t) p with
      | none => rfl
      | some b =>
        have h1 := (tget_iff (tok_leaves h)).mp q2
        obtain ⟨x, hx, e2⟩ := List.mem_filterMap.mp h1
        by_cases z2 : f x.2 = 0
        · rw [if_pos z2] at e2; cases e2
        · rw [if_neg z2] at e2
          injection e2 with e2
          injection e2 with e3 e4
          have := tget_mem h hx
          rw [e3, q] at this
          injection this with this
          rw [this] at z
          exact absurd z z2
    · rw [if_neg z]
      refine (tget_iff (tok_leaves h)).mpr (List.mem_filterMap.mpr ⟨(p, c), h1, ?_⟩)
      rw [if_neg z]
/-- the table of such rows -/
def tabOf (f : Int → Int) (rows : List (Pl × Int)) : Tab := leaves f (tally rows [])
theorem tok_of (f : Int → Int) (rows : List (Pl × Int)) : TOk (tabOf f rows) := tok_leaves (tok_tally rows List.nodup_nil)
theorem tget_of {f : Int → Int} (h0 : f 0 = 0) (rows : List (Pl × Int)) (p : Pl) : tget (tabOf f rows) p = if f (sumAt p rows) = 0 then none else some (f (sumAt p rows)) := by
  unfold tabOf
  rw [tget_leaves (tok_tally rows (t := []) List.nodup_nil), tget_tally]
  by_cases q : (rows.any fun r => decide (r.1 = p)) = true
  · rw [if_pos q]
    show (if f (0 + sumAt p rows) = 0 then none else some (f (0 + sumAt p rows))) = _
    rw [Int.zero_add]
  · rw [if_neg q, sumAt_none (Bool.eq_false_iff.mpr q), if_pos h0]
    rfl
theorem len_of (f : Int → Int) (rows : List (Pl × Int)) : (tabOf f rows).length ≤ rows.length := by
  have h1 : (leaves f (tally rows [])).length ≤ (tally rows []).length := List.length_filterMap_le _ _
  have h2 := tally_len rows []
  rw [List.length_nil, Nat.zero_add] at h2
  exact Nat.le_trans h1 h2
/-! sorted keys -/
def leP (p q : Pl) : Bool := decide (p.1 < q.1 ∨ (p.1 = q.1 ∧ p.2 ≤ q.2))
theorem leP_trans (a b c : Pl) (h : leP a b = true) (g : leP b c = true) : leP a c = true := by
  have h := of_decide_eq_true h
  have g := of_decide_eq_true g
  exact decide_eq_true (by omega)
theorem leP_total (a b : Pl) : (leP a b || leP b a) = true := by
  unfold leP
  rw [Bool.or_eq_true, decide_eq_true_iff, decide_eq_true_iff]
  omega
theorem leP_anti (a b : Pl) (h : leP a b = true) (g : leP b a = true) : a = b := by
  have h := of_decide_eq_true h
  have g := of_decide_eq_true g
  exact Prod.ext (by omega) (by omega)
def sortK (t : Tab) : List Pl := (t.map (·.1)).mergeSort leP
theorem sortK_perm (t : Tab) : (sortK t).Perm (t.map (·.1)) := List.mergeSort_perm _ _
theorem sortK_sorted (t : Tab) : (sortK t).Pairwise fun a b => leP a b = true := List.pairwise_mergeSort leP_trans leP_total _
theorem sortK_uniq {t u : Tab} (h : (t.map (·.1)).Perm (u.map (·.1))) : sortK t = sortK u :=
  List.Perm.eq_of_pairwise (fun a b _ _ => leP_anti a b) (sortK_sorted t) (sortK_sorted u) ((sortK_perm t).trans (h.trans (sortK_perm u).symm))
def unP : D → Pl
  | .tup [.int a, .int b] => (a, b)
  | _ => (0, 0)
theorem leT_pl {p q : Pl} (h : leT (plD p) (plD q)) : leP p q = true := by
  have := h [p.1, p.2] [q.1, q.2] rfl rfl
  rcases this with e | e
  · injection e with e1 e2
    injection e2 with e2 e3
    exact decide_eq_true (by omega)
  · refine decide_eq_true ?_
    unfold lexI at e
    by_cases q1 : p.1 = q.1
    · rw [if_pos q1] at e
      unfold lexI at e
      by_cases q2 : p.2 = q.2
      · exact .inr ⟨q1, Int.le_of_eq q2⟩
      · rw [if_neg q2] at e
        exact .inr ⟨q1, Int.le_of_lt (of_decide_eq_true e)⟩
    · rw [if_neg q1] at e
      exact .inl (of_decide_eq_true e)
theorem sort_uniq {t : Tab} {l : List D} (hp : l.Perm (t.map fun e => plD e.1)) (hs : l.Pairwise leT) : l = (sortK t).map plD := by
  have e1 : (t.map fun e => plD e.1) = (t.map (·.1)).map plD := by rw [List.map_map]; rfl
  rw [e1] at hp
  have e2 : (l.map unP).map plD = l := by
    rw [List.map_map]
    refine (List.map_congr_left fun x hx => ?_).trans (List.map_id l)
    obtain ⟨p, _, rfl⟩ := List.mem_map.mp (hp.subset hx)
    rfl
  have p1 : (l.map unP).Perm (t.map (·.1)) := by
    have := hp.map unP
    rw [List.map_map (f := plD)] at this
    have e : unP ∘ plD = id := rfl
    rw [e, List.map_id] at this
    exact this
  have s1 : (l.map unP).Pairwise fun a b => leP a b = true := by
    rw [← e2] at hs
    rw [List.pairwise_map] at hs
    exact hs.imp fun h => leT_pl h
  rw [← e2]
  congr 1
  exact List.Perm.eq_of_pairwise (fun a b _ _ => leP_anti a b) s1 (sortK_sorted t) (p1.trans (sortK_perm t).symm)
/-! equal tables -/
def eqT (A B : Tab) : Bool := A.length == B.length && A.all fun e => match tget B e.1 with
  | some c => e.2 == c
  | none => false
theorem keys_perm {A B : Tab} (hA : TOk A) (hB : TOk B) (h : ∀ p, tget A p = tget B p) : (A.map (·.1)).Perm (B.map (·.1)) := by
  refine (List.perm_ext_iff_of_nodup hA hB).mpr fun p => ?_
  rw [← tget_isSome, ← tget_isSome, h p]
theorem eqT_iff {A B : Tab} (hA : TOk A) (hB : TOk B) : eqT A B = true ↔ ∀ p, tget A p = tget B p := by
  unfold eqT
  rw [Bool.and_eq_true, beq_iff_eq, List.all_eq_true]
  constructor
  · rintro ⟨hl, hall⟩ p
    have sub : A.map (·.1) ⊆ B.map (·.1) := fun q hq => by
      obtain ⟨e, he, rfl⟩ := List.mem_map.mp hq
      have := hall e he
      rw [← tget_isSome]
      cases z : tget B e.1 with
      | none => rw [z] at this; cases this
      | some _ => rfl
    cases z : tget A p with
    | some c =>
      have := hall _ ((tget_iff hA).mp z)
      cases z2 : tget B p with
      | none => simp only [z2] at this; cases this
      | some b =>
        simp only [z2] at this
        rw [beq_iff_eq.mp this]
    | none =>
      cases z2 : tget B p with
      | none => rfl
      | some b =>
        exfalso
        have hp : p ∈ B.map (·.1) := tget_isSome.mp (by rw [z2]; rfl)
        have hn : p ∉ A.map (·.1) := fun q => by
          have := tget_isSome.mpr q
          rw [z] at this
          cases this
        have hsub : (p :: A.map (·.1)) ⊆ B.map (·.1) := fun q hq => by
          rcases List.mem_cons.mp hq with e | e
          · rw [e]; exact hp
          · exact sub e
        have := List.Nodup.length_le_of_subset (List.nodup_cons.mpr ⟨hn, hA⟩) hsub
        simp at this
        omega
  · intro h
    refine ⟨by have := (keys_perm hA hB h).length_eq; simpa using this, fun e he => ?_⟩
    have := tget_mem hA he
    rw [h] at this
    rw [this]
    exact beq_self_eq_true _
def rowsT (t : Tab) : List D := (sortK t).map fun p => rowD (p, (tget t p).getD 0)
theorem rowsT_len (t : Tab) : (rowsT t).length = t.length := by
  unfold rowsT
  rw [List.length_map, (sortK_perm t).length_eq, List.length_map]
theorem rowsT_iff {A B : Tab} (hA : TOk A) (hB : TOk B) : rowsT A = rowsT B ↔ ∀ p, tget A p = tget B p := by
  constructor
  · intro h
    have inj : ∀ {k l : List Pl} {f g : Pl → Int}, (k.map fun p => rowD (p, f p)) = (l.map fun p => rowD (p, g p)) → k = l ∧ ∀ p ∈ k, f p = g p := fun {k} => by
      induction k with
      | nil =>
        intro l f g e
        cases l with
        | nil => exact ⟨rfl, fun _ h => nomatch h⟩
        | cons _ _ => cases e
      | cons a k ih =>
        intro l f g e
        cases l with
        | nil => cases e
        | cons b l =>
          injection e with e1 e2
          obtain ⟨r1, r2⟩ := ih e2
          have e3 : [D.int a.1, D.int a.2, D.int (f a)] = [D.int b.1, D.int b.2, D.int (g b)] := D.tup.inj e1
          injection e3 with q1 e3
          injection e3 with q2 e3
          injection e3 with q3 _
          have ab : a = b := Prod.ext (D.int.inj q1) (D.int.inj q2)
          subst ab
          refine ⟨by rw [r1], fun p hp => ?_⟩
          rcases List.mem_cons.mp hp with e | e
          · rw [e]; exact D.int.inj q3
          · exact r2 p e
    obtain ⟨h1, h2⟩ := inj h
    have hk : (A.map (·.1)).Perm (B.map (·.1)) := (sortK_perm A).symm.trans (h1 ▸ sortK_perm B)
    intro p
    by_cases hp : p ∈ A.map (·.1)
    · have s1 := tget_isSome.mpr hp
      have s2 := tget_isSome.mpr (hk.subset hp)
      have e := h2 p ((sortK_perm A).symm.subset hp)
      cases z1 : tget A p with
      | none => rw [z1] at s1; cases s1
      | some a =>
        cases z2 : tget B p with
        | none => rw [z2] at s2; cases s2
        | some b =>
          rw [z1, z2] at e
          have e' : a = b := e
          rw [e']
    · have n1 : tget A p = none := by
        cases z : tget A p with
        | none => rfl
        | some _ => exact absurd (tget_isSome.mp (by rw [z]; rfl)) hp
      have n2 : tget B p = none := by
        cases z : tget B p with
        | none => rfl
        | some _ => exact absurd (hk.symm.subset (tget_isSome.mp (by rw [z]; rfl))) hp
      rw [n1, n2]
  · intro h
    unfold rowsT
    rw [sortK_uniq (keys_perm hA hB h)]
    exact List.map_congr_left fun p _ => by rw [h]
/-! as plain data -/
def pyT (t : Tab) : TPy := t.map fun e => (kP e.1, PyData.int e.2)
theorem toPyT_enc : ∀ t : Tab, toPyT (encT t) = some (pyT t)
  | [] => rfl
  | e :: t => by
    show (match toPy (.int e.2), toPyT (encT t) with
      | some p, some ps => some ((kP e.1, p) :: ps)
      | _, _ => none) = _
    rw [toPyT_enc t]
    rfl
theorem shaped_py (t : Tab) : ((pyT t).all fun p => SeqAt.shaped p.2) = true := by
  unfold pyT
  rw [List.all_map]
  exact List.all_eq_true.mpr fun _ _ => rfl
theorem lookP_py (p : Pl) : ∀ t : Tab, lookP (pyT t) (kP p) = (tget t p).map PyData.int
  | [] => rfl
  | e :: t => by
    have ih := lookP_py p t
    unfold lookP tget pyT at ih ⊢
    rw [List.map_cons, List.find?_cons, List.find?_cons]
    by_cases h : e.1 = p
    · rw [show (decide (kP e.1 = kP p)) = true from decide_eq_true (by rw [h]), decide_eq_true h]
      rfl
    · rw [show (decide (kP e.1 = kP p)) = false from decide_eq_false fun z => h (kP_inj.mp z), decide_eq_false h]
      exact ih
theorem eqTab_py (A B : Tab) : eqTab (pyT A) (pyT B) = eqT A B := by
  unfold eqTab eqT
  congr 1
  · simp [pyT]
  · rw [show pyT A = A.map fun e => (kP e.1, PyData.int e.2) from rfl, List.all_map]
    refine congrArg (List.all A) (funext fun e => ?_)
    show (match lookP (pyT B) (kP e.1) with
      | some q => PyData.eqv (PyData.int e.2) q
      | none => false) = _
    rw [lookP_py]
    cases tget B e.1 with
    | none => rfl
    | some c => rfl
end DL
set_option maxRecDepth 100000
set_option maxHeartbeats 2000000
namespace DL
open PySem PySem.Spec PyProof.Rows L2
theorem bt_repr : bootBuiltins "repr" = some (.builtin "repr") := by first | exact PySem.boot_repr | exact PyProof.Rows.boot_repr | decide +kernel
/-! a list comprehension over a cell: the cell must stay -/
def lcWS (src : Src) (g : DWG) (tt : DWT) (te : DW) (ρ : Loc) (P : List D → Sto → Prop) : List D → List D → Sto → Prop
  | [], acc, S => (match src with
    | none => True
    | some (j, l) => S[j]? = some (.lst l)) ∧ acc.length ≤ 1000000 ∧ P acc S
  | x :: xs, acc, S => (match src with
    | none => True
    | some (j, l) => S[j]? = some (.lst l)) ∧ acc.length ≤ 1000000 ∧ g x S ρ fun ρ' => tt ρ' S (fun b S1 => if b = true then te ρ' S1 (fun y S2 => lcWS src g tt te ρ P xs (acc ++ [y]) S2) EF else lcWS src g tt te ρ P xs acc S1) EF
section
variable {src : Src} {g : DWG} {tt : DWT} {te : DW} {ρ : Loc} {P : List D → Sto → Prop}
theorem lcWS_src : ∀ {xs acc : List D} {S : Sto}, lcWS src g tt te ρ P xs acc S → (match src with
    | none => True
    | some (j, l) => S[j]? = some (.lst l))
  | [], _, _, h => h.1
  | _ :: _, _, _, h => h.1
theorem lcWS_len : ∀ {xs acc : List D} {S : Sto}, lcWS src g tt te ρ P xs acc S → acc.length ≤ 1000000
  | [], _, _, h => h.2.1
  | _ :: _, _, _, h => h.2.1
end
def wLcS (wi : DWI) (g : DWG) (tt : DWT) (te : DW) (vs : List Nat) : DW := fun ρ S P E => wi ρ S (fun items src S1 => lcWS src g tt te (wD ρ vs) (fun ds S2 => P (.lst ds) S2) items [] S1) E
theorem wLcS_ap {wi : DWI} {g : DWG} {tt : DWT} {te : DW} {vs : List Nat} {ρ : Loc} {S : Sto} {P : DK} {E : Ex} : wLcS wi g tt te vs ρ S P E = (wi ρ S (fun items src S1 => lcWS src g tt te (wD ρ vs) (fun ds S2 => P (.lst ds) S2) items [] S1) E) := rfl
/-- a target that is a name, no test, a store that stays -/
theorem lcWS_map {src : Src} {i : Nat} {te : DW} {ρ : Loc} {P : List D → Sto → Prop} {S : Sto} (f : D → D) (hs : match src with
    | none => True
    | some (j, l) => S[j]? = some (.lst l)) : ∀ (xs acc : List D), (∀ x ∈ xs, ∀ Q : DK, Q (f x) S → te (ρ.set i (some x)) S Q EF) → acc.length + xs.length ≤ 1000000 → P (acc ++ xs.map f) S → lcWS src (wgName i) wTYes te ρ P xs acc S
  | [], acc, _, hl, h => ⟨hs, hl, by simpa using h⟩
  | x :: xs, acc, ht, hl, h => by
    refine ⟨hs, by rw [List.length_cons] at hl; omega, ?_⟩
    show (if true = true then te (ρ.set i (some x)) S (fun y S2 => lcWS src (wgName i) wTYes te ρ P xs (acc ++ [y]) S2) EF else lcWS src (wgName i) wTYes te ρ P xs acc S)
    rw [if_pos rfl]
    refine ht x (List.mem_cons_self ..) _ (lcWS_map f hs xs (acc ++ [f x]) (fun y hy => ht y (List.mem_cons_of_mem _ hy)) (by simp; rw [List.length_cons] at hl; omega) ?_)
    rw [List.append_assoc]
    exact h
section
variable {K : PySem.W.Frag} {W : WX} {ti : TI} {g : TG} {tt : TT} {te : TE} {wi : DWI} {wg : DWG} {wt : DWT} {we : DW} {vs is : List Nat}
theorem rd_lcS (ri : RdI K W ti wi) (rg : RdG K g wg is) (hs : ∀ i ∈ is, i ∈ vs) (rt : RdT K W0 tt wt) (re : Rd K W0 te we) : Rd K W (tLc ti g tt te vs) (wLcS wi wg wt we vs) := by
  refine ⟨fun M mu σ ρ S H P E Q ok en hw n x => ?_⟩
  refine ri.run M mu σ ρ S H _ E _ ok en hw (fun J H1 items src S1 k1 ok1 it hsrc h1 => ?_) x
  intro p hp
  have np : p ∉ mu := fun h => ok1.tr p (ok1.sub p h) hp
  obtain ⟨ex1, oka⟩ := ok1.aside hp (.lst [])
  have en1 := en.keep ok k1
  have good : ∀ H', Keep mu H1 H' → Ext M mu H1 (fun a => M a ∨ a = p) mu H' := fun H' k => ⟨⟨fun b q h nb => k b q h (nb.imp (fun nb z => nb (ok1.sub b z)) id), ⟨[], by simp⟩, fun a h => h.imp id fun e => by rw [e]; exact hp⟩, k, fun a h => .inl h, fun a h => .inl h, ok1.sub⟩
  have xf : ∀ (M : Addr → Prop) H' σ', Exc K M mu H' EF (fun C d H' => W0 C d σ' H') := fun _ _ _ _ _ _ _ _ _ _ _ _ h => h
  refine ⟨fun i m H' => m = items.length - i ∧ i ≤ items.length ∧ ∃ S' acc vacc, Keep mu H1 H' ∧ H' p = some (.lst vacc) ∧ Wok K (fun a => M a ∨ a = p) mu H' S' ∧ Rs K (fun a => M a ∨ a = p) mu H' acc vacc ∧ lcWS src wg wt we (wD ρ vs) (fun ds S2 => P (.lst ds) S2) (items.drop i) acc S',
    ⟨items.length, by simp, Nat.zero_le _, S1, [], [], ex1.keep, upd_same, oka, rfl, by simpa using h1⟩, ?_⟩
  rintro i m H' ⟨rfl, hi, S', acc, vacc, kH, hpa, okp, racc, hl⟩
  have ex' := good H' kH
  by_cases hlt : i < items.length
  · refine .inr ?_
    rw [List.drop_eq_getElem_cons hlt] at hl
    have hl1 := (it _ _ _ S' ex' okp (lcWS_src hl) i).1 items[i] (List.getElem?_eq_getElem hlt)
    refine ⟨hl1.1, fun H2 => ∃ S2 acc2 vacc2, Keep mu H1 H2 ∧ H2 p = some (.lst vacc2) ∧ Wok K (fun a => M a ∨ a = p) mu H2 S2 ∧ Rs K (fun a => M a ∨ a = p) mu H2 acc2 vacc2 ∧ lcWS src wg wt we (wD ρ vs) (fun ds S2 => P (.lst ds) S2) (items.drop (i + 1)) acc2 S2,
      fun H2 q => ⟨items.length - (i + 1), by omega, rfl, hlt, q⟩, fun y H2 hy => ?_⟩
    obtain ⟨k2, ok2, r2⟩ := hl1.2 y H2 hy
    have enb : Env K (fun a => M a ∨ a = p) mu H2 (wD ρ vs) (wipe σ vs) := (en1.wipe vs).mono (good H2 (kH.trans k2)).toExt0
    have racc2 := racc.keep okp k2
    refine rg.run _ mu _ _ S' H2 items[i] y _ _ ok2 enb r2 hl.2.2 fun σ3 ρ3 en3 w3 h3 => ?_
    refine ⟨(w3 vs hs).trans wipe_wipe, ?_⟩
    refine rt.run _ mu σ3 ρ3 S' H2 _ EF _ ok2 en3 h3 (fun b H4 S4 k4 ok4 h4 => ?_) (xf _ _ _)
    cases b with
    | false =>
      rw [if_neg Bool.false_ne_true] at h4 ⊢
      exact ⟨S4, acc, vacc, kH.trans (k2.trans k4), k4 _ _ (k2 _ _ hpa (.inl np)) (.inl np), ok4, racc2.keep ok2 k4, h4⟩
    | true =>
      rw [if_pos rfl] at h4 ⊢
      refine re.run _ mu σ3 ρ3 S4 H4 _ EF _ ok4 (en3.keep ok2 k4) h4 (fun v H5 d5 S5 k5 ok5 r5 h5 => ?_) (xf _ _ _)
      have hp5 : H5 p = some (.lst vacc) := k5 _ _ (k4 _ _ (k2 _ _ hpa (.inl np)) (.inl np)) (.inl np)
      have racc5 := (racc2.keep ok2 k4).keep ok4 k5
      have hlen := lcWS_len h5
      obtain ⟨exw, okw⟩ := ok5.wrote np (notF_lst hp5) (.lst (vacc ++ [v]))
      refine ⟨vacc, hp5, ?_, S5, acc ++ [d5], vacc ++ [v], ?_, upd_same, okw, (Rs.mono exw _ _ racc5).app ⟨v, [], rfl, R.mono exw _ _ r5, rfl⟩, h5⟩
      · rw [← racc5.len]
        rw [List.length_append, List.length_singleton] at hlen
        rw [sizeLine_eq]
        omega
      · intro b q hb nb
        rw [upd_ne (ne_of_none hb hp)]
        exact k5 _ _ (k4 _ _ (k2 _ _ (kH b q hb nb) nb) nb) nb
  · refine .inl ?_
    have e : i = items.length := by omega
    subst e
    rw [List.drop_length] at hl
    refine ⟨(it _ _ _ S' ex' okp (lcWS_src hl) _).2 (Nat.le_refl _), ?_⟩
    refine n (.ref p) H' (.lst acc) S' (k1.trans kH) (okp.less (fun a h => .inl h) ok1.sub) ?_ hl.2.2
    exact ⟨p, vacc, rfl, fun h => ok1.tr p h hp, hpa, Rs.mono (ext_less fun a h => .inl h) _ _ racc⟩
end
section
variable {X : Cx} {W : WX} {elt tg iter : Expr} {ifs : List Expr} {scope : Scope} {own : List (Str × Nat)} {pos : Pos} {wi : DWI} {wg : DWG} {wt : DWT} {we : DW} {is : List Nat}
theorem de_lcS (hc : X.calm = true) (hN : X.N.Nodup) (hi : DI X W tg iter wi) (ok : BlkOk X.N X.env.scope scope own)
    (hg : ∀ (s : Shared) (H : Hp) (C : Addr) (cl : List (Str × Addr)) (fp : List Addr), DG (X.blk s H scope (compEnvC scope cl C X.env) fp) tg wg is)
    (ht : ∀ (s : Shared) (H : Hp) (C : Addr) (cl : List (Str × Addr)) (fp : List Addr), DTs (X.blk s H scope (compEnvC scope cl C X.env) fp) W0 ifs wt)
    (he : ∀ (s : Shared) (H : Hp) (C : Addr) (cl : List (Str × Addr)) (fp : List Addr), DE (X.blk s H scope (compEnvC scope cl C X.env) fp) W0 elt we)
    (his : ∀ i ∈ is, i ∈ own.map (·.2) := by decide) (hs : ∀ x, foldedSetIterable iter X.env x = pure x := by intro _; rfl) :
    DE X W (.ListComp elt [⟨tg, iter, ifs, 0⟩] scope pos) (wLcS wi wg wt we (own.map (·.2))) := by
  obtain ⟨ti, pi, ri⟩ := hi.ex
  exact ⟨_, pe_lc hc hN pi ok (fun s H C cl fp => (hg s H C cl fp).can) (fun s H C cl fp => (ht s H C cl fp).can) (fun s H C cl fp => (he s H C cl fp).can) hs, rd_lcS ri rd_gOf his rd_ttOf rd_tOf⟩
end
/-! a, b = x, y with values that make cells, no exchange of the stores -/
section
variable {X : Cx} {W : WX} {es : List Expr} {e : Expr} {w : DWA} {we : DW} {g : DWG} {is : List Nat} {pos : Pos}
theorem dx_tup {k : Nat} (hs : DAX X W es w) : DX X W (.Tuple es k pos) (wTup w) := by
  obtain ⟨ts, ps, rs⟩ := hs.ex
  refine ⟨_, pe_tup ps, ⟨fun M mu σ ρ S H P E Q ok en hw n x => ?_⟩⟩
  refine rs.run M mu σ ρ S H _ E _ ok en hw (fun M1 mu1 vs H1 ds S1 e1 ok1 r1 h1 => ?_) x
  refine ⟨by rw [← r1.len]; exact line_of h1.1, fun p hp => ?_⟩
  obtain ⟨ok2, k2, _⟩ := ok1.alloc hp (.tup vs)
  exact n _ _ _ _ _ S1 (e1.trans (.of ok1.sub k2)) ok2 (newT ok1 hp r1) h1.2
theorem ds_asgX {tg : Expr} (he : DX X W e we) (hg : DG X tg g is) (hs : swapsWithSole [tg] e pos.line X.env = pure false := by rfl) (hw : swappedStores [tg] e X.env = pure none := by rfl) (h1 : (assignEach [tg] X.env).map (·.2) = [assign tg X.env] := by rfl) :
    DS X W (.Assign [tg] e pos) (wsAsg we g) := by
  obtain ⟨_, p, r⟩ := he.ex
  obtain ⟨_, q, rg⟩ := hg.ex
  exact ⟨_, ps_asg p q hs hw h1, ⟨fun M mu σ ρ S H D D' ok en hw n => r.run M mu σ ρ S H _ _ _ ok en hw (fun M1 mu1 v H' d S' e1 ok' r' h =>
    rg.run M1 mu1 σ ρ S' H' d v _ _ ok' (en.mono e1.toExt0) r' h fun σ' ρ' en' _ h' => n.nx M1 mu1 σ' ρ' S' H' e1 ok' en' h') (n.excX σ)⟩⟩
end
end DL
set_option maxRecDepth 100000
namespace DL
open PySem PySem.Spec PyProof.Rows L2
/-! rows as plain data -/
def pyR (r : Pl × Int) : PyData := .tuple [.int r.1.1, .int r.1.2, .int r.2]
theorem toPys_rows : ∀ rows : List (Pl × Int), toPys (rows.map rowD) = some (rows.map pyR)
  | [] => rfl
  | r :: rows => by
    show (match toPy (rowD r), toPys (rows.map rowD) with
      | some p, some ps => some (p :: ps)
      | _, _ => none) = _
    rw [toPys_rows rows]
    rfl
theorem toPy_rows (rows : List (Pl × Int)) : toPy (.lst (rows.map rowD)) = some (.list (rows.map pyR)) := by
  show (toPys (rows.map rowD)).map PyData.list = _
  rw [toPys_rows]
  rfl
theorem lay_all : ∀ rows : List (Pl × Int), PyData.canLayAll0 (rows.map pyR) = true
  | [] => by simp [PyData.canLayAll0]
  | r :: rows => by
    rw [List.map_cons, PyData.canLayAll0, lay_all rows, pyR]
    simp [PyData.canLay0, PyData.canLayAll0]
theorem depth_all : ∀ rows : List (Pl × Int), PyData.depthAll (rows.map pyR) ≤ 1
  | [] => by simp [PyData.depthAll]
  | r :: rows => by
    have ih := depth_all rows
    rw [List.map_cons, PyData.depthAll, pyR]
    simp only [PyData.depth, PyData.depthAll]
    omega
theorem shaped_rows (rows : List (Pl × Int)) : SeqAt.shaped (.list (rows.map pyR)) = true := by
  unfold SeqAt.shaped
  rw [PyData.canLay0, lay_all, PyData.depth, decide_eq_true (by have := depth_all rows; omega)]
  rfl
theorem eqvAll_rows : ∀ a b : List (Pl × Int), PyData.eqvAll (a.map pyR) (b.map pyR) = decide (a = b)
  | [], [] => rfl
  | [], _ :: _ => by simp [PyData.eqvAll]
  | _ :: _, [] => by simp [PyData.eqvAll]
  | r :: a, s :: b => by
    show (PyData.eqv (pyR r) (pyR s) && PyData.eqvAll (a.map pyR) (b.map pyR)) = _
    rw [eqvAll_rows a b]
    obtain ⟨⟨p, q⟩, c⟩ := r
    obtain ⟨⟨p', q'⟩, c'⟩ := s
    show ((p == p' && (q == q' && (c == c' && true))) && _) = _
    rw [Bool.eq_iff_iff]
    simp only [Bool.and_eq_true, beq_iff_eq, decide_eq_true_eq, List.cons.injEq, Prod.mk.injEq, and_true]
    constructor
    · rintro ⟨⟨h1, h2, h3⟩, h4⟩; exact ⟨⟨⟨h1, h2⟩, h3⟩, h4⟩
    · rintro ⟨⟨⟨h1, h2⟩, h3⟩, h4⟩; exact ⟨⟨h1, h2, h3⟩, h4⟩
theorem eqv_rows (a b : List (Pl × Int)) : PyData.eqv (.list (a.map pyR)) (.list (b.map pyR)) = decide (a = b) := eqvAll_rows a b
def rowsR (t : Tab) : List (Pl × Int) := (sortK t).map fun p => (p, (tget t p).getD 0)
theorem rowsT_eq (t : Tab) : rowsT t = (rowsR t).map rowD := by
  unfold rowsT rowsR
  rw [List.map_map]
  rfl
theorem rowsR_len (t : Tab) : (rowsR t).length = t.length := by
  unfold rowsR
  rw [List.length_map, (sortK_perm t).length_eq, List.length_map]
theorem rowsR_iff {A B : Tab} (hA : TOk A) (hB : TOk B) : rowsR A = rowsR B ↔ ∀ p, tget A p = tget B p := by
  constructor
  · intro h
    exact (rowsT_iff hA hB).mp (by rw [rowsT_eq, rowsT_eq, h])
  · intro h
    unfold rowsR
    rw [sortK_uniq (keys_perm hA hB h)]
    exact List.map_congr_left fun p _ => by rw [h]
end DL
namespace DL
open PySem PySem.Spec PyProof.Rows L2
/-! rows in what _law_same looks at -/
theorem deeps_rows : ∀ rows : List (Pl × Int), deeps (rows.map rowD) = true
  | [] => rfl
  | r :: rows => by
    show (deep (rowD r) && deeps (rows.map rowD)) = true
    rw [deeps_rows rows]
    rfl
theorem deps_rows : ∀ rows : List (Pl × Int), deps (rows.map rowD) ≤ 1
  | [] => Nat.zero_le _
  | r :: rows => by
    show max (dep (rowD r)) (deps (rows.map rowD)) ≤ 1
    exact Nat.max_le.mpr ⟨Nat.le_refl 1, deps_rows rows⟩
theorem deep_rows {rows : List (Pl × Int)} (h : rows.length ≤ 1000000) : deep (.lst (rows.map rowD)) = true := by
  show (decide ((rows.map rowD).length ≤ 1000000) && deeps (rows.map rowD)) = true
  rw [deeps_rows, List.length_map, decide_eq_true h]
  rfl
theorem dep_rows (rows : List (Pl × Int)) : dep (.lst (rows.map rowD)) ≤ 2 := Nat.succ_le_succ (deps_rows rows)
theorem deep_rowsT {t : Tab} (h : t.length ≤ 1000000) : deep (.lst (rowsT t)) = true := by
  rw [rowsT_eq]
  exact deep_rows (by rw [rowsR_len]; exact h)
theorem dep_rowsT (t : Tab) : dep (.lst (rowsT t)) ≤ 2 := by
  rw [rowsT_eq]
  exact dep_rows _
theorem empty_app (x : Str) : Str.empty ++ x = x := by
  cases x with
  | mk c =>
    show Str.mk (#[] ++ c) = _
    rw [Array.empty_append]
end DL
namespace DL
open PySem PySem.Spec PyProof.Rows L2
theorem deeps_leaf : ∀ {l : List D}, (∀ d ∈ l, deep d = true) → deeps l = true
  | [], _ => rfl
  | d :: l, h => by
    show (deep d && deeps l) = true
    rw [h d (List.mem_cons_self ..), deeps_leaf fun x hx => h x (List.mem_cons_of_mem _ hx)]
    rfl
theorem deep_leaf {l : List D} (hl : l.length ≤ 1000000) (h : ∀ d ∈ l, deep d = true) : deep (.lst l) = true := by
  show (decide (l.length ≤ 1000000) && deeps l) = true
  rw [deeps_leaf h, decide_eq_true hl]
  rfl
theorem deps_leaf : ∀ {l : List D}, (∀ d ∈ l, dep d = 0) → deps l = 0
  | [], _ => rfl
  | d :: l, h => by
    show max (dep d) (deps l) = 0
    rw [h d (List.mem_cons_self ..), deps_leaf fun x hx => h x (List.mem_cons_of_mem _ hx)]
    rfl
theorem dep_leaf {l : List D} (h : ∀ d ∈ l, dep d = 0) : dep (.lst l) = 1 := by
  show deps l + 1 = 1
  rw [deps_leaf h]
end DL
namespace DL
open PySem PySem.Spec PyProof.Rows L2
/-- what lies behind a permuted image -/
theorem perm_image {α : Type} {f : α → D} {g : D → α} (hg : ∀ a, g (f a) = a) {l : List D} {as : List α} (h : l.Perm (as.map f)) : ∃ bs : List α, l = bs.map f ∧ bs.Perm as := by
  refine ⟨l.map g, ?_, ?_⟩
  · rw [List.map_map]
    refine ((List.map_congr_left fun x hx => ?_).trans (List.map_id l)).symm
    obtain ⟨a, _, rfl⟩ := List.mem_map.mp (h.subset hx)
    show f (g (f a)) = f a
    rw [hg]
  · have := h.map g
    rw [List.map_map] at this
    have e : g ∘ f = id := funext hg
    rw [e, List.map_id] at this
    exact this
def unR : D → Pl × Int
  | .tup [.int a, .int b, .int c] => ((a, b), c)
  | _ => ((0, 0), 0)
theorem unR_row (r : Pl × Int) : unR (rowD r) = r := rfl
end DL
set_option maxRecDepth 100000
namespace DL
open PySem PySem.Spec PyProof.Rows L2
/-! facts of the head about classes -/
/-- the object at a is the empty tuple -/
def eTupB (K : PySem.W.Frag) (a : Addr) : Bool := match K.lookup a with
  | some ⟨.type c, _, .seq its _, _⟩ => decide (c = "tuple") && decide (its.size = 0)
  | _ => false
theorem eTupB_ok {K : PySem.W.Frag} {a : Addr} (h : eTupB K a = true) : SqTK K a [] := by
  unfold eTupB at h
  cases q : K.lookup a with
  | none => rw [q] at h; cases h
  | some o =>
    obtain ⟨oc, od, dt, osl⟩ := o
    rw [q] at h
    cases oc with
    | type c =>
      cases dt with
      | seq its n =>
        obtain ⟨h1, h2⟩ := He.ba (show (decide (c = "tuple") && decide (its.size = 0)) = true from h)
        have h2 := of_decide_eq_true h2
        refine ⟨_, its, n, q, congrArg Value.type (of_decide_eq_true h1), rfl, by rw [h2]; exact Nat.zero_le _, ?_⟩
        have e : its.toList = [] := by
          have : its.toList.length = 0 := by simpa using h2
          exact List.length_eq_zero_iff.mp this
        rw [e]
        exact .nil
      | _ => cases h
    | _ => cases dt <;> cases h
/-- what isinstance(x, C) asks -/
def isCB (K : PySem.W.Frag) (C : Addr) : Bool := He.eqO (PySem.W.findIn K (.ref C) "__class__") (some (some (.builtin "object.__class__"))) && (He.eqO (PySem.W.specialIn K (.builtin "object.__class__") "__get__") (some (some (.builtin "getset_descriptor.__get__"))) && (decide (PySem.W.takesIn K (.builtin "object.__class__") = some true) &&
  (decide (PySem.W.mroIn K C (.type "object") = some true) && (decide (PySem.W.kitOne K (.ref C) (.ref C) = some true) && decide (PySem.W.kitOne K (.type "dict") (.ref C) = some false)))))
theorem isCB_ok {K : PySem.W.Frag} {C : Addr} (c : Cls K C) (h : isCB K C = true) : IsC K C := by
  obtain ⟨h1, h⟩ := He.ba h
  obtain ⟨h2, h⟩ := He.ba h
  obtain ⟨h3, h⟩ := He.ba h
  obtain ⟨h4, h⟩ := He.ba h
  obtain ⟨h5, h6⟩ := He.ba h
  exact ⟨⟨c, He.eqO_ok h1, He.eqO_ok h2, of_decide_eq_true h3, of_decide_eq_true h4, of_decide_eq_true h5⟩, of_decide_eq_true h6⟩
end DL
set_option maxRecDepth 100000
set_option maxHeartbeats 2000000
/-! a lambda of one parameter, called again and again from where it was made -/
namespace LamY
open PySem PySem.Spec PyProof.Rows L2 LamX
structure LamP (sc scope : Scope) (p : Str) : Prop where
  kind : scope.kind = .function
  co : scope.isCoroutine = false
  gen : scope.isGenerator = false
  own : ∀ y ∈ scope.names, (y.2 = .local → y.1 = p) ∧ y.2 ≠ .cell
  par : scope.names.lookup p = some .local
  free : ∀ y ∈ scope.names, y.2 = .free → sc.names.lookup y.1 = some .cell ∨ sc.names.lookup y.1 = some .free
def lamPB (sc scope : Scope) (p : Str) : Bool :=
  decide (scope.kind = .function) && (!scope.isCoroutine && (!scope.isGenerator && (decide (scope.names.lookup p = some .local) && scope.names.all fun y => (!decide (y.2 = .local) || decide (y.1 = p)) && (!decide (y.2 = .cell) && (!decide (y.2 = .free) || (decide (sc.names.lookup y.1 = some .cell) || decide (sc.names.lookup y.1 = some .free)))))))
theorem lamP_by {sc scope : Scope} {p : Str} (h : lamPB sc scope p = true) : LamP sc scope p := by
  unfold lamPB at h
  simp only [Bool.and_eq_true, Bool.or_eq_true, Bool.not_eq_true', decide_eq_true_eq, decide_eq_false_iff_not, List.all_eq_true] at h
  obtain ⟨h1, h2, h3, h5, h4⟩ := h
  refine ⟨h1, h2, h3, fun y hy => ⟨fun e => (h4 y hy).1.elim (fun z => absurd e z) id, (h4 y hy).2.1⟩, h5, fun y hy e => ?_⟩
  rcases (h4 y hy).2.2 with z | z
  · exact absurd e z
  · exact z
theorem LamP.has {X : Cx} {scope : Scope} {p : Str} (L : LamP X.env.scope scope p) (ok : X.Ok) : ∀ y ∈ scope.names, y.2 = .free → ∃ c, X.env.cells.lookup y.1 = some c := fun y hy e => by
  rcases L.free y hy e with k | k
  · exact ok.has _ (.inl k)
  · exact ok.has _ (.inr k)
abbrev E00 : XK := fun _ _ _ => False
section
variable {X : Cx} {pins : List (Addr × Obj)} {σ : L2.St} {H : Hp} {s : Shared}
theorem lam_start1 {A : Around} {E : XK} {scope : Scope} {f c' : Addr} {p : Str} {j : Nat} {v : V} {u : Value} {h₁ : Heap} {tk : Nat} (I : Inv X pins σ H s) (L : LamP X.env.scope scope p) (hN : X.N.Nodup) (hj : X.N[j]? = some p) (ru : RelV v u)
    (e0 : Env0 X.prog X.w X.K X.mg X.base A X.stack s H) (hd : A.handled = none) (hns : h₁.Ns s.heap.objs.size fun y => ([(p, u)] : List (Str × Value)).reverse.lookup y) (kp : ∀ b o, s.heap.get? b = some o → h₁.get? b = some o) :
    Inv (lamCx X A X.stack s H E scope f c') [] (σ.set j (some v)) H { s with heap := h₁, toks := tk } := by
  have hfree := L.has I.ok
  have cm : ∀ {y c}, (cloFrom X.env.cells scope.names []).lookup y = some c → X.env.cells.lookup y = some c := fun {y c} e => by
    rcases cloFrom_mem (PySem.mem_of_lookup e) with hm | ⟨h1, h2⟩
    · cases hm
    · obtain ⟨c1, hc⟩ := hfree _ h1 rfl
      have hc : X.env.cells.lookup y = some c1 := hc
      have e2 : c = c1 := by
        rw [h2, hc] <;> rfl
      rw [e2]
      exact hc
  have look : ∀ {y}, scope.names.lookup y = some .free → ∃ c, (cloFrom X.env.cells scope.names []).lookup y = some c := fun {y} hl => by
    have hy : (y, NameKind.free) ∈ scope.names := PySem.mem_of_lookup hl
    exact mem_lookup (cloFrom_has (cells := X.env.cells) (acc := []) hy)
  have cellK : ∀ {c : Addr} {v : Option Value}, s.heap.IsCell c v → h₁.IsCell c v := fun {c v} ⟨o, ho, hd⟩ => ⟨o, kp _ _ ho, hd⟩
  have noA : ∀ b : Addr, b ∉ (lamCx X A X.stack s H E scope f c').ex := fun b z => absurd (show b ∈ ([] : List Addr) from z) (by simp)
  refine ⟨⟨e0.mod, L.kind, rfl, rfl, Nat.le_refl _, fun y z c e1 e2 => I.ok.inj y z c (cm e1) (cm e2), fun y hy => ?_, fun y c z _ => ?_, fun _ => hd, Around.frames_deeper e0.frames, .inr ⟨rfl, rfl⟩, fun b z => absurd z (noA b), e0.bs, e0.bsz, fun b _ _ => noA b,
      fun b z => absurd z (noA b), e0.funs, e0.frf⟩,
    rfl, e0.bare, Un.kept kp, ⟨_, hns, fun i y v' e1 e2 e3 => ?_⟩, fun y c e => ?_, e0.hok.fresh (Nat.le_refl _), fun y c e => ?_, fun q hq => absurd (show q ∈ ([] : List (Addr × Obj)) ++ [] from hq) (by simp), e0.hok.kept kp, by rw [List.length_set]; exact I.len⟩
  · have hy : scope.names.lookup y = some .cell ∨ scope.names.lookup y = some .free := hy
    rcases hy with hy | hy
    · exact absurd rfl (L.own _ (PySem.mem_of_lookup hy)).2
    · exact look hy
  · have z : false = true := z
    cases z
  · have e1 : X.N[i]? = some y := e1
    have e3 : Vis scope y := e3
    by_cases hij : i = j
    · subst hij
      obtain rfl : p = y := Option.some.inj (hj.symm.trans e1)
      have hl : i < σ.length := by rw [I.len]; exact (List.getElem?_eq_some_iff.mp hj).1
      rw [List.getElem?_set_self hl] at e2
      obtain rfl : v = v' := Option.some.inj (Option.some.inj e2)
      exact ⟨u, ru, .inl ⟨L.par, by simp [List.lookup]⟩⟩
    · rw [List.getElem?_set_ne (Ne.symm hij)] at e2
      rcases e3 with k | k | k
      · exfalso
        have e : y = p := (L.own _ (PySem.mem_of_lookup k)).1 rfl
        rw [e] at e1
        have h1 := (List.getElem?_eq_some_iff.mp e1)
        have h2 := (List.getElem?_eq_some_iff.mp hj)
        obtain ⟨l1, g1⟩ := h1
        obtain ⟨l2, g2⟩ := h2
        rcases Nat.lt_or_gt_of_ne hij with z | z
        · exact List.pairwise_iff_getElem.mp hN i j l1 l2 z (g1.trans g2.symm)
        · exact List.pairwise_iff_getElem.mp hN j i l2 l1 z (g2.trans g1.symm)
      · exact absurd rfl (L.own _ (PySem.mem_of_lookup k)).2
      · obtain ⟨m, hn, hl⟩ := I.loc
        have hvis : Vis X.env.scope y := (L.free _ (PySem.mem_of_lookup k) rfl).elim (fun k => .inr (.inl k)) (fun k => .inr (.inr k))
        obtain ⟨w', r, q⟩ := hl i y v' e1 e2 hvis
        obtain ⟨c2, h2⟩ := look k
        refine ⟨w', r, .inr ⟨.inr k, c2, h2, ?_⟩⟩
        have c1 := cm h2
        rcases q with ⟨k', _⟩ | ⟨_, c3, e', z⟩
        · have k' : X.env.scope.names.lookup y = some .local := k'
          rcases L.free _ (PySem.mem_of_lookup k) rfl with k2 | k2 <;> rw [show X.env.scope.names.lookup y = _ from k2] at k' <;> cases k'
        · rw [c1] at e'
          cases e'
          exact cellK z
  · obtain ⟨w', z⟩ := I.cell y c (cm e)
    exact ⟨w', cellK z⟩
  · exact I.freeC y c (cm e)
/-- f(u): f the lambda, called from a frame as deep as A -/
theorem lam_call1 {A : Around} {scope : Scope} {f c' : Addr} {p : Str} {j k : Nat} {params : Arguments} {body : Expr} {pm ctv : Value} {v : V} {u : Value} {tb : TE} {Q : VK} {Ef : Value → Shared → Prop} (I : Inv X pins σ H s) (L : LamP X.env.scope scope p) (hN : X.N.Nodup) (hj : X.N[j]? = some p) (ru : RelV v u)
    (hf : s.heap.get? f = some (PySem.W.kla_obj "<lambda>" (X.env.qual ++ "<lambda>") params body scope (cloFrom X.env.cells scope.names []) pm c' ctv)) (hc : H c' = some (CodeO c' (X.env.qual ++ "<lambda>")))
    (hbind : bindArgs (PySem.W.kla_fn "<lambda>" (X.env.qual ++ "<lambda>") params body scope (cloFrom X.env.cells scope.names []) pm (.ref c') ctv) ⟨[u], []⟩ = pure [(p, u)])
    (e0 : Env0 X.prog X.w X.K X.mg X.base A X.stack s H) (hr : Room (k + 1) A) (hbody : Room k (A.deeper (lamEnv X scope s.heap.objs.size f c')) → PE (lamCx X A X.stack s H E00 scope f c') body tb) (ht : tb (σ.set j (some v)) H Q) :
    wpAny (model X.prog X.w) A (call (.ref f) [u]) (EP X pins σ Q) Ef s := by
  have rc : codeAny (model X.prog X.w) A (.call (.ref f) ⟨[u], []⟩) (CR (L2.CX X.prog X.w) X.stack X.prog X.w H s Q E00) s := by
    obtain ⟨⟨oc, vs, t, hoc, hdc, hvc⟩, _, _⟩ := I.hok c' _ hc
    refine PySem.W.kla_callFunE hr.depth hf rfl L.co L.gen rfl ⟨c', oc, vs, t, rfl, hoc, hdc, hvc⟩ ?_
    rw [hbind]
    refine wpAny_pure (wpAny_newFunctionEnv (fun y hy => (L.own y hy).2) (fun y hy => ?_) (fun h₁ hns hsb => ⟨I.nolimit.fresh _ hsb, ?_⟩) L.kind)
    · have e : y = (p, u) := by simpa using hy
      rw [e]
      exact L.par
    show codeAny _ _ (.expr body (lamEnv X scope s.heap.objs.size f c')) _ _
    have kp : ∀ b o, s.heap.get? b = some o → h₁.get? b = some o := fun b o e => hsb.extBut b o (Nat.ne_of_lt (Heap.lt_size e)) (Heap.get?_push_of_some _ e)
    refine PySem.W.kla_codeExpr (wpAny_mono ((hbody (hr.deeper _)).run [] _ _ H Q (lam_start1 (tk := s.toks + ([(p, u)] : List (Str × Value)).length) I L hN hj ru e0 hr.hd hns kp) ht) (fun v s' hq => ?_) fun e s' hq => hq)
    obtain ⟨w', H', J', rv, q⟩ := hq
    exact ⟨w', H', J'.os, J'.bare, J'.base, J'.hok, rv, q⟩
  refine wpAny_call (codeAny_mono rc fun r s' hq => ?_)
  cases r with
  | error e =>
    obtain ⟨_, _, _, _, _, _, _, _, _, _, _, _, z⟩ := (show L2.CX X.prog X.w X.stack H s E00 e s' from hq)
    exact z.elim
  | ok fl =>
    cases fl with
    | ret u => exact I.after hq
    | next => exact False.elim hq
    | brk => exact False.elim hq
    | cont => exact False.elim hq
end
end LamY
set_option maxRecDepth 100000
set_option maxHeartbeats 4000000
/-! sorted(xs, key=f), f a closure whose call the walk knows -/
namespace LamY
open PySem PySem.W PySem.Calls PySem.Spec PyProof.Rows L2 LamX
section
variable {X : Cx} {pins : List (Addr × Obj)} {σ : L2.St} {H : Hp} {s : Shared}
def PinOk (X : Cx) (H : Hp) (s : Shared) (p : Addr × Obj) : Prop := s.heap.get? p.1 = some p.2 ∧ H p.1 = none ∧ p.1 ≠ X.env.locals ∧ p.1 ∉ X.fs ∧ ∀ v, p.2.data ≠ .cell v
theorem pinOn {more : List (Addr × Obj)} (I : Inv X pins σ H s) (h : ∀ p ∈ more, PinOk X H s p) : Inv X (pins ++ more) σ H s :=
  ⟨I.ok, I.os, I.bare, I.base, I.loc, I.cell, I.free, I.freeC, fun p hp => by
    rw [← List.append_assoc] at hp
    rcases List.mem_append.mp hp with q | q
    · exact I.pin p q
    · exact h p q, I.hok, I.len⟩
theorem pinOff {more : List (Addr × Obj)} (I : Inv X (pins ++ more) σ H s) : Inv X pins σ H s :=
  ⟨I.ok, I.os, I.bare, I.base, I.loc, I.cell, I.free, I.freeC, fun p hp => I.pin p (by rw [← List.append_assoc]; exact List.mem_append_left _ hp), I.hok, I.len⟩
theorem pinAt {p : Addr × Obj} (I : Inv X pins σ H s) (hp : p ∈ pins) : PinOk X H s p := I.pin p (List.mem_append_right _ hp)
/-- an untracked object of one's own becomes tracked -/
theorem track {a : Addr} {o : HO} (I : Inv X pins σ H s) (hf : FpOk X pins H a) (there : ∃ ob, s.heap.get? a = some ob) (new : ObjOk X.prog X.w (upd H a o) s.heap a o) : Inv X pins σ (upd H a o) s := by
  have ne : ∀ {b u}, H b = some u → b ≠ a := fun e => ne_of_none e hf.1
  refine I.step (h' := s.heap) (g' := s.gens) (t' := s.toks) (d' := s.drawn) (ch := [a]) (fun b hb => ?_) (fun b o _ _ _ e _ => e) (fun b o _ _ _ e _ => ⟨o.slots, e⟩) (fun b o hc e n => ?_) (fun b o _ e => ⟨o, e⟩) (fun b xs e => by rw [upd_ne (ne e)]; exact e) (fun b o u e => by rw [upd_ne (ne e)]; exact e)
    (fun b ps e => ⟨#[], by rw [upd_ne (ne e), e]; simp⟩) (fun m hm => hm) (fun b u e => ?_) I.bare
  · obtain rfl : b = a := by simpa using hb
    exact ⟨hf.2.2.2.1, hf.2.1, hf.2.2.2.2.1, hf.2.2.2.2.2⟩
  · rw [upd_ne (fun z => hc (by simp [z]))]; exact n
  · by_cases hb : b = a
    · subst hb
      rw [upd_same] at e
      obtain rfl := Option.some.inj e
      exact new
    · rw [upd_ne hb] at e
      exact (I.hok b u e).stay (fun d v _ q => q) (fun d q => by rw [upd_ne (ne q)]; exact q) fun d xs q => by rw [upd_ne (ne q)]; exact q
/-- the key's reading over the items, one after the other -/
def keyRun (B : V → Hp → VK → Prop) (R : List V → Hp → Prop) : List V → List V → Hp → Prop
  | [], acc, H => R acc H
  | x :: xs, acc, H => B x H fun k H' => keyRun B R xs (acc ++ [k]) H'
theorem dpAll_each {K : PySem.W.Frag} (I : Inv X pins σ H s) : ∀ {kV : List V} {kz : List PyData} {ks : List Value}, DpAll X.K H kV kz → Vals kV ks → EachIs (fun v k => ∃ as, Reads s.heap v k as) ks kz
  | [], _, _, .nil, .nil => .nil
  | _ :: _, _, _, .cons d ds, .cons r rs => .cons (Dp.reads I _ _ _ d r) (dpAll_each (K := K) I ds rs)
theorem vals_get {xs : List V} {vs : List Value} (r : Vals xs vs) {j : Nat} {v : Value} (h : vs[j]? = some v) : ∃ x, xs[j]? = some x ∧ RelV x v := by
  induction r generalizing j with
  | nil => simp at h
  | cons a r ih =>
    cases j with
    | zero =>
      rw [List.getElem?_cons_zero] at h
      obtain rfl := Option.some.inj h
      exact ⟨_, rfl, a⟩
    | succ j =>
      rw [List.getElem?_cons_succ] at h
      exact ih h
theorem keyJ_rest {E : Value → Shared → Prop} {P : PySem.Fin → Shared → Prop} {A : Around} {f a kS : Addr} {fo : Obj} {e1 : Nat} {b : Bool} {vs : List Value} {xs : List V} {B : V → Hp → VK → Prop} {R : List V → Hp → Prop} {G : List V → Hp → List PyData → Prop}
    (I : Inv X (pins ++ [(f, fo)]) σ H s) (fa : FpOk X (pins ++ [(f, fo)]) H a) (fk : FpOk X (pins ++ [(f, fo)]) H kS) (rv : Vals xs vs) (nk : s.heap.get? kS = some (seqObj "list" #[] 0)) (na : s.heap.get? a = some (seqObj "list" #[] e1)) (hka : kS ≠ a) (hZ : vs.length ≤ sizeLine)
    (turn : ∀ (pins' : List (Addr × Obj)) (s' : Shared) (H' : Hp) (x : V) (u : Value) (Q : VK), (f, fo) ∈ pins' → Inv X pins' σ H' s' → RelV x u → B x H' Q → wpAny (model X.prog X.w) A (call (.ref f) [u]) (EP X pins' σ Q) (fun _ _ => False) s')
    (run : keyRun B R xs [] H) (keys : ∀ kV H', R kV H' → ∃ kz : List PyData, DpAll X.K H' kV kz ∧ AllAlike kz ∧ Sortable kz ∧ (∀ d, d ∈ kz → A.units + d.depth < cLine) ∧ G kV H' kz)
    (fin : ∀ kV H' kz s3 out c, Inv X (pins ++ [(f, fo)]) σ H' s3 → FpOk X (pins ++ [(f, fo)]) H' a → G kV H' kz → DpAll X.K H' kV kz → s3.heap.get? a = some (seqObj "list" (List.toArray out) c) → KeyedOut b kz vs out → kV.length = vs.length → P (.done (.ret .none)) s3) :
    wpAny (model X.prog X.w) A (ksk_rest a (.ref f) b vs.toArray e1 (.ref kS)) P E s := by
  unfold ksk_rest
  refine wpAny_bind (wpAny_rule ?_)
  first
    | rw [List.forIn_toArray]
    | (rw [← Array.forIn_toList]; simp only [List.toList_toArray])
    | rw [← Array.forIn_toList]
  refine wpAny_bind (ksk_fold (fun i s' => ∃ H' kV kA e, Inv X (pins ++ [(f, fo)]) σ H' s' ∧ FpOk X (pins ++ [(f, fo)]) H' a ∧ FpOk X (pins ++ [(f, fo)]) H' kS ∧ s'.heap.get? kS = some (seqObj "list" kA e) ∧ s'.heap.get? a = some (seqObj "list" #[] e1) ∧ kA.size = i ∧ Vals kV kA.toList ∧ keyRun B R (xs.drop i) kV H') vs 0 s
    ⟨H, [], #[], 0, I, fa, fk, nk, na, rfl, .nil, by rw [List.drop_zero]; exact run⟩ ?step ?done)
  case step =>
    rintro j x s' hx ⟨H', kV, kA, e, I', fa', fk', nk', na', hsz, hk, hr⟩
    simp only [Nat.zero_add] at hsz hr ⊢
    have hj : j < vs.length := (List.getElem?_eq_some_iff.mp hx).1
    obtain ⟨xv, hxv, rx⟩ := vals_get rv hx
    have hxl : j < xs.length := (List.getElem?_eq_some_iff.mp hxv).1
    have ed : xs.drop j = xv :: xs.drop (j + 1) := by
      rw [List.drop_eq_getElem_cons hxl]
      rw [List.getElem?_eq_getElem hxl] at hxv
      rw [Option.some.inj hxv]
    rw [ed] at hr
    have I2 : Inv X ((pins ++ [(f, fo)]) ++ [(a, seqObj "list" #[] e1), (kS, seqObj "list" kA e)]) σ H' s' := pinOn I' fun p hp => by
      rcases List.mem_cons.mp hp with z | z
      · rw [z]
        exact ⟨na', fa'.1, fa'.2.1, fa'.2.2.1, fun v q => nomatch q⟩
      · rw [List.mem_singleton.mp z]
        exact ⟨nk', fk'.1, fk'.2.1, fk'.2.2.1, fun v q => nomatch q⟩
    refine wpAny_bind (wpAny_attempt (wpAny_mono (turn _ s' H' xv x _ (by simp) I2 rx hr) (fun v s'' he => ?_) fun _ _ hF => hF.elim))
    obtain ⟨kv, H2, I3, rk, hr2⟩ := he
    try dsimp only
    have pa := pinAt I3 (p := (a, seqObj "list" #[] e1)) (by simp)
    have pk := pinAt I3 (p := (kS, seqObj "list" kA e)) (by simp)
    have nk2 : s''.heap.get? kS = some (seqObj "list" kA e) := pk.1
    have na2 : s''.heap.get? a = some (seqObj "list" #[] e1) := pa.1
    have I4 := pinOff I3
    have fk2 : FpOk X (pins ++ [(f, fo)]) H2 kS := ⟨pk.2.1, fk'.2⟩
    have fa2 : FpOk X (pins ++ [(f, fo)]) H2 a := ⟨pa.2.1, fa'.2⟩
    have s1 := Heap.SameBut.update s''.heap kS (Obj.mapSeq (·.push v))
    obtain ⟨c2, hc2⟩ : ∃ c2, (s''.heap.update kS (Obj.mapSeq (·.push v))).get? kS = some (seqObj "list" (kA.push v) c2) := ⟨_, get?_update_seq nk2 (·.push v)⟩
    have ea : (kA.push v).toList = kA.toList ++ [v] := by simp
    have hz : kA.size ≤ sizeLine := Nat.le_trans (by rw [hsz]; exact Nat.le_of_lt hj) hZ
    refine wpAny_bind (listUpdate_at nk2 rfl ?_ hz (Nat.le_trans (Nat.le_of_eq (Array.size_push ..)) (Nat.succ_le_succ hz)))
    refine wpAny_pure ⟨rfl, H2, kV ++ [kv], kA.push v, c2, ?_, fa2, fk2, hc2, (s1.2 a hka.symm).trans na2, by rw [Array.size_push, hsz], by rw [ea]; exact hk.append (.cons rk .nil), hr2⟩
    exact I4.turnedL (ch := [kS]) (fun b o hb q => (s1.2 b (fun z => hb (by simp [z]))).trans q) fun b hb => by rw [show b = kS by simpa using hb]; exact fk2
  case done =>
    rintro s' ⟨H', kV, kA, e, I', fa', fk', nk', na', hsz, hk, hr⟩
    rw [Nat.zero_add] at hsz hr
    have hxl : xs.length = vs.length := rv.length
    rw [List.drop_of_length_le (by omega)] at hr
    have hr : R kV H' := hr
    obtain ⟨kz, hd, hal, hsk, hu, hG⟩ := keys kV H' hr
    have hk' := dpAll_each (K := X.K) I' hd hk
    have hkl : kV.length = vs.length := by rw [hk.length, Array.length_toList, hsz]
    try dsimp only
    refine wpAny_bind (listItems_at nk' rfl ?_)
    refine keyH_end (κ := dataKind s'.heap kz) (h₁ := hidT s'.heap fun b => if b = kS then some (.lst []) else none) (fun b o _ e => (of_hidT e).1) ?_ nk' na' hka (SortsAt.data (s := s') hk' hal hsk hu) hsz hZ fun h3 tk3 c k3 n3 => ?_
    · cases q : (hidT s'.heap fun b => if b = kS then some (.lst []) else none).get? kS with
      | none => rfl
      | some o =>
        have := (of_hidT q).2
        rw [if_pos rfl] at this
        cases this
    · refine fin kV H' kz _ _ c (I'.turnedL (t' := tk3) (ch := [a, kS]) (fun b o hb q => k3 b o (fun z => hb (by simp [z])) (hidT_get q (if_neg fun z => hb (by simp [z])))) fun b hb => ?_) fa' hG hd n3 ⟨s'.heap, kA.toList, hal, rfl, hk'⟩ hkl
      rcases List.mem_cons.mp hb with z | z
      · rw [z]; exact fa'
      · rw [List.mem_singleton.mp z]; exact fk'
theorem keyJ_tree {E : Value → Shared → Prop} {P : PySem.Fin → Shared → Prop} {A : Around} {f a : Addr} {fo : Obj} {n : Nat} {b : Bool} {vs : List Value} {xs : List V} {B : V → Hp → VK → Prop} {R : List V → Hp → Prop} {G : List V → Hp → List PyData → Prop}
    (I : Inv X (pins ++ [(f, fo)]) σ H s) (fa : FpOk X (pins ++ [(f, fo)]) H a) (rv : Vals xs vs) (ho : s.heap.get? a = some (seqObj "list" vs.toArray n)) (hZ : vs.length ≤ sizeLine)
    (turn : ∀ (pins' : List (Addr × Obj)) (s' : Shared) (H' : Hp) (x : V) (u : Value) (Q : VK), (f, fo) ∈ pins' → Inv X pins' σ H' s' → RelV x u → B x H' Q → wpAny (model X.prog X.w) A (call (.ref f) [u]) (EP X pins' σ Q) (fun _ _ => False) s')
    (run : keyRun B R xs [] H) (keys : ∀ kV H', R kV H' → ∃ kz : List PyData, DpAll X.K H' kV kz ∧ AllAlike kz ∧ Sortable kz ∧ (∀ d, d ∈ kz → A.units + d.depth < cLine) ∧ G kV H' kz)
    (fin : ∀ kV H' kz s3 out c, Inv X (pins ++ [(f, fo)]) σ H' s3 → FpOk X (pins ++ [(f, fo)]) H' a → G kV H' kz → DpAll X.K H' kV kz → s3.heap.get? a = some (seqObj "list" (List.toArray out) c) → KeyedOut b kz vs out → kV.length = vs.length → P (.done (.ret .none)) s3) :
    wpAny (model X.prog X.w) A (ksk_tree a (.ref f) b) P E s := by
  have ha : a < s.heap.objs.size := Heap.lt_size ho
  obtain ⟨e1, ho1⟩ : ∃ e1, (s.heap.update a (Obj.mapSeq fun _ => (#[] : Array Value))).get? a = some (seqObj "list" #[] e1) := ⟨_, get?_update_seq ho fun _ => #[]⟩
  have hkS : ((s.heap.update a (Obj.mapSeq fun _ => (#[] : Array Value))).push (seqObj "tuple" vs.toArray 0)).objs.size = s.heap.objs.size + 1 := by rw [size_push', Heap.size_update]
  unfold ksk_tree
  refine wpAny_bind (listItems_at ho rfl ?_)
  refine wpAny_bind (listUpdate_at ho rfl ?_ (by rw [List.size_toArray]; exact hZ) (Nat.zero_le _))
  refine wpAny_bind (seqEpoch_at ho1 rfl ?_)
  refine wpAny_bind (wpAny_newTuple ?_ (by show vs.length ≤ _; exact hZ))
  refine wpAny_bind (wpAny_newList ?_ (Nat.zero_le _))
  refine wpAny_holding ?_
  have s1 := Heap.SameBut.update s.heap a (Obj.mapSeq fun _ => (#[] : Array Value))
  have I2 : Inv X (pins ++ [(f, fo)]) σ H { s with heap := ((s.heap.update a (Obj.mapSeq fun _ => (#[] : Array Value))).push (seqObj "tuple" vs.toArray 0)).push (seqObj "list" #[] 0) } :=
    I.turnedL (t' := s.toks) (ch := [a]) (fun b o hb q => Heap.get?_push_of_some _ (Heap.get?_push_of_some _ ((s1.2 b (fun z => hb (by simp [z]))).trans q))) fun b hb => by rw [show b = a by simpa using hb]; exact fa
  refine keyJ_rest (kS := ((s.heap.update a (Obj.mapSeq fun _ => (#[] : Array Value))).push (seqObj "tuple" vs.toArray 0)).objs.size) (s := { s with heap := ((s.heap.update a (Obj.mapSeq fun _ => (#[] : Array Value))).push (seqObj "tuple" vs.toArray 0)).push (seqObj "list" #[] 0) })
    I2 fa (I.fpOk (by rw [hkS]; exact Nat.le_succ _) (I.hok.fresh (by rw [hkS]; exact Nat.le_succ _))) rv (Heap.get?_push_size _ rfl) (Heap.get?_push_of_some _ (Heap.get?_push_of_some _ ho1)) (by rw [hkS]; exact Nat.ne_of_gt (Nat.lt_succ_of_lt ha)) hZ turn run keys fin
/-- the items by their keys, stably -/
def byKeys (xs : List V) (kz : List PyData) : List V := ((xs.zip kz).mergeSort (dataLe false Prod.snd)).map Prod.fst
theorem each_zip : ∀ {xs : List V} {vs : List Value} {kz : List PyData}, Vals xs vs → kz.length = xs.length → EachIs (fun v (x : V × PyData) => RelV x.1 v) vs (xs.zip kz)
  | [], _, _, .nil, _ => by rw [List.zip_nil_left]; exact .nil
  | _ :: _, _, [], .cons _ _, h => by simp at h
  | _ :: _, _, _ :: _, .cons r rs, h => .cons r (each_zip rs (by simpa using h))
theorem each_vals : ∀ {out : List Value} {bs : List (V × PyData)}, EachIs (fun v (x : V × PyData) => RelV x.1 v) out bs → Vals (bs.map Prod.fst) out
  | _, _, .nil => .nil
  | _, _, .cons r rs => .cons r (each_vals rs)
theorem dpAll_len {K : PySem.W.Frag} {H : Hp} : ∀ {kV : List V} {kz : List PyData}, DpAll K H kV kz → kz.length = kV.length
  | _, _, .nil => rfl
  | _, _, .cons _ r => congrArg Nat.succ (dpAll_len r)
/-- sorted(l, key=f) in the maker's frame -/
theorem sorted_keyJ {Ef : Value → Shared → Prop} {l f : Addr} {fo : Obj} {xs : List V} {B : V → Hp → VK → Prop} {Q : VK} (I : Inv X pins σ H s) (hl : SqL X.K H l xs) (pf : PinOk X H s (f, fo))
    (turn : ∀ (pins' : List (Addr × Obj)) (s' : Shared) (H' : Hp) (x : V) (u : Value) (Q : VK), (f, fo) ∈ pins' → Inv X pins' σ H' s' → RelV x u → B x H' Q → wpAny (model X.prog X.w) X.A.in1.in1 (call (.ref f) [u]) (EP X pins' σ Q) (fun _ _ => False) s')
    (run : keyRun B (fun kV H' => ∃ kz : List PyData, DpAll X.K H' kV kz ∧ AllAlike kz ∧ Sortable kz ∧ (∀ d, d ∈ kz → X.A.units + 2 + d.depth < cLine) ∧ ∀ p, H' p = none → Q (.ref p) (upd H' p (.lst (byKeys xs kz)))) xs [] H) :
    wpAny (model X.prog X.w) X.A (call (.builtin "sorted") [.ref l] [(Str.ofString "key", .ref f)]) (EP X pins σ Q) Ef s := by
  obtain ⟨its, rv, pl, hz⟩ := I.list hl
  have hZ : its.length ≤ sizeLine := by rw [← rv.length]; exact hz
  refine sorted_of_sort (vs := its) pl.isList hZ (PyProof.Rows.ksk_s1 _ _) (fun _ => PyProof.Rows.ksk_l1 _ _) fun E' => ?_
  rw [ksk_t1]
  have I1 : Inv X pins σ H { s with heap := copyHeap s.heap its } := I.kept (t' := s.toks) fun b o e => copyHeap_old e
  have fp : FpOk X pins H (s.heap.objs.size + 1) := I.fpOk (Nat.le_succ _) (I.hok.fresh (Nat.le_succ _))
  have fp2 : FpOk X (pins ++ [(f, fo)]) H (s.heap.objs.size + 1) := ⟨fp.1, fp.2.1, fp.2.2.1, fp.2.2.2.1, fp.2.2.2.2.1, fun p hp => by
    rw [← List.append_assoc] at hp
    rcases List.mem_append.mp hp with q | q
    · exact fp.2.2.2.2.2 p q
    · rw [List.mem_singleton.mp q]
      exact Nat.ne_of_lt (Nat.lt_succ_of_lt (Heap.lt_size pf.1))⟩
  refine keyJ_tree (s := { s with heap := copyHeap s.heap its }) (pinOn I1 fun p hp => ?_) fp2 rv (copyHeap_at s.heap its) hZ turn run (G := fun kV H' kz => ∀ p, H' p = none → Q (.ref p) (upd H' p (.lst (byKeys xs kz)))) (fun kV H' h => h) fun kV H' kz s3 out c I3 fa hR hd hout hk hkl => ?_
  · rw [List.mem_singleton.mp hp]
    exact ⟨copyHeap_old pf.1, pf.2.1, pf.2.2.1, pf.2.2.2.1, pf.2.2.2.2⟩
  · refine ⟨rfl, ?_⟩
    have hzl : kz.length = xs.length := by rw [dpAll_len hd, hkl, rv.length]
    have hmap : (xs.zip kz).map Prod.snd = kz := by rw [List.map_snd_zip]; omega
    have he := keyedOut_each (R := fun v (x : V × PyData) => RelV x.1 v) (bs := xs.zip kz) Prod.snd (by rw [hmap]; exact hk) (each_zip rv hzl)
    have hv : Vals (byKeys xs kz) out := each_vals he
    have hlen : (byKeys xs kz).length = xs.length := by
      unfold byKeys
      rw [List.length_map, List.length_mergeSort, List.length_zip, hzl, Nat.min_self]
    have I5 := pinOff I3
    have fa5 : FpOk X pins H' (s.heap.objs.size + 1) := ⟨fa.1, fp.2⟩
    have new : ObjOk X.prog X.w (upd H' (s.heap.objs.size + 1) (.lst (byKeys xs kz))) s3.heap (s.heap.objs.size + 1) (.lst (byKeys xs kz)) := ⟨by rw [hlen]; exact hz, out, c, hv, hout⟩
    exact ⟨.ref _, _, track I5 fa5 ⟨_, hout⟩ new, rfl, hR _ fa.1⟩
end
end LamY
set_option maxRecDepth 100000
set_option maxHeartbeats 2000000
namespace LamY
open PySem PySem.Spec PyProof.Rows L2 LamX
section
variable {X : Cx} {pins : List (Addr × Obj)} {σ : L2.St} {H : Hp} {s : Shared}
/-- the lambda is made: its code object is new, or found in the table -/
theorem lam_make3 {M : Addr → Prop} {c P : Addr} {params : Arguments} {body : Expr} {scope : Scope} {pos : Pos} {E : Value → Shared → Prop} {Q : Value → Shared → Prop} (I : Inv X pins σ H s) (TB : TabB X.base X.mg c P) (hcode : X.env.code = .ref c)
    (hT : DL.TabM M H P (X.env.qual ++ "<lambda>")) (hM : ∀ c, H c = none → ¬ M c) (hdef : defaultsOf params X.env = ([], [])) (hfree : ∀ y ∈ scope.names, y.2 = .free → ∃ c, X.env.cells.lookup y.1 = some c)
    (h : ∀ (f c' : Addr) (pm ctv : Value) (H1 : Hp) (s' : Shared), Inv X pins σ H1 s' → (∀ b o, b ≠ P → H b = some o → H1 b = some o) → DL.TabM M H1 P (X.env.qual ++ "<lambda>") →
      s'.heap.get? f = some (PySem.W.kla_obj "<lambda>" (X.env.qual ++ "<lambda>") params body scope (cloFrom X.env.cells scope.names []) pm c' ctv) → H1 f = none → s.heap.objs.size ≤ f → H1 c' = some (CodeO c' (X.env.qual ++ "<lambda>")) → ¬ M c' → Q (.ref f) s') :
    wpAny (model X.prog X.w) X.A (eval (.Lambda params body scope pos) X.env) Q E s := by
  obtain ⟨ps, hP, ht, ha⟩ := id hT
  refine PySem.W.kla_eval hdef ?_
  have bP : s.heap.BuiltinsAt X.mg P := TB.bm.keeps I.bk
  have hP' : s.heap.get? P = some { cls := .none, data := .fields ps } := I.hok P _ hP
  cases hc : codeAmong pos ps.toList with
  | none =>
    refine PySem.W.kla_makeFunction (mg := X.mg) (c := c) (P := P) (ps := ps) (closure_ok hfree) I.ok.glob (I.mod.glob.keeps I.bk) hcode (TB.code.keeps I.bk) hP' ht hc TB.gP bP fun c' ctv h' tk hx hge hlt hrec htb => ?_
    obtain ⟨c2, oc, vs, t, e2, hoc, hd, hv⟩ := hrec
    cases e2
    have hsz : s.heap.objs.size ≤ h'.objs.size := Nat.le_trans hge (Nat.le_of_lt hlt)
    have nC : H c' = none := I.hok.fresh hge
    have I1 := inv_table (t' := tk) (more := #[rawInt pos.line, rawInt pos.col, .ref c']) (h' := h'.push (PySem.W.kla_obj "<lambda>" (X.env.qual ++ "<lambda>") params body scope (cloFrom X.env.cells scope.names []) ((X.mg "__name__").getD .none) c' ctv)) I hP
      (fun b o hb e => Heap.get?_push_of_some _ (hx b o hb e)) (Heap.get?_push_of_some _ htb) hge ⟨oc, vs, t, Heap.get?_push_of_some _ hoc, hd, hv⟩
    have hE : ∀ b o, b ≠ P → H b = some o → (upd (upd H P (.tbl (ps ++ #[rawInt pos.line, rawInt pos.col, .ref c']))) c' (CodeO c' (X.env.qual ++ "<lambda>"))) b = some o := fun b o n e => by
      rw [upd_ne (ne_of_none e nC), upd_ne n]
      exact e
    have eL : (ps ++ #[rawInt pos.line, rawInt pos.col, .ref c']).toList = ps.toList ++ [rawInt pos.line, rawInt pos.col, .ref c'] := by simp
    refine h h'.objs.size c' ((X.mg "__name__").getD .none) ctv _ _ I1 hE ⟨_, by rw [upd_ne (ne_of_none hP nC), upd_same], by rw [eL]; exact PySem.TriplesOk_snoc _ _ _ _ ht, fun p' cv hcv => ?_⟩ (Heap.get?_push_size _ rfl) ?_ hsz upd_same (hM c' nC)
    · rw [eL] at hcv
      rcases among_app _ ht hcv with z | z
      · obtain ⟨c0, e1, n0, e2⟩ := ha p' cv z
        exact ⟨c0, e1, n0, hE _ _ (fun z => codeO_ne ps (Option.some.inj (e2.symm.trans (by rw [z]; exact hP)))) e2⟩
      · exact ⟨c', z, hM c' nC, upd_same⟩
    · have n1 : h'.objs.size ≠ c' := Nat.ne_of_gt hlt
      have n2 : h'.objs.size ≠ P := Nat.ne_of_gt (Nat.lt_of_lt_of_le (Heap.lt_size hP') hsz)
      rw [upd_ne n1, upd_ne n2]
      exact I.hok.fresh hsz
  | some cv =>
    obtain ⟨c', e, n', hco⟩ := ha pos cv hc
    subst e
    refine PySem.W.kla_makeFunctionHit (mg := X.mg) (c := c) (P := P) (ps := ps) (closure_ok hfree) I.ok.glob (I.mod.glob.keeps I.bk) hcode (TB.code.keeps I.bk) hP' ht hc bP fun ctv h' tk hx hsz => ?_
    have I1 : Inv X pins σ H { s with heap := h'.push (PySem.W.kla_obj "<lambda>" (X.env.qual ++ "<lambda>") params body scope (cloFrom X.env.cells scope.names []) ((X.mg "__name__").getD .none) c' ctv), toks := tk } := I.kept fun b o e => Heap.get?_push_of_some _ (hx b o e)
    exact h h'.objs.size c' ((X.mg "__name__").getD .none) ctv H _ I1 (fun _ _ _ e => e) hT (Heap.get?_push_size _ rfl) (I.hok.fresh hsz) hsz hco n'
/-- sorted(e, key=lambda p: body) -/
def tSort (X : Cx) (q : Str) (P : Addr) (j : Nat) (te : TE) (tb : TE) : TE := fun σ H Q => te σ H fun v H1 => ∃ (M : Addr → Prop) (l : Addr) (xs : List V), v = .ref l ∧ SqL X.K H1 l xs ∧ DL.TabM M H1 P q ∧ (∀ c, H1 c = none → ¬ M c) ∧ ∀ H2 c', (∀ b o, b ≠ P → H1 b = some o → H2 b = some o) → DL.TabM M H2 P q → H2 c' = some (CodeO c' q) → ¬ M c' →
  keyRun (fun x H' Q' => H' c' = some (CodeO c' q) ∧ tb (σ.set j (some x)) H' Q') (fun kV H' => ∃ kz : List PyData, DpAll X.K H' kV kz ∧ PySem.W.AllAlike kz ∧ PySem.W.Sortable kz ∧ (∀ d, d ∈ kz → X.A.units + 2 + d.depth < cLine) ∧ ∀ p, H' p = none → Q (.ref p) (upd H' p (.lst (byKeys xs kz)))) xs [] H2
theorem sqL_ext {K : PySem.W.Frag} {H H' : Hp} {a P : Addr} {xs : List V} (h : SqL K H a xs) (nP : ∀ o, H P = some o → (∀ ys, o ≠ .lst ys) ∧ ∀ ob ys, o ≠ .frz ob (.lst ys)) (e : ∀ b o, b ≠ P → H b = some o → H' b = some o) : SqL K H' a xs := by
  rcases h with (h | ⟨o, h⟩) | h
  · exact .inl (.inl (e _ _ (fun z => (nP _ (z ▸ h)).1 xs rfl) h))
  · exact .inl (.inr ⟨o, e _ _ (fun z => (nP _ (z ▸ h)).2 o xs rfl) h⟩)
  · exact .inr h
theorem pe_sortLam {k j : Nat} {c P : Addr} {p : Str} {params : Arguments} {body : Expr} {scope : Scope} {e : Expr} {te tb : TE} {np lpos pos : Pos} {kwp : Pos} (hg : Gl X "sorted") (hm : X.mg "sorted" = none) (hv : bootBuiltins "sorted" = some (.builtin "sorted")) (he : PE X e te)
    (TB : TabB X.base X.mg c P) (hcode : X.env.code = .ref c) (hr : Room (k + 3) X.A) (L : LamP X.env.scope scope p) (hN : X.N.Nodup) (hj : X.N[j]? = some p) (hdef : defaultsOf params X.env = ([], []))
    (hbind : ∀ (q : Str) (cl : List (Str × Addr)) (pm cv ctv u : Value), bindArgs (PySem.W.kla_fn "<lambda>" q params body scope cl pm cv ctv) ⟨[u], []⟩ = pure [(p, u)])
    (hbody : ∀ (A : Around) (s : Shared) (H : Hp) (f c' : Addr), Room k (A.deeper (lamEnv X scope s.heap.objs.size f c')) → PE (lamCx X A X.stack s H E00 scope f c') body tb)
    (hst : backTo pos (starEach [e] X.env) = (false, eval e X.env) :: backTo pos (starEach [] X.env) := by rfl) (hpl : (backTo pos (starEach [e] X.env)).any (·.1) = false := by rfl)
    (hall : (backToKw pos (keywordEach [⟨some "key", .Lambda params body scope lpos, kwp⟩] X.env)).all (·.1.isSome) = true := by rfl) (hnone : (backToKw pos (keywordEach [⟨some "key", .Lambda params body scope lpos, kwp⟩] X.env)).any (·.1.isNone) = false := by rfl)
    (hks : (backToKw pos (keywordEach [⟨some "key", .Lambda params body scope lpos, kwp⟩] X.env)).filterMap (·.1) = [Str.ofString "key"] := by rfl) :
    PE X (.Call (.Name "sorted" np) [e] [⟨some "key", .Lambda params body scope lpos, kwp⟩] pos) (tSort X (X.env.qual ++ "<lambda>") P j te tb) := by
  refine ⟨fun pins s σ H Q I h => ?_⟩
  refine wpAny_Call_Name_kw (ld_blt I hg hm hv ?_)
  refine PyProof.Rows.callWith_kw ?_ hst hpl hall hnone
  rw [hks, hst]
  refine Calls.spliced_cons (thn (he.run pins s σ H _ I h) fun u s1 ⟨v, H1, I1, r1, q1⟩ => ?_)
  obtain ⟨M, l, xs, rfl, hl, hT, hM, q1⟩ := q1
  cases (show u = Value.ref l from r1)
  refine Calls.spliced_nil ?_
  show wpAny _ _ (evalAll ((do let v ← eval (.Lambda params body scope lpos) X.env; standAt pos; pure v) :: [])) _ _ s1
  refine wpAny_evalAll_cons (wpAny_bind (lam_make3 I1 TB hcode hT hM hdef (L.has I1.ok) fun f c' pm ctv H2 s2 I2 eN T2 hf hfn hsz hco hnc => wpAny_bind (wpAny_standAt (wpAny_pure ?_))))
  refine wpAny_evalAll_nil ?_
  refine sorted_keyJ (B := fun x H' Q' => H' c' = some (CodeO c' (X.env.qual ++ "<lambda>")) ∧ tb (σ.set j (some x)) H' Q') I2 (sqL_ext hl (fun o ho => ?_) eN) ⟨hf, hfn, ?_, I1.nofs hsz, fun v q => nomatch q⟩ (fun pins' s' H' x u Q' hp I' rx ⟨hc', ht'⟩ => ?_) (q1 H2 c' eN T2 hco hnc)
  · obtain ⟨ps, hP, _⟩ := hT
    rw [hP] at ho
    cases ho
    exact ⟨fun ys z => (nomatch z), fun ob ys z => (nomatch z)⟩
  · exact Nat.ne_of_gt (Nat.lt_of_lt_of_le I1.lt hsz)
  · exact lam_call1 (A := X.A.in1.in1) I' L hN hj rx (pinAt I' hp).1 hc' (hbind _ _ _ _ _ _) I'.env0.in1.in1 hr.in1.in1 (fun hr' => hbody _ _ _ _ _ hr') ht'
end
end LamY
set_option maxRecDepth 100000
set_option maxHeartbeats 2000000
namespace DL
open PySem PySem.Spec PyProof.Rows L2 LamX LamY
/-! sorted(e, key=lambda p: body), told of trees -/
def byKeysD (ds : List D) (kz : List PyData) : List D := ((ds.zip kz).mergeSort (PySem.W.dataLe false Prod.snd)).map Prod.fst
def krW (wb : DW) (ρ : Loc) (j : Nat) (P : List D → Sto → Prop) : List D → List D → Sto → Prop
  | [], acc, S => P acc S
  | x :: xs, acc, S => wb (ρ.set j (some x)) S (fun k S' => krW wb ρ j P xs (acc ++ [k]) S') EF
def srtP (ds : List D) (P : DK) : List D → Sto → Prop := fun ks S => ∃ kz, toPys ks = some kz ∧ PySem.W.AllAlike kz ∧ PySem.W.Sortable kz ∧ (∀ d, d ∈ kz → d.depth ≤ 40) ∧ P (.lst (byKeysD ds kz)) S
def wSort (T : Addr) (q : Str) (j : Nat) (we wb : DW) : DW := fun ρ S P E => we ρ S (fun x S1 => (∃ i : Nat, S1[i]? = some (D.tb T q)) ∧ (match val S1 x with
  | .lst ds => krW wb ρ j (srtP ds P) ds [] S1
  | _ => False)) E
section
variable {K : PySem.W.Frag} {M : Addr → Prop} {mu : List Addr}
theorem rs_of {α : Type} {H : Hp} {f : α → D} {g : α → V} : ∀ {l : List α}, (∀ t ∈ l, R K M mu H (f t) (g t)) → Rs K M mu H (l.map f) (l.map g)
  | [], _ => rfl
  | t :: l, h => ⟨g t, _, rfl, h t (List.mem_cons_self ..), rs_of fun x hx => h x (List.mem_cons_of_mem _ hx)⟩
theorem rs_zip {H : Hp} : ∀ {ds : List D} {vs : List V}, Rs K M mu H ds vs → ∀ t ∈ ds.zip vs, R K M mu H t.1 t.2
  | [], _, _, t, ht => by simp at ht
  | d :: ds, _, ⟨v, r, e, a, b⟩, t, ht => by
    rw [e, List.zip_cons_cons] at ht
    rcases List.mem_cons.mp ht with z | z
    · rw [z]; exact a
    · exact rs_zip b t z
theorem rs_byKeys {H : Hp} {ds : List D} {vs : List V} {kz : List PyData} (r : Rs K M mu H ds vs) : Rs K M mu H (byKeysD ds kz) (byKeys vs kz) := by
  have hl := r.len
  let T := (ds.zip vs).zip kz
  have e1 : (T.map fun t => (t.1.1, t.2)) = ds.zip kz := by
    have : ∀ (ds : List D) (vs : List V) (kz : List PyData), ds.length = vs.length → (((ds.zip vs).zip kz).map fun t => (t.1.1, t.2)) = ds.zip kz := fun ds => by
      induction ds with
      | nil => intro vs kz _; simp
      | cons d ds ih =>
        intro vs kz h
        cases vs with
        | nil => simp at h
        | cons v vs =>
          cases kz with
          | nil => simp
          | cons k kz =>
            rw [List.zip_cons_cons, List.zip_cons_cons, List.map_cons, List.zip_cons_cons, ih vs kz (by simpa using h)]
    exact this ds vs kz hl
  have e2 : (T.map fun t => (t.1.2, t.2)) = vs.zip kz := by
    have : ∀ (ds : List D) (vs : List V) (kz : List PyData), ds.length = vs.length → (((ds.zip vs).zip kz).map fun t => (t.1.2, t.2)) = vs.zip kz := fun ds => by
      induction ds with
      | nil =>
        intro vs kz h
        cases vs with
        | nil => simp
        | cons _ _ => simp at h
      | cons d ds ih =>
        intro vs kz h
        cases vs with
        | nil => simp at h
        | cons v vs =>
          cases kz with
          | nil => simp
          | cons k kz =>
            rw [List.zip_cons_cons, List.zip_cons_cons, List.map_cons, List.zip_cons_cons, ih vs kz (by simpa using h)]
    exact this ds vs kz hl
  have m1 : byKeysD ds kz = (T.mergeSort (PySem.W.dataLe false fun t => t.2)).map fun t => t.1.1 := by
    unfold byKeysD
    have h := List.map_mergeSort (r := PySem.W.dataLe false fun t : (D × V) × PyData => t.2) (s := PySem.W.dataLe false (Prod.snd : D × PyData → PyData)) (f := fun t : (D × V) × PyData => (t.1.1, t.2)) (l := T) (fun a _ b _ => rfl)
    rw [← e1, ← h, List.map_map]
    rfl
  have m2 : byKeys vs kz = (T.mergeSort (PySem.W.dataLe false fun t => t.2)).map fun t => t.1.2 := by
    unfold byKeys
    have h := List.map_mergeSort (r := PySem.W.dataLe false fun t : (D × V) × PyData => t.2) (s := PySem.W.dataLe false (Prod.snd : V × PyData → PyData)) (f := fun t : (D × V) × PyData => (t.1.2, t.2)) (l := T) (fun a _ b _ => rfl)
    rw [← e2, ← h, List.map_map]
    rfl
  rw [m1, m2]
  refine rs_of fun t ht => ?_
  have ht' : t ∈ T := (List.mergeSort_perm _ _).subset ht
  exact rs_zip r t.1 (List.of_mem_zip ht').1
/-- the keys, one after the other -/
theorem kr_run {H0 : Hp} {P : DK} {Q : VK} {wb : DW} {ρ : Loc} {σ : L2.St} {j : Nat} {c' : Addr} {q : Str} {uni : Nat} (hu : uni + 66 < cLine) (hnc : ¬ M c') (hc0 : H0 c' = some (CodeO c' q)) {ds0 : List D} {vs0 : List V} :
    ∀ (ds : List D) (vs : List V) (acc : List D) (accV : List V) (S : Sto) (H : Hp), Keep mu H0 H → Wok K M mu H S → Env K M mu H ρ σ → Rs K M mu H ds0 vs0 → Rs K M mu H ds vs → Rs K M mu H acc accV → krW wb ρ j (srtP ds0 P) ds acc S →
      (∀ v H' d S', Keep mu H H' → Wok K M mu H' S' → R K M mu H' d v → P d S' → Q v H') →
      keyRun (fun x H' Q' => H' c' = some (CodeO c' q) ∧ tOf K W0 wb (σ.set j (some x)) H' Q') (fun kV H' => ∃ kz : List PyData, DpAll K H' kV kz ∧ PySem.W.AllAlike kz ∧ PySem.W.Sortable kz ∧ (∀ d, d ∈ kz → uni + 2 + d.depth < cLine) ∧ ∀ p, H' p = none → Q (.ref p) (upd H' p (.lst (byKeys vs0 kz)))) vs accV H
  | [], vs, acc, accV, S, H, k0, ok, en, r0, r, ra, hw, n => by
    obtain rfl : vs = [] := r
    obtain ⟨kz, h1, h2, h3, h4, h5⟩ := hw
    refine ⟨kz, Rs.dp _ _ _ ra h1, h2, h3, fun d hd => ?_, fun p hp => ?_⟩
    · have := h4 d hd
      omega
    · obtain ⟨ok2, k2, _⟩ := ok.alloc hp (.lst (byKeys vs0 kz))
      exact n _ _ _ S k2 ok2 (newL ok hp (rs_byKeys r0)) h5
  | d :: ds, vs, acc, accV, S, H, k0, ok, en, r0, r, ra, hw, n => by
    obtain ⟨v, vs, rfl, rv, r⟩ := r
    have nmu : c' ∉ mu := fun m => hnc (ok.sub c' m)
    refine ⟨k0 c' _ hc0 (.inl nmu), M, mu, ρ.set j (some d), S, _, EF, ok, en.set rv, hw, fun kv H2 kd S2 k2 ok2 rk h2 => ?_, fun _ _ _ _ _ _ _ _ _ h => h.elim⟩
    exact kr_run hu hnc hc0 ds vs (acc ++ [kd]) (accV ++ [kv]) S2 H2 (k0.trans k2) ok2 (en.keep ok k2) (r0.keep ok k2) (r.keep ok k2) ((ra.keep ok k2).app ⟨kv, [], rfl, rk, rfl⟩) h2 fun v' H' d' S' k' => n v' H' d' S' (k2.trans k')
end
theorem rd_sort {X : Cx} {W : WX} {te : TE} {we wb : DW} {q : Str} {T : Addr} {j : Nat} (hu : X.A.units + 66 < cLine) (ro : Rd X.K W te we) : Rd X.K W (tSort X q T j te (tOf X.K W0 wb)) (wSort T q j we wb) := by
  refine ⟨fun M mu σ ρ S H P E Q ok en hw n x => ?_⟩
  refine ro.run M mu σ ρ S H _ E _ ok en hw (fun v H1 d S1 k1 ok1 r1 h1 => ?_) x
  obtain ⟨⟨i, hi⟩, h1⟩ := h1
  have hil : i < mu.length := by rw [← ok1.len]; exact (List.getElem?_eq_some_iff.mp hi).1
  obtain ⟨e0, ht⟩ : mu[i] = T ∧ TabM M H1 T q := ok1.at_ i mu[i] _ (List.getElem?_eq_getElem hil) hi
  have hTm : T ∈ mu := by rw [← e0]; exact List.getElem_mem hil
  cases e1 : val S1 d with
  | lst ds =>
    simp only [e1] at h1
    obtain ⟨a, vs, rfl, ha, rr⟩ := seq_lst ok1 r1 e1
    refine ⟨M, a, vs, rfl, SqL.of ha, ht, fun c hc m => ok1.tr c m hc, fun H2 c' eP T2 hc2 hnc => ?_⟩
    have k2 : Keep mu H1 H2 := fun b o hb nb => by
      by_cases hbT : b = T
      · obtain ⟨ps, hP, _⟩ := ht
        rw [hbT, hP] at hb
        cases hb
        rcases nb with nb | nb
        · exact absurd (hbT ▸ hTm) nb
        · rcases nb with ⟨od, u, z⟩ | ⟨xs, z⟩ <;> cases z
      · exact eP b o hbT hb
    have ok2 : Wok X.K M mu H2 S1 := by
      have ex := (Ext.of ok1.sub k2).toExt0
      refine ⟨ok1.len, ok1.sub, ok1.nd, fun b m => ?_, fun i' b d' h1' h2' => ?_⟩
      · by_cases hbT : b = T
        · obtain ⟨ps, hP, _⟩ := T2
          rw [hbT, hP]
          simp
        · cases q' : H1 b with
          | none => exact absurd q' (ok1.tr b m)
          | some o => rw [eP b o hbT q']; simp
      · have c := ok1.at_ i' b d' h1' h2'
        by_cases hbT : b = T
        · have hii : i' = i := by
            have hl' := (List.getElem?_eq_some_iff.mp h1').1
            have g1 := (List.getElem?_eq_some_iff.mp h1').2
            rcases Nat.lt_trichotomy i' i with z | z | z
            · exact absurd (g1.trans (hbT.trans e0.symm)) (List.pairwise_iff_getElem.mp ok1.nd i' i hl' hil z)
            · exact z
            · exact absurd (e0.trans (hbT.symm.trans g1.symm)) (List.pairwise_iff_getElem.mp ok1.nd i i' hil hl' z)
          subst hii
          rw [hi] at h2'
          obtain rfl := Option.some.inj h2'
          exact ⟨hbT, T2⟩
        · have hq : H2 b = H1 b := by
            have hbm := ok1.sub b (List.mem_of_getElem? h1')
            cases q' : H1 b with
            | none => exact absurd q' (ok1.tr b hbm)
            | some o => exact eP b o hbT q'
          exact Cl.mono ex hq c
    exact kr_run hu hnc hc2 ds vs [] [] S1 H2 (.refl _ _) ok2 ((en.keep ok k1).keep ok1 k2) (rr.keep ok1 k2) (rr.keep ok1 k2) rfl h1 fun v' H' d' S' k' => n v' H' d' S' (k1.trans (k2.trans k'))
  | _ => simp only [e1] at h1
theorem de_sortLam {X : Cx} {W : WX} {k j : Nat} {c T : Addr} {p q : Str} {params : Arguments} {body : Expr} {scope : Scope} {e : Expr} {we wb : DW} {np lpos pos : Pos} {kwp : Pos} (hm : X.mg "sorted" = none) (he : DE X W e we)
    (TB : TabB X.base X.mg c T) (hcode : X.env.code = .ref c) (hr : Room (k + 3) X.A) (L : LamP X.env.scope scope p) (hN : X.N.Nodup) (hj : X.N[j]? = some p) (hq : X.env.qual ++ "<lambda>" = q)
    (hbody : ∀ (A : Around) (s : Shared) (H : Hp) (f c' : Addr), Room k (A.deeper (lamEnv X scope s.heap.objs.size f c')) → DE (lamCx X A X.stack s H E00 scope f c') W0 body wb)
    (hbind : ∀ (q : Str) (cl : List (Str × Addr)) (pm cv ctv u : Value), bindArgs (PySem.W.kla_fn "<lambda>" q params body scope cl pm cv ctv) ⟨[u], []⟩ = pure [(p, u)] := by intro _ _ _ _ _ _; rfl) (hdef : defaultsOf params X.env = ([], []) := by rfl) (hg : Gl X "sorted" := by rfl)
    (hst : backTo pos (starEach [e] X.env) = (false, eval e X.env) :: backTo pos (starEach [] X.env) := by rfl) (hpl : (backTo pos (starEach [e] X.env)).any (·.1) = false := by rfl)
    (hall : (backToKw pos (keywordEach [⟨some "key", .Lambda params body scope lpos, kwp⟩] X.env)).all (·.1.isSome) = true := by rfl) (hnone : (backToKw pos (keywordEach [⟨some "key", .Lambda params body scope lpos, kwp⟩] X.env)).any (·.1.isNone) = false := by rfl)
    (hks : (backToKw pos (keywordEach [⟨some "key", .Lambda params body scope lpos, kwp⟩] X.env)).filterMap (·.1) = [Str.ofString "key"] := by rfl) :
    DE X W (.Call (.Name "sorted" np) [e] [⟨some "key", .Lambda params body scope lpos, kwp⟩] pos) (wSort T q j we wb) := by
  subst hq
  obtain ⟨te, pe, re⟩ := he.ex
  exact ⟨_, pe_sortLam hg hm bt_sorted pe TB hcode hr L hN hj hdef hbind (fun A s H f c' hr' => (hbody A s H f c' hr').can) hst hpl hall hnone hks, rd_sort (by have := hr.un; omega) re⟩
theorem wSort_ap {T : Addr} {q : Str} {j : Nat} {we wb : DW} {ρ : Loc} {S : Sto} {P : DK} {E : Ex} : wSort T q j we wb ρ S P E = (we ρ S (fun x S1 => (∃ i : Nat, S1[i]? = some (D.tb T q)) ∧ (match val S1 x with
  | .lst ds => krW wb ρ j (srtP ds P) ds [] S1
  | _ => False)) E) := rfl
end DL
set_option maxRecDepth 100000
namespace DL
open PySem PySem.Spec PyProof.Rows L2
/-! defs that make lambdas: their code object is known -/
def CodeIs (K : PySem.W.Frag) (f c : Addr) : Prop := ∀ (oc : Value) (od : Option Addr) (osl : Array (Option Value)) (fd : FuncData) (c' : Addr), K.lookup f = some ⟨oc, od, .func fd, osl⟩ → fd.code = .ref c' → c' = c
theorem codeIs_of {K : PySem.W.Frag} {p : Str × Option Str} : CodeIs K (He.fAd K p) (He.codeOf K p) := fun _ _ _ _ _ lk e => (He.codeOf_eq lk e).symm
section
variable {P : Program} {w : World} {K : PySem.W.Frag} {mg : Str → Option Value} {base : Heap} {x qual : Str} {params : Arguments} {body : List Stmt} {scope : Scope} {dvs : List V} {kws : List (Str × V)} {f c : Addr} {fd : FuncData}
theorem okC_def {CX : CXT} {N ps : List Str} {k : Nat} {sp : DSp} {wb : DWS} (F : FunD K x qual params body scope dvs kws f fd) (hc : CodeIs K f c) (sc : FnScope N ps scope) (len : ∀ ds S P E, sp ds S P E → ds.length = ps.length)
    (hb : ∀ (A : Around) (outer : List PySem.Env) (s : Shared) (H : Hp) (E : XK), Room k (A.deeper (envOfC qual scope s.heap.objs.size f (.ref c))) → DSs (cxOf CX P w K mg base N qual scope f (.ref c) A outer s H E) (fun C d _ H' => E C d H') body wb)
    (hw : ∀ ds S P E, S.all (lo S.length) = true → sp ds S P E → wb (endsOf S.length P E) (startD N.length ds) S) : FnOk P w K mg base CX (k + 1) f fd ps (toSp K sp) := by
  obtain ⟨oc, od, dV, kV, doc, pm, an, cdv, ct, osl, rfl, lk, hcd, _, _⟩ := F.ex
  obtain ⟨c', rfl⟩ := He.codeIn_ref hcd
  obtain rfl : c' = c := hc _ _ _ _ _ lk rfl
  refine fn_of lk hcd sc (fun vs H Q E h => ?_) fun A outer s H vs Q E hr h => ?_
  · obtain ⟨M, mu, S, ds, P, Ex, ok, r, q, _⟩ := h
    rw [← r.len]
    exact len _ _ _ _ q
  · obtain ⟨M, mu, S, ds, P, Ex, ok, r, q, n, xx⟩ := h
    obtain ⟨t, p, rb⟩ := (hb A outer s H E hr).ex
    exact ⟨t, p, rb.run M mu _ _ S H _ _ ok (env_start r) (hw ds S P Ex ok.scoped q) (eok_def ok n xx)⟩
end
section
variable {P : Program} {w : World} {K : PySem.W.Frag} {mg : Str → Option Value} {base : Heap} {C : Addr} {m nm qual : Str} {st : Stmt} {dvs : List V} {kws : List (Str × V)} {c : Addr}
def MInC (K : PySem.W.Frag) (C : Addr) (m nm qual : Str) (st : Stmt) (dvs : List V) (kws : List (Str × V)) (c : Addr) : Prop := ∃ (f : Addr) (fd : FuncData), FunD K nm qual (defArgs st) (defBody st) (defScope st) dvs kws f fd ∧ Cls K C ∧ Meth K C m f ∧ CodeIs K f c
/-- THE RULE for a method that makes lambdas -/
theorem mtFC_def {N ps : List Str} {k : Nat} {sp : DSp} {wb : DWS} (I : MInC K C m nm qual st dvs kws c) (sc : FnScope N ps (defScope st)) (len : ∀ ds S P E, sp ds S P E → ds.length = ps.length)
    (hb : ∀ (f : Addr) (A : Around) (outer : List PySem.Env) (s : Shared) (H : Hp) (E : XK), Room k (A.deeper (envOfC qual (defScope st) s.heap.objs.size f (.ref c))) → DSs (cxOf CX0 P w K mg base N qual (defScope st) f (.ref c) A outer s H E) (fun C d _ H' => E C d H') (defBody st) wb)
    (hw : ∀ ds S P E, S.all (lo S.length) = true → sp ds S P E → wb (endsOf S.length P E) (startD N.length ds) S) : ∃ f fd, MtF P w K mg base (k + 1) C m ps sp f fd ∧ FunD K nm qual (defArgs st) (defBody st) (defScope st) dvs kws f fd := by
  obtain ⟨f, fd, F, hC, hm, hc⟩ := I
  exact ⟨f, fd, ⟨okC_def F hc sc len (fun A outer s H E hr => hb f A outer s H E hr) hw, hC, hm, let ⟨oc, od, _, _, _, _, _, _, _, osl, _, lk, _⟩ := F.ex; ⟨oc, od, osl, lk⟩⟩, F⟩
end
/-! the law, with tables of code objects -/
def tabsD (T : List (Addr × Str)) : Sto := T.map fun t => .tb t.1 t.2
def spLawT (T : List (Addr × Str)) : DSp := fun ds S P _ => match ds with
  | [.scr ns] => ns.length ≤ 63 ∧ S = tabsD T ∧ P (.bl true) (tabsD T)
  | _ => False
theorem law_spT {K : PySem.W.Frag} {H : Hp} {a : Addr} {ns : List Int} {T : List (Addr × Str)} (hn : (T.map (·.1)).Nodup) (hT : ∀ t ∈ T, H t.1 = some (.tbl #[])) (hl : ns.length ≤ 63) (hS : SqL K H a (ns.map V.int)) : toSp K (spLawT T) [.ref a] H (fun v _ => v = .bl true) fun _ _ _ => False := by
  have hmem : ∀ b, b ∈ T.map (·.1) → H b = some (.tbl #[]) := fun b hb => by
    obtain ⟨t, ht, rfl⟩ := List.mem_map.mp hb
    exact hT t ht
  refine ⟨fun b => b ∈ T.map (·.1), T.map (·.1), tabsD T, [.scr ns], fun d _ => d = .bl true, EF, ⟨by simp [tabsD], fun _ h => h, hn, fun b h => by rw [hmem b h]; simp, fun i b d h1 h2 => ?_⟩, ⟨.ref a, [], rfl, ⟨a, rfl, ?_⟩, rfl⟩, ⟨hl, rfl, rfl⟩, fun v H' d S' _ _ r e => ?_, fun _ _ _ _ _ _ _ _ _ h => h⟩
  · unfold tabsD at h2
    rw [List.getElem?_map] at h1 h2
    obtain ⟨t, ht, e1⟩ := Option.map_eq_some_iff.mp h1
    rw [ht] at h2
    obtain rfl : D.tb t.1 t.2 = d := Option.some.inj h2
    refine ⟨e1.symm, #[], hT t (List.mem_of_getElem? ht), True.intro, fun pos cv hc => ?_⟩
    have z : codeAmong pos [] = some cv := hc
    simp [codeAmong] at z
  · rcases hS with q | q
    · refine .inl ⟨fun m => ?_, q⟩
      have h1 := hmem a m
      rcases q with q | ⟨o, q⟩ <;> (rw [h1] at q; cases q)
    · exact .inr q
  · subst e
    exact r
theorem rtT {n : Nat} {P : DK} {E : Ex} {b : Bool} {S S' : Sto} (hS : S.all (lo S.length) = true) (hl : S.length = n) (h : P (.bl b) S) : (endsOf n P E).rt (.bl b) (S ++ S') := by
  subst hl
  exact .inr ⟨.bl b, rfl, by rw [List.take_left]; exact hS, by rw [List.take_left]; exact h⟩
end DL
set_option maxRecDepth 100000
set_option maxHeartbeats 1000000
namespace DL
open PySem PySem.Spec PyProof.Rows L2 LamY
/-! sorted by keys that are pairs -/
theorem krW_map {wb : DW} {ρ : Loc} {j : Nat} {P : List D → Sto → Prop} {S : Sto} (f : D → D) : ∀ (xs acc : List D), (∀ x ∈ xs, ∀ Q : DK, Q (f x) S → wb (ρ.set j (some x)) S Q EF) → P (acc ++ xs.map f) S → krW wb ρ j P xs acc S
  | [], acc, _, h => by simpa [krW] using h
  | x :: xs, acc, ht, h => by
    refine ht x (List.mem_cons_self ..) _ ?_
    refine krW_map f xs (acc ++ [f x]) (fun y hy => ht y (List.mem_cons_of_mem _ hy)) ?_
    rw [List.append_assoc]
    exact h
def pyP (p : Pl) : PyData := .tuple [.int p.1, .int p.2]
theorem toPys_pl : ∀ ks : List Pl, toPys (ks.map plD) = some (ks.map pyP)
  | [] => rfl
  | p :: ks => by
    show (match toPy (plD p), toPys (ks.map plD) with
      | some p, some ps => some (p :: ps)
      | _, _ => none) = _
    rw [toPys_pl ks]
    rfl
/-- the places by what f makes of them -/
def sortBy (f : Pl → Pl) (ks : List Pl) : List Pl := ks.mergeSort fun p q => leP (f p) (f q)
theorem byKeys_pl (f : Pl → Pl) (ks : List Pl) : byKeysD (ks.map plD) (ks.map fun p => pyP (f p)) = (sortBy f ks).map plD := by
  unfold byKeysD sortBy
  have e1 : (ks.map plD).zip (ks.map fun p => pyP (f p)) = ks.map fun p => (plD p, pyP (f p)) := by
    induction ks with
    | nil => rfl
    | cons k ks ih => rw [List.map_cons, List.map_cons, List.map_cons, List.zip_cons_cons, ih]
  have h := List.map_mergeSort (r := fun p q : Pl => leP (f p) (f q)) (s := PySem.W.dataLe false (Prod.snd : D × PyData → PyData)) (f := fun p : Pl => (plD p, pyP (f p))) (l := ks) (fun a _ b _ => by
    have := congrFun (congrFun (PySem.W.dataLe_ii (fun p : Pl => (f p).1) (fun p : Pl => (f p).2)) a) b
    exact this.symm)
  rw [e1, ← h, List.map_map]
  rfl
theorem srt_pl {f : Pl → Pl} {ks : List Pl} {P : DK} {S : Sto} (h : P (.lst ((sortBy f ks).map plD)) S) : srtP (ks.map plD) P ((ks.map plD).map fun d => plD (f (unP d))) S := by
  have e1 : ((ks.map plD).map fun d => plD (f (unP d))) = (ks.map f).map plD := by rw [List.map_map, List.map_map]; rfl
  refine ⟨(ks.map f).map pyP, by rw [e1]; exact toPys_pl _, ?_, ?_, ?_, ?_⟩
  · intro d hd d' hd'
    obtain ⟨p, _, rfl⟩ := List.mem_map.mp hd
    obtain ⟨q, _, rfl⟩ := List.mem_map.mp hd'
    simp [pyP, PySem.W.alike, PySem.W.alikeAll]
  · refine .inl fun d hd => ?_
    obtain ⟨p, _, rfl⟩ := List.mem_map.mp hd
    exact ⟨_, _, rfl⟩
  · intro d hd
    obtain ⟨p, _, rfl⟩ := List.mem_map.mp hd
    simp [pyP, PyData.depth, PyData.depthAll]
  · have e2 : (ks.map f).map pyP = ks.map fun p => pyP (f p) := by rw [List.map_map]; rfl
    rw [e2, byKeys_pl]
    exact h
theorem sortBy_perm (f : Pl → Pl) (ks : List Pl) : (sortBy f ks).Perm ks := List.mergeSort_perm _ _
theorem sortBy_id (t : Tab) : sortBy id (t.map (·.1)) = sortK t := rfl
/-! a comprehension whose items change the store -/
theorem lcW_inv {i : Nat} {te : DW} {ρ : Loc} {P : List D → Sto → Prop} (J : List D → Sto → Prop) (step : ∀ x acc S, J acc S → ∀ Q : DK, (∀ y S', J (acc ++ [y]) S' → Q y S') → te (ρ.set i (some x)) S Q EF) :
    ∀ (xs acc : List D) (S : Sto), J acc S → acc.length + xs.length ≤ 1000000 → (∀ (ys : List D) (S' : Sto), ys.length = acc.length + xs.length → J ys S' → P ys S') → lcW (wgName i) wTYes te ρ P xs acc S
  | [], acc, S, hJ, hl, h => ⟨by simpa using hl, h acc S (by simp) hJ⟩
  | x :: xs, acc, S, hJ, hl, h => by
    rw [List.length_cons] at hl
    refine ⟨by omega, ?_⟩
    show (if true = true then te (ρ.set i (some x)) S (fun y S2 => lcW (wgName i) wTYes te ρ P xs (acc ++ [y]) S2) EF else lcW (wgName i) wTYes te ρ P xs acc S)
    rw [if_pos rfl]
    refine step x acc S hJ _ fun y S' hJ' => ?_
    refine lcW_inv J step xs (acc ++ [y]) S' hJ' (by rw [List.length_append, List.length_singleton]; omega) fun ys S2 hy hJ2 => h ys S2 ?_ hJ2
    rw [hy, List.length_append, List.length_singleton, List.length_cons]
    omega
/-! max of two -/
def maxD : DFn := fun xs S P => match xs with
  | [.int i, .int j] => P (.int (if j > i then j else i)) S
  | _ => False
theorem calld_max2 {K : PySem.W.Frag} : CallD K (fun xs H Q => ∃ i j, xs = [.int i, .int j] ∧ Q (.int (if j > i then j else i)) H) maxD := by
  intro M mu H S xs vs P Q ok r h n
  unfold maxD at h
  split at h
  · rename_i i j
    obtain ⟨v, u, rfl, r1, r2⟩ := r.two
    obtain rfl : v = .int i := r1
    obtain rfl : u = .int j := r2
    exact ⟨i, j, rfl, n _ H (.int _) S (.refl _ _) ok rfl h⟩
  · exact h.elim
/-! a method called by keywords alone -/
def MtK (P : Program) (w : World) (K : PySem.W.Frag) (mg : Str → Option Value) (base : Heap) (k : Nat) (C : Addr) (m : Str) (ks : List Str) (sp : DSp) (gD : List D → List D → List D → List D) : Prop :=
  ∃ (f : Addr) (fd : FuncData) (ps : List Str) (g : List Value → List Value → List Value) (gV : List V → List V → List V), FnOk P w K mg base CX0 k f fd ps (toSp K sp) ∧ Cls K C ∧ Meth K C m f ∧ KBn K fd ps 1 ks g gV ∧ GRel K gD gV
theorem hideMK {P : Program} {w : World} {K : PySem.W.Frag} {mg : Str → Option Value} {base : Heap} {k : Nat} {C : Addr} {m : Str} {ks : List Str} {sp : DSp} {gD : List D → List D → List D → List D} (c : MtK P w K mg base k C m ks sp gD) : ∃ sp' : DSp, MtK P w K mg base k C m ks sp' gD ∧ ∀ ds S P E, sp ds S P E → sp' ds S P E := ⟨sp, c, fun _ _ _ _ h => h⟩
def tMethK (C : Addr) (m : Str) (n : Nat) (sp : Sp) (gV : List V → List V → List V) (to : TE) (tk : TA) : TE := fun σ H Q => to σ H fun x H1 => ∃ a dx fs, x = V.ref a ∧ H1 a = some (.ins C dx fs) ∧ fs.lookup m = none ∧ tk σ H1 fun zs H2 => zs.length = n ∧ sp (gV [.ref a] zs) H2 Q fun _ _ _ => False
def wMethK (C : Addr) (m : Str) (n : Nat) (sp : DSp) (gD : List D → List D → List D → List D) (wo : DW) (wk : DWA) : DW := fun ρ S P E => wo ρ S (fun x S1 => recvD C m x S1 ∧ wk ρ S1 (fun es S2 => es.length = n ∧ sp (gD [x] [] es) S2 P EF) E) E
theorem wMethK_ap {C : Addr} {m : Str} {n : Nat} {sp : DSp} {gD : List D → List D → List D → List D} {wo : DW} {wk : DWA} {ρ : Loc} {S : Sto} {P : DK} {E : Ex} : wMethK C m n sp gD wo wk ρ S P E = (wo ρ S (fun x S1 => recvD C m x S1 ∧ wk ρ S1 (fun es S2 => es.length = n ∧ sp (gD [x] [] es) S2 P EF) E) E) := rfl
section
variable {X : Cx} {W : WX} {C f : Addr} {fd : FuncData} {k j : Nat} {m : Str} {ps ks : List Str} {sp : DSp} {o : Expr} {wo : DW} {wk : DWA} {kws : List Keyword} {apos pos : Pos} {gD : List D → List D → List D → List D}
theorem pe_methK {sp : Sp} {to : TE} {tk : TA} {g : List Value → List Value → List Value} {gV : List V → List V → List V} {pl : Sem Bool} (he : PE X o to) (c : Cls X.K C) (hm : Meth X.K C m f) (F : FnOk X.prog X.w X.K X.mg X.base CX0 k f fd ps sp) (hr : Room k X.A) (hb : KBn X.K fd ps 1 ks g gV) (hk : PK X kws tk)
    (hall : (backToKw pos (keywordEach kws X.env)).all (·.1.isSome) = true) (hks : (backToKw pos (keywordEach kws X.env)).filterMap (·.1) = ks) (hpl : ((backTo pos (starEach [] X.env)).any (·.1) || (backToKw pos (keywordEach kws X.env)).any (·.1.isNone)) = false)
    (ht : eval (.Call (.Attribute o m apos) [] kws pos) X.env = (do
      let ov ← eval o X.env
      standAt apos.atName
      let (f, first) ← holding [ov] (getMethod ov m pl)
      callWith pos f first (backTo pos (starEach [] X.env)) (backToKw pos (keywordEach kws X.env)))) : PE X (.Call (.Attribute o m apos) [] kws pos) (tMethK C m ks.length sp gV to tk) := by
  refine ⟨fun pins s σ H Q I h => ?_⟩
  refine PySem.W.methodCall_KW (pl := pl) (thn (he.run pins s σ H _ I h) fun u s1 ⟨x, H1, I1, rx, a, dx, fs, ex, ea, l, q⟩ => ?_) ht
  subst ex
  obtain rfl : u = Value.ref a := rx
  refine getmeth_ok I1 ea c hm l ?_
  refine PySem.W.callWith_KW0 (first := [.ref a]) (h₀ := X.base) I.ok.mod.kin hm.kp hall (thn (hk.run pos pins s1 σ H1 _ I1 q) fun ws s2 ⟨zs, H2, I2, rz, l2, q2⟩ => ⟨I2.kIn, ?_⟩) hpl
  rw [hks]
  have rv : Vals [V.ref a] [Value.ref a] := .cons rfl .nil
  exact run_fnN (us := [.ref a]) (vs := [.ref a]) (E := fun _ _ _ => False) F hr hb pass0 I2 rv rz rfl l2 q2
theorem de_methK {pl : Sem Bool} (c : MtK X.prog X.w X.K X.mg X.base j C m ks sp gD) (hr : Room k X.A) (ho : DE X W o wo) (hk : DKw X W kws wk) (hjk : j ≤ k := by first | decide | exact Nat.le_refl _ | omega)
    (hall : (backToKw pos (keywordEach kws X.env)).all (·.1.isSome) = true := by rfl) (hks : (backToKw pos (keywordEach kws X.env)).filterMap (·.1) = ks := by rfl) (hpl : ((backTo pos (starEach [] X.env)).any (·.1) || (backToKw pos (keywordEach kws X.env)).any (·.1.isNone)) = false := by rfl)
    (ht : eval (.Call (.Attribute o m apos) [] kws pos) X.env = (do
      let ov ← eval o X.env
      standAt apos.atName
      let (f, first) ← holding [ov] (getMethod ov m pl)
      callWith pos f first (backTo pos (starEach [] X.env)) (backToKw pos (keywordEach kws X.env))) := by rfl) : DE X W (.Call (.Attribute o m apos) [] kws pos) (wMethK C m ks.length sp gD wo wk) := by
  obtain ⟨f, fd, ps, g, gV, F, c1, c2, hb, hgr⟩ := c
  obtain ⟨_, po, ro⟩ := ho.ex
  obtain ⟨_, pk, rk⟩ := hk.ex
  refine ⟨_, pe_methK po c1 c2 F (hr.mono hjk) hb pk hall hks hpl ht, ⟨fun M mu σ ρ S H P E Q ok en hw n x => ?_⟩⟩
  refine ro.run M mu σ ρ S H _ E _ ok en hw (fun v H1 d S1 k1 ok1 r1 h1 => ?_) x
  obtain ⟨hr1, h1⟩ := h1
  unfold recvD at hr1
  cases e1 : val S1 d with
  | obj C' fs =>
    simp only [e1] at hr1
    obtain ⟨rfl, hn⟩ := hr1
    obtain ⟨a, dx, gs, rfl, ha, hk', rv⟩ := obj_at ok1 r1 e1
    refine ⟨a, dx, gs, rfl, ha, rfs_no (K := X.K) (M := M) (mu := mu) (H := H1) m hk' hn, ?_⟩
    refine rk.run M mu σ ρ S1 H1 _ E _ ok1 (en.keep ok k1) h1 (fun ws H2 es S2 k2 ok2 r2 h2 => ?_) (x.mono k1)
    obtain ⟨l2, h2⟩ := h2
    exact ⟨by rw [← r2.len]; exact l2, M, mu, S2, _, P, EF, ok2, hgr M mu H2 [d] [] es [.ref a] [] ws ⟨.ref a, [], rfl, r1.keep ok1 k2, rfl⟩ rfl r2, h2, n.mono (k1.trans k2), fun _ _ _ _ _ _ _ _ _ h => h.elim⟩
  | _ => simp only [e1] at hr1
end
end DL
namespace DL
open PySem PySem.Spec PyProof.Rows L2
/-! the first and the last item -/
theorem atI_last {α : Type} {l : List α} (h : l ≠ []) : atI l (-1) = l.getLast? := by
  have hl : 0 < l.length := List.length_pos_iff.mpr h
  have e : ixN l.length (-1) = some (l.length - 1) := by
    unfold ixN
    rw [if_neg (by decide)]
    rw [if_pos (by omega)]
    congr 1
    omega
  unfold atI
  rw [e, List.getLast?_eq_getElem?]
  rfl
theorem atI_head {α : Type} {l : List α} (h : l ≠ []) : atI l 0 = l.head? := by
  cases l with
  | nil => exact absurd rfl h
  | cons x xs =>
    have e : ixN (x :: xs).length 0 = some 0 := by
      unfold ixN
      rw [if_pos (by decide), if_pos (by rw [List.length_cons]; omega)]
      rfl
    unfold atI
    rw [e]
    rfl
end DL
set_option maxRecDepth 100000
set_option maxHeartbeats 4000000
namespace LW
open PySem PySem.Spec PyProof.Rows L2 DL
def top (i : Nat) : Stmt := PySem.Challenge.pw_inkfractions_k06_first_and_last_marks.main.body.getD i (.Pass ⟨0, 0, 0, 0⟩)
abbrev s__wall : Stmt := top 0
def d__wall : He.DefD := ⟨("_wall", none), "_wall", "_wall", defArgs s__wall, defBody s__wall, defScope s__wall, [], []⟩
abbrev s_InvalidInk_init : Stmt := inClass (top 3) 0
abbrev s_InvalidRow_init : Stmt := inClass (top 4) 0
abbrev s_InvalidOrder_init : Stmt := inClass (top 5) 0
abbrev s_Unlike_init : Stmt := inClass (top 6) 0
abbrev s_is_number : Stmt := top 10
def d_is_number : He.DefD := ⟨("is_number", none), "is_number", "is_number", defArgs s_is_number, defBody s_is_number, defScope s_is_number, [], []⟩
abbrev s_is_ink : Stmt := top 11
def d_is_ink : He.DefD := ⟨("is_ink", none), "is_ink", "is_ink", defArgs s_is_ink, defBody s_is_ink, defScope s_is_ink, [], []⟩
abbrev s_is_place : Stmt := top 12
def d_is_place : He.DefD := ⟨("is_place", none), "is_place", "is_place", defArgs s_is_place, defBody s_is_place, defScope s_is_place, [], []⟩
abbrev s_need_ink : Stmt := top 13
def d_need_ink : He.DefD := ⟨("need_ink", none), "need_ink", "need_ink", defArgs s_need_ink, defBody s_need_ink, defScope s_need_ink, [], []⟩
abbrev s_need_order : Stmt := top 14
def d_need_order : He.DefD := ⟨("need_order", none), "need_order", "need_order", defArgs s_need_order, defBody s_need_order, defScope s_need_order, [], []⟩
abbrev s_key_of : Stmt := top 15
def d_key_of : He.DefD := ⟨("key_of", none), "key_of", "key_of", defArgs s_key_of, defBody s_key_of, defScope s_key_of, [], []⟩
abbrev s_rest : Stmt := top 16
def d_rest : He.DefD := ⟨("rest", none), "rest", "rest", defArgs s_rest, defBody s_rest, defScope s_rest, [], []⟩
abbrev s_gathered : Stmt := top 17
def d_gathered : He.DefD := ⟨("gathered", none), "gathered", "gathered", defArgs s_gathered, defBody s_gathered, defScope s_gathered, [], []⟩
abbrev s_need_rows : Stmt := top 18
def d_need_rows : He.DefD := ⟨("need_rows", none), "need_rows", "need_rows", defArgs s_need_rows, defBody s_need_rows, defScope s_need_rows, [], []⟩
abbrev s_Marks_init : Stmt := inClass (top 19) 0
def d_Marks_init : He.DefD := ⟨("Marks", some "__init__"), "__init__", "Marks.__init__", defArgs s_Marks_init, defBody s_Marks_init, defScope s_Marks_init, [.adr (He.dflAt ("Marks", some "__init__") 0)], [("ink", .int 0)]⟩
abbrev s_Marks_factor : Stmt := inClass (top 19) 1
abbrev s_Marks_rows : Stmt := inClass (top 19) 2
abbrev s_Marks_loose : Stmt := inClass (top 19) 3
abbrev s_Marks_colour : Stmt := inClass (top 19) 4
abbrev s_Marks_moved : Stmt := inClass (top 19) 5
abbrev s_Marks_scaled : Stmt := inClass (top 19) 6
abbrev s_Marks_first : Stmt := inClass (top 19) 7
def d_Marks_first : He.DefD := ⟨("Marks", some "first"), "first", "Marks.first", defArgs s_Marks_first, defBody s_Marks_first, defScope s_Marks_first, [], [("order", .str "columns"), ("last", .bl false)]⟩
abbrev s_Marks_need_like : Stmt := inClass (top 19) 8
abbrev s_Marks_add : Stmt := inClass (top 19) 9
abbrev s_Marks_sub : Stmt := inClass (top 19) 10
abbrev s_Marks_neg : Stmt := inClass (top 19) 11
abbrev s_Marks_mul : Stmt := inClass (top 19) 12
abbrev s_Marks_contains : Stmt := inClass (top 19) 13
abbrev s_Marks_eq : Stmt := inClass (top 19) 14
abbrev s_Marks_len : Stmt := inClass (top 19) 15
abbrev s_Marks_bool : Stmt := inClass (top 19) 16
abbrev s_Marks_repr : Stmt := inClass (top 19) 17
abbrev s_law_bag : Stmt := top 21
def d_law_bag : He.DefD := ⟨("_law_bag", none), "_law_bag", "_law_bag", defArgs s_law_bag, defBody s_law_bag, defScope s_law_bag, [], []⟩
abbrev s_law_pull : Stmt := top 22
def d_law_pull : He.DefD := ⟨("_law_pull", none), "_law_pull", "_law_pull", defArgs s_law_pull, defBody s_law_pull, defScope s_law_pull, [], []⟩
abbrev s_law_of : Stmt := top 23
def d_law_of : He.DefD := ⟨("_law_of", none), "_law_of", "_law_of", defArgs s_law_of, defBody s_law_of, defScope s_law_of, [], []⟩
abbrev s_law_same : Stmt := top 24
def d_law_same : He.DefD := ⟨("_law_same", none), "_law_same", "_law_same", defArgs s_law_same, defBody s_law_same, defScope s_law_same, [], []⟩
abbrev s_law_primes : Stmt := top 25
def d_law_primes : He.DefD := ⟨("_law_primes", none), "_law_primes", "_law_primes", defArgs s_law_primes, defBody s_law_primes, defScope s_law_primes, [], []⟩
abbrev s_law_ink : Stmt := top 26
def d_law_ink : He.DefD := ⟨("_law_ink", none), "_law_ink", "_law_ink", defArgs s_law_ink, defBody s_law_ink, defScope s_law_ink, [], []⟩
abbrev s_law_near : Stmt := top 27
def d_law_near : He.DefD := ⟨("_law_near", none), "_law_near", "_law_near", defArgs s_law_near, defBody s_law_near, defScope s_law_near, [], []⟩
abbrev s_law_shade : Stmt := top 28
def d_law_shade : He.DefD := ⟨("_law_shade", none), "_law_shade", "_law_shade", defArgs s_law_shade, defBody s_law_shade, defScope s_law_shade, [], []⟩
abbrev s_law_sum : Stmt := top 29
def d_law_sum : He.DefD := ⟨("_law_sum", none), "_law_sum", "_law_sum", defArgs s_law_sum, defBody s_law_sum, defScope s_law_sum, [], []⟩
abbrev s_law : Stmt := top 30
def d_law : He.DefD := ⟨("law", none), "law", "law", defArgs s_law, defBody s_law, defScope s_law, [], []⟩
def fn : List He.DefD := [d__wall, d_is_number, d_is_ink, d_is_place, d_need_ink, d_need_order, d_key_of, d_rest, d_gathered, d_need_rows, d_Marks_init, d_Marks_first, d_law_bag, d_law_pull, d_law_of, d_law_same, d_law_primes, d_law_ink, d_law_near, d_law_shade, d_law_sum, d_law]
def fa : List He.Fa := [.glo "_wall", .glo "InkError", .keep "InkError", .glo "InvalidInk", .keep "InvalidInk", .glo "InvalidRow", .keep "InvalidRow", .glo "InvalidOrder", .keep "InvalidOrder", .glo "Unlike", .keep "Unlike", .glo "ORDERS", .glo "PRIMES", .glo "is_number", .glo "is_ink", .glo "is_place", .glo "need_ink", .glo "need_order", .glo "key_of", .glo "rest", .glo "gathered", .glo "need_rows", .glo "Marks", .keep "Marks", .glo "_law_bag", .glo "_law_pull", .glo "_law_of", .glo "_law_same", .glo "_law_primes", .glo "_law_ink", .glo "_law_near", .glo "_law_shade", .glo "_law_sum", .glo "law", .free "isinstance", .free "len", .free "int", .free "bool", .free "str", .free "list", .free "tuple", .free "dict", .free "set", .free "range", .free "zip", .free "enumerate", .free "abs", .free "all", .free "any", .free "sorted", .free "min", .free "max", .free "sum", .free "repr", .free "super", .cls "Marks", .noat "Marks" "ink", .noat "Marks" "table", .meth "Marks" "__init__", .meth "Marks" "first", .mkr "Marks"]
def ex : PySem.W.Frag → Bool := fun K => He.tupB K "ORDERS" [.str "columns", .str "rows"] && He.tupB K "PRIMES" [.int 2, .int 3, .int 5, .int 7, .int 11, .int 13, .int 17, .int 19, .int 23, .int 29, .int 31, .int 37, .int 41, .int 43, .int 47, .int 53, .int 59, .int 61, .int 67, .int 71, .int 73, .int 79, .int 83, .int 89, .int 97] && eTupB K (He.dflAt ("Marks", some "__init__") 0 K) && decide ([(He.cT K ("law", none)).2, (He.cT K ("Marks", some "first")).2].Nodup)
abbrev N__wall : List Str := ["k"]
theorem sc__wall : FnScope N__wall ["k"] (defScope s__wall) := ⟨rfl, rfl, rfl, by decide +kernel, rfl, by decide +kernel, by decide +kernel⟩
abbrev N_is_number : List Str := ["value"]
theorem sc_is_number : FnScope N_is_number ["value"] (defScope s_is_number) := ⟨rfl, rfl, rfl, by decide +kernel, rfl, by decide +kernel, by decide +kernel⟩
abbrev N_is_ink : List Str := ["value"]
theorem sc_is_ink : FnScope N_is_ink ["value"] (defScope s_is_ink) := ⟨rfl, rfl, rfl, by decide +kernel, rfl, by decide +kernel, by decide +kernel⟩
abbrev N_is_place : List Str := ["value", "one"]
theorem sc_is_place : FnScope N_is_place ["value"] (defScope s_is_place) := ⟨rfl, rfl, rfl, by decide +kernel, rfl, by decide +kernel, by decide +kernel⟩
abbrev N_need_ink : List Str := ["value"]
theorem sc_need_ink : FnScope N_need_ink ["value"] (defScope s_need_ink) := ⟨rfl, rfl, rfl, by decide +kernel, rfl, by decide +kernel, by decide +kernel⟩
abbrev N_need_order : List Str := ["value"]
theorem sc_need_order : FnScope N_need_order ["value"] (defScope s_need_order) := ⟨rfl, rfl, rfl, by decide +kernel, rfl, by decide +kernel, by decide +kernel⟩
abbrev N_key_of : List Str := ["place", "order"]
theorem sc_key_of : FnScope N_key_of ["place", "order"] (defScope s_key_of) := ⟨rfl, rfl, rfl, by decide +kernel, rfl, by decide +kernel, by decide +kernel⟩
abbrev N_rest : List Str := ["colour", "ink"]
theorem sc_rest : FnScope N_rest ["colour", "ink"] (defScope s_rest) := ⟨rfl, rfl, rfl, by decide +kernel, rfl, by decide +kernel, by decide +kernel⟩
abbrev N_gathered : List Str := ["rows", "ink", "found", "x", "y", "colour", "place"]
theorem sc_gathered : FnScope N_gathered ["rows", "ink"] (defScope s_gathered) := ⟨rfl, rfl, rfl, by decide +kernel, rfl, by decide +kernel, by decide +kernel⟩
abbrev N_need_rows : List Str := ["rows", "at", "row", "one"]
theorem sc_need_rows : FnScope N_need_rows ["rows"] (defScope s_need_rows) := ⟨rfl, rfl, rfl, by decide +kernel, rfl, by decide +kernel, by decide +kernel⟩
abbrev N_law_bag : List Str := ["_law_script", "_law_mixed", "_law_cell"]
theorem sc_law_bag : FnScope N_law_bag ["_law_script"] (defScope s_law_bag) := ⟨rfl, rfl, rfl, by decide +kernel, rfl, by decide +kernel, by decide +kernel⟩
abbrev N_law_pull : List Str := ["_law_bag_here", "_law_many", "_law_cell", "_law_digit", "_law_twice"]
theorem sc_law_pull : FnScope N_law_pull ["_law_bag_here", "_law_many"] (defScope s_law_pull) := ⟨rfl, rfl, rfl, by decide +kernel, rfl, by decide +kernel, by decide +kernel⟩
abbrev N_law_of : List Str := ["_law_bag_here", "_law_some"]
theorem sc_law_of : FnScope N_law_of ["_law_bag_here", "_law_some"] (defScope s_law_of) := ⟨rfl, rfl, rfl, by decide +kernel, rfl, by decide +kernel, by decide +kernel⟩
abbrev N_law_same : List Str := ["_law_found", "_law_due", "_law_a", "_law_b"]
theorem sc_law_same : FnScope N_law_same ["_law_found", "_law_due"] (defScope s_law_same) := ⟨rfl, rfl, rfl, by decide +kernel, rfl, by decide +kernel, by decide +kernel⟩
abbrev N_law_primes : List Str := []
theorem sc_law_primes : FnScope N_law_primes [] (defScope s_law_primes) := ⟨rfl, rfl, rfl, by decide +kernel, rfl, by decide +kernel, by decide +kernel⟩
abbrev N_law_ink : List Str := ["_law_bag_here"]
theorem sc_law_ink : FnScope N_law_ink ["_law_bag_here"] (defScope s_law_ink) := ⟨rfl, rfl, rfl, by decide +kernel, rfl, by decide +kernel, by decide +kernel⟩
abbrev N_law_near : List Str := ["_law_bag_here", "_law_far"]
theorem sc_law_near : FnScope N_law_near ["_law_bag_here", "_law_far"] (defScope s_law_near) := ⟨rfl, rfl, rfl, by decide +kernel, rfl, by decide +kernel, by decide +kernel⟩
abbrev N_law_shade : List Str := ["_law_colour_z", "_law_ink_z"]
theorem sc_law_shade : FnScope N_law_shade ["_law_colour_z", "_law_ink_z"] (defScope s_law_shade) := ⟨rfl, rfl, rfl, by decide +kernel, rfl, by decide +kernel, by decide +kernel⟩
abbrev N_law_sum : List Str := ["_law_rows", "_law_ink_z", "_law_found", "_law_spot", "_law_colour_z"]
theorem sc_law_sum : FnScope N_law_sum ["_law_rows", "_law_ink_z"] (defScope s_law_sum) := ⟨rfl, rfl, rfl, by decide +kernel, rfl, by decide +kernel, by decide +kernel⟩
abbrev N_law : List Str := ["_law_script", "_law_bag_here", "_law_turn", "_law_ink_z", "_law_far", "_law_given", "_law_k", "_law_table", "_law_row", "_law_made", "_law_columns_z", "_law_spot", "_law_rows_z", "_law_ends", "_law_found"]
theorem sc_law : FnScope N_law ["_law_script"] (defScope s_law) := ⟨rfl, rfl, rfl, by decide +kernel, rfl, by decide +kernel, by decide +kernel⟩
local macro_rules | `(tactic| walk_at "dl") => `(tactic| simp only [↓wC_ap, ↓wNil_ap, ↓wCons_ap, ↓wLst_ap, ↓wTup_ap, ↓wOp_ap, ↓wB_ap, ↓wUn_ap, ↓wCB_ap, ↓wCall_ap, ↓wCallK_ap, ↓wSl_ap, ↓wPart_ap, ↓wNoPart_ap, ↓wAndT_ap, ↓wOrT_ap, ↓wNotT_ap, ↓wAndV_ap, ↓wOrV_ap, ↓wIf_ap, ↓wTru_ap, ↓wLc_ap, ↓wiSeq_ap, ↓wiRng1_ap, ↓wiRng2_ap, ↓wiZip_ap, ↓wLstRg_ap, ↓wTYes_ap, ↓wsNext_ap, ↓wsSeq_ap, ↓wsRet_ap, ↓wsRetN_ap, ↓wsRetF_ap, ↓wsDrop_ap, ↓wsIf_ap, ↓wsAsg_ap, ↓wsSet_ap, ↓wsSetF_ap, ↓wsPar_ap, ↓wsStore_ap, ↓wsFor_ap, ↓wsBreak_ap, ↓wsCont_ap, ↓wgName_ap, ↓wgNil_ap, ↓wgCons_ap, ↓wgTup_ap, ↓wVar_0, ↓wVar_s, ↓addD, ↓subD, ↓mulD, ↓modD, ↓fdivD, ↓powD, ↓negD, ↓notD, ↓eqD, ↓scalD, ↓inD, ↓isD, ↓ixD, ↓cmpD, ↓leD, ↓geD, ↓gtD, ↓ltD, ↓ordD, ↓lenD, ↓absD, ↓DL.intOfD, ↓listD, ↓allD, ↓isiD, ↓sliceD, ↓truD_non, ↓truD_bl, ↓truD_int, ↓truD_str, ↓truD_lst, ↓truD_tup, List.map_cons, List.map_nil, List.length_cons, List.length_nil, List.replicate, List.cons_append, List.nil_append, List.set_cons_zero, List.set_cons_succ, List.append_nil, List.zip_cons_cons, List.zip_nil_right, List.foldl_cons, List.foldl_nil, Nat.zero_add, Nat.add_zero, Nat.reduceAdd, Nat.reduceSub, Nat.reduceMul, if_true, if_false, Bool.false_eq_true, ite_true, ite_false, v_non, v_bl, v_int, v_str, v_ty, v_cst, v_lst, v_tup, v_dk, v_dt, v_ktp, v_obj, v_scr, startD_ap, wD_nil, wD_cons, wVar_0, wVar_s, ↓is_non_int, ↓is_bl_int, ↓is_int_int, ↓is_str_int, ↓is_lst_int, ↓is_tup_int, ↓is_dk_int, ↓is_non_bool, ↓is_bl_bool, ↓is_int_bool, ↓is_str_bool, ↓is_lst_bool, ↓is_tup_bool, ↓is_dk_bool, ↓is_non_str, ↓is_bl_str, ↓is_int_str, ↓is_str_str, ↓is_lst_str, ↓is_tup_str, ↓is_dk_str, ↓is_non_list, ↓is_bl_list, ↓is_int_list, ↓is_str_list, ↓is_lst_list, ↓is_tup_list, ↓is_dk_list, ↓is_non_tuple, ↓is_bl_tuple, ↓is_int_tuple, ↓is_str_tuple, ↓is_lst_tuple, ↓is_tup_tuple, ↓is_dk_tuple, ↓wsNever_ap, ↓wNever_ap, ↓wFr_ap, ↓wFLst_ap, ↓wFList_ap, ↓wFAdd_ap, ↓wBM_ap, ↓wBM0_ap, ↓wDGet_ap, ↓wDGet2_ap, ↓wsDPut_ap, ↓wNewT_ap, ↓wsRetire_ap, ↓wiKeysT_ap, ↓wDcT_ap, ↓wFld_ap, ↓wsFld_ap, ↓wMake_ap, ↓wMeth_ap, ↓wDictPT_ap, ↓wTruOwn_ap, ↓wFmt_ap, ↓wFs_ap, ↓wiEnum_ap, ↓wJs_nil, ↓wJs_cons, ↓wiEnumA_ap, ↓wNotOwn_ap, ↓wMethX0_ap, ↓wMethF0_ap, ↓wsBMX_ap, ↓wLcF_ap, ↓appendD, ↓popD, ↓entT, ↓dflT, ↓inT, ↓getT, ↓isDt, ↓fldD, ↓recvD, ↓isObjD, ↓isEqR, ↓eqOwnD, ↓inOwnD, ↓lenOwnD, ↓reprOwnD, ↓blP, ↓lenP, ↓strP, ↓truP, ↓lenDt, ↓listDt, ↓tupOf, ↓DL.strOf, ↓fmtD, ↓sortedT, ↓eqDt, ↓rcv, ↓empD, ↓boolOwnD, ↓isCD, ↓isCDof, isK_tup, List.lookup_cons, Option.getD_some, Option.getD_none, Option.isSome_some, Option.isSome_none])
section
variable {P : Program} {w : World} {K : PySem.W.Frag} {mg : Str → Option Value} {base : Heap}
def isNum : D → Bool
  | .int _ => true
  | _ => false
def sp_is_number : DSp := fun ds S P _ => match ds with
  | [x] => plainD x = true ∧ P (.bl (isNum x)) S
  | _ => False
theorem cal_is_number (B : Bn mg) (I : DefIn K mg "is_number" "is_number" s_is_number) : Cal P w K mg base CX0 1 "is_number" ["value"] sp_is_number := by
  refine cal_def I sc_is_number (fun _ _ _ _ _ _ us hl => match us, hl with | [_], _ => rfl) (fun ds S P E h => ?_) (fun f cdv A outer s H E hr => (dss_one (ds_ret (de_and (de_callB (CallR.or call_isi (CallR.or call_isiT call_isiK)) calld_isi rfl B.isinstance bt_isinstance (da_cons (de_var 0 (pv 0)) (da_cons (de_ty rfl B.int bt_int) da_nil))) (de_one (de_not (de_callB (CallR.or call_isi (CallR.or call_isiT call_isiK)) calld_isi rfl B.isinstance bt_isinstance (da_cons (de_var 0 (pv 0)) (da_cons (de_ty rfl B.bool bt_bool) da_nil))))))))) (fun ds S P E hS h => ?_)
  · unfold sp_is_number at h
    split at h
    · rfl
    · exact h.elim
  · unfold sp_is_number at h
    split at h
    · rename_i x
      walk_at "dl"
      simp only [plain_val h.1, isi_int h.1, isi_bl h.1]
      cases x <;> first | (exfalso; exact Bool.false_ne_true h.1) | exact rt_same rfl h.2
    · exact h.elim
def primes : List D := [.int 2, .int 3, .int 5, .int 7, .int 11, .int 13, .int 17, .int 19, .int 23, .int 29, .int 31, .int 37, .int 41, .int 43, .int 47, .int 53, .int 59, .int 61, .int 67, .int 71, .int 73, .int 79, .int 83, .int 89, .int 97]
def isInk : D → Bool
  | .int i => if i = 0 then true else inV (.int i) ((toVs primes).getD [])
  | _ => false
def sp_is_ink : DSp := fun ds S P _ => match ds with
  | [x] => plainD x = true ∧ P (.bl (isInk x)) S
  | _ => False
theorem cal_is_ink (B : Bn mg) (I : DefIn K mg "is_ink" "is_ink" s_is_ink) (c_is_number : Cal P w K mg base CX0 1 "is_number" ["value"] sp_is_number) (g_PRIMES : GTup K mg "PRIMES" primes) : Cal P w K mg base CX0 2 "is_ink" ["value"] sp_is_ink := by
  refine cal_def I sc_is_ink (fun _ _ _ _ _ _ us hl => match us, hl with | [_], _ => rfl) (fun ds S P E h => ?_) (fun f cdv A outer s H E hr => (dss_one (ds_ret (de_and (de_cal c_is_number hr pass00 (da_cons (de_var 0 (pv 0)) da_nil)) (de_one (de_or (de_eq hr.units (de_var 0 (pv 0)) de_int) (de_one (de_cmp op_in_seq opd_in (de_var 0 (pv 0)) (de_gtup g_PRIMES))))))))) (fun ds S P E hS h => ?_)
  · unfold sp_is_ink at h
    split at h
    · rfl
    · exact h.elim
  · unfold sp_is_ink at h
    split at h
    · rename_i x
      walk_at "dl"
      refine ⟨h.1, ?_⟩
      cases x with
      | int i =>
        simp only [isNum, if_true, toV, scalD]
        by_cases hi : i = 0
        · subst hi
          exact rt_same rfl h.2
        · rw [if_neg (by simp [hi])]
          refine rt_same rfl ?_
          have h2 := h.2
          simp only [isInk, if_neg hi] at h2
          exact h2
      | non => exact rt_same rfl h.2
      | bl _ => exact rt_same rfl h.2
      | str _ => exact rt_same rfl h.2
      | lst _ => exact rt_same rfl h.2
      | tup _ => exact rt_same rfl h.2
      | dk _ => exact rt_same rfl h.2
      | _ => exact absurd h.1 Bool.false_ne_true
    · exact h.elim
def isPlace : D → Bool
  | .tup l => decide (l.length = 2) && l.all isNum
  | _ => false
/-- plain, and so are a tuple's items -/
def okV : D → Bool
  | .tup ds => ds.all plainD
  | d => plainD d
theorem okV_plain {d : D} (h : okV d = true) : plainD d = true := by
  cases d <;> first | rfl | exact h
def sp_is_place : DSp := fun ds S P _ => match ds with
  | [x] => okV x = true ∧ (∀ l, x = .tup l → l.length ≤ 1000) ∧ P (.bl (isPlace x)) S
  | _ => False
theorem cal_is_place (B : Bn mg) (I : DefIn K mg "is_place" "is_place" s_is_place) (c_is_number : Cal P w K mg base CX0 1 "is_number" ["value"] sp_is_number) : Cal P w K mg base CX0 2 "is_place" ["value"] sp_is_place := by
  refine cal_def I sc_is_place (fun _ _ _ _ _ _ us hl => match us, hl with | [_], _ => rfl) (fun ds S P E h => ?_) (fun f cdv A outer s H E hr => (dss_one (ds_ret (de_and (de_callB (CallR.or call_isi (CallR.or call_isiT call_isiK)) calld_isi rfl B.isinstance bt_isinstance (da_cons (de_var 0 (pv 0)) (da_cons (de_ty rfl B.tuple bt_tuple) da_nil))) (de_and (de_eq hr.units (de_callB call_len calld_len rfl B.len bt_len (da_cons (de_var 0 (pv 0)) da_nil)) de_int) (de_one (de_callB (cr_all rfl) calld_all rfl B.all bt_all (da_cons (de_lc (own := [("one", 1)]) rfl sc_is_place.nd (di_list (de_var 0 (pv 0))) (blkOk_by (N := N_is_place) (sc := defScope s_is_place) (by decide +kernel)) (fun _ _ _ _ _ => (dg_name (pg_name (i := 1) sc_is_place.nd rfl (by first | exact .inl rfl | exact .inr rfl)))) (fun _ _ _ _ _ => dts_nil) (fun _ _ _ _ _ => (de_cal c_is_number hr pass00 (da_cons (de_var 1 (pv 1)) da_nil)))) da_nil)))))))) (fun ds S P E hS h => ?_)
  · unfold sp_is_place at h
    split at h
    · rfl
    · exact h.elim
  · unfold sp_is_place at h
    split at h
    · rename_i x
      obtain ⟨h1, hl, h2⟩ := h
      have hp := okV_plain h1
      walk_at "dl"
      simp only [plain_val hp, isi_tup hp]
      cases x with
      | tup l =>
        have hl' := hl l rfl
        have ha : l.all plainD = true := h1
        simp only [kdTup, if_true, v_tup, scalD]
        by_cases h2l : l.length = 2
        · rw [if_pos (decide_eq_true (by omega))]
          refine ⟨True.intro, lcW_map (fun d => .bl (isNum d)) l [] (fun x hx Q hq => ?_) (by simp; omega) ?_⟩
          · walk_at "dl"
            exact ⟨List.all_eq_true.mp ha x hx, hq⟩
          · simp only [List.nil_append, bls_map, all_map_id]
            refine rt_same rfl ?_
            have e : isPlace (.tup l) = l.all isNum := by simp [isPlace, h2l]
            rw [e] at h2
            exact h2
        · rw [if_neg (by simp; omega)]
          refine rt_same rfl ?_
          have e : isPlace (.tup l) = false := by simp [isPlace, h2l]
          rw [e] at h2
          exact h2
      | non => exact rt_same rfl h2
      | bl _ => exact rt_same rfl h2
      | str _ => exact rt_same rfl h2
      | lst _ => exact rt_same rfl h2
      | int _ => exact rt_same rfl h2
      | dk _ => exact rt_same rfl h2
      | _ => exact absurd hp Bool.false_ne_true
    · exact h.elim
def sp_need_ink : DSp := fun ds S P _ => match ds with
  | [x] => plainD x = true ∧ isInk x = true ∧ P .non S
  | _ => False
theorem cal_need_ink (I : DefIn K mg "need_ink" "need_ink" s_need_ink) (c_is_ink : Cal P w K mg base CX0 2 "is_ink" ["value"] sp_is_ink) : Cal P w K mg base CX0 3 "need_ink" ["value"] sp_need_ink := by
  obtain ⟨sp_ink', c_is_ink, h_ink⟩ := hide c_is_ink
  refine cal_def I sc_need_ink (fun _ _ _ _ _ _ us hl => match us, hl with | [_], _ => rfl) (fun ds S P E h => ?_) (fun f cdv A outer s H E hr => (dss_one (ds_if (dt_not (dt_tru (de_cal c_is_ink hr pass00 (da_cons (de_var 0 (pv 0)) da_nil)))) (dss_one ds_never) dss_nil))) (fun ds S P E hS h => ?_)
  · unfold sp_need_ink at h
    split at h
    · rfl
    · exact h.elim
  · unfold sp_need_ink at h
    split at h
    · rename_i x
      walk_at "dl"
      refine h_ink _ _ _ _ ⟨h.1, ?_⟩
      rw [h.2.1]
      exact .inl ⟨rfl, h.2.2⟩
    · exact h.elim
/-- a colour as the ink leaves it -/
def restI (c ink : Int) : Int := if ink = 0 then c else c % ink
def sp_rest : DSp := fun ds S P _ => match ds with
  | [.int c, .int ink] => 0 ≤ ink ∧ P (.int (restI c ink)) S
  | _ => False
theorem cal_rest (I : DefIn K mg "rest" "rest" s_rest) : Cal P w K mg base CX0 1 "rest" ["colour", "ink"] sp_rest := by
  refine cal_def I sc_rest (fun _ _ _ _ _ _ us hl => match us, hl with | [_, _], _ => rfl) (fun ds S P E h => ?_) (fun f cdv A outer s H E hr => (dss_one (ds_ret (de_if (dt_eq hr.units (de_var 1 (pv 1)) de_int) (de_var 0 (pv 0)) (de_op op_mod opd_mod (de_var 0 (pv 0)) (de_var 1 (pv 1))))))) (fun ds S P E hS h => ?_)
  · unfold sp_rest at h
    split at h
    · rfl
    · exact h.elim
  · unfold sp_rest at h
    split at h
    · rename_i c ink
      walk_at "dl"
      unfold restI at h
      by_cases q : ink = 0
      · rw [if_pos (decide_eq_true q)]
        rw [if_pos q] at h
        exact rt_same rfl h.2
      · rw [if_neg (by simpa using q)]
        rw [if_neg q] at h
        exact ⟨by omega, rt_same rfl h.2⟩
    · exact h.elim
/-! ### the law's own helpers -/
theorem cal_bag (B : Bn mg) (I : DefIn K mg "_law_bag" "_law_bag" s_law_bag) : CalFr P w K mg base CX0 1 "_law_bag" ["_law_script"] sp_bag := by
  refine cal_defF I sc_law_bag (fun _ _ _ _ _ _ us hl => match us, hl with | [_], _ => rfl) (fun ds S P E h => ?_) (fun f cdv A outer s H E hr => (dss_cons (ds_set (i := 1) sc_law_bag.nd rfl (by first | exact .inl rfl | exact .inr rfl) de_int)
  (dss_cons (ds_for (passes_of rfl) rfl (di_list (de_slice (de_var 0 (pv 0)) do_none (do_some de_int))) (dg_name (pg_name (i := 2) sc_law_bag.nd rfl (by first | exact .inl rfl | exact .inr rfl)))
  (dss_one (ds_set (i := 1) sc_law_bag.nd rfl (by first | exact .inl rfl | exact .inr rfl) (de_op op_mod opd_mod (de_callTy call_int1 calld_int rfl B.int bt_int (da_cons (de_op op_addA opd_add (de_op op_addA opd_add (de_op op_mulA opd_mul (de_var 1 (pv 1)) de_int) (de_op op_mulA opd_mul (de_op op_mod opd_mod (de_callTy call_int1 calld_int rfl B.int bt_int (da_cons (de_var 2 (pv 2)) da_nil)) de_int) de_int)) de_int) da_nil)) de_int))))
  (dss_one (ds_retF (df_lst (da_cons (de_callTy call_list_of calld_list rfl B.list bt_list (da_cons (de_slice (de_var 0 (pv 0)) do_none (do_some de_int)) da_nil)) (da_cons de_int (da_cons de_int (da_cons (de_var 1 (pv 1)) (da_cons de_int da_nil))))))))))) (fun ds S P E hS h => ?_)
  · unfold sp_bag at h
    split at h
    · rfl
    · exact h.elim
  · unfold sp_bag at h
    split at h
    · rename_i ns
      walk_at "dl"
      rw [cut63 h.1]
      refine for_inv (fun l ρ S' => S' = S ∧ (∃ cs : List Int, l = cs.map D.int) ∧ ∃ (m : Int) (o : Option D), 0 ≤ m ∧ m < 2147483563 ∧ ρ = [some (.scr ns), some (.int m), o]) ?_ ?_ _ _ _ ⟨rfl, ⟨_, rfl⟩, _, _, by decide, by decide, rfl⟩
      · rintro x xs ρ S' ⟨rfl, ⟨cs, hc⟩, m, o, h1, h2, rfl⟩ nx hn
        cases cs with
        | nil => cases hc
        | cons c cs =>
          injection hc with e1 e2
          subst e1 e2
          walk_at "dl"
          exact ⟨mulC (by decide), by decide, mulC (by decide), by decide, hn _ _ ⟨rfl, ⟨_, rfl⟩, _, _, by omega, by omega, rfl⟩⟩
      · rintro ρ S' ⟨rfl, _, m, o, h1, h2, rfl⟩
        walk_at "dl"
        rw [cut63 h.1]
        exact ⟨by decide, rfl, h.2 _ ⟨ns, 0, 0, m, 0, rfl, by decide, by decide, h1, by omega⟩⟩
    · exact h.elim
theorem cal_pull (B : Bn mg) (I : DefIn K mg "_law_pull" "_law_pull" s_law_pull) : Cal P w K mg base CX0 1 "_law_pull" ["_law_bag_here", "_law_many"] sp_pull := by
  refine cal_def I sc_law_pull (fun _ _ _ _ _ _ us hl => match us, hl with | [_, _], _ => rfl) (fun ds S P E h => ?_) (fun f cdv A outer s H E hr => (dss_cons (ds_store (de_op op_addA opd_add (de_ix (de_var 0 (pv 0)) de_int) de_int) (de_var 0 (pv 0)) de_int)
  (dss_cons (ds_if (dt_w (dw_and (dt_eq hr.units (de_ix (de_var 0 (pv 0)) de_int) de_int) (dw_and1 (dt_cmp op_lt opd_lt (de_ix (de_var 0 (pv 0)) de_int) (de_callB call_len calld_len rfl B.len bt_len (da_cons (de_ix (de_var 0 (pv 0)) de_int) da_nil)))))) (dss_cons (ds_set (i := 2) sc_law_pull.nd rfl (by first | exact .inl rfl | exact .inr rfl) (de_ix (de_ix (de_var 0 (pv 0)) de_int) (de_ix (de_var 0 (pv 0)) de_int)))
  (dss_cons (ds_store (de_op op_addA opd_add (de_ix (de_var 0 (pv 0)) de_int) de_int) (de_var 0 (pv 0)) de_int)
  (dss_one (ds_if (dt_cmp op_ge opd_ge (de_callB call_abs calld_abs rfl B.abs bt_abs (da_cons (de_var 2 (pv 2)) da_nil)) (de_op op_pow opd_pow de_int de_int)) (dss_one (ds_store (de_callB call_abs calld_abs rfl B.abs bt_abs (da_cons (de_var 2 (pv 2)) da_nil)) (de_var 0 (pv 0)) de_int)) (dss_one (ds_store (de_op op_mod opd_mod (de_callTy call_int1 calld_int rfl B.int bt_int (da_cons (de_op op_addA opd_add (de_op op_addA opd_add (de_op op_mulA opd_mul (de_ix (de_var 0 (pv 0)) de_int) de_int) (de_op op_mulA opd_mul (de_op op_mod opd_mod (de_callTy call_int1 calld_int rfl B.int bt_int (da_cons (de_var 2 (pv 2)) da_nil)) de_int) de_int)) de_int) da_nil)) de_int) (de_var 0 (pv 0)) de_int)))))) dss_nil)
  (dss_cons (ds_if (dt_cmp op_gt opd_gt (de_ix (de_var 0 (pv 0)) de_int) de_int) (dss_cons (ds_set (i := 3) sc_law_pull.nd rfl (by first | exact .inl rfl | exact .inr rfl) (de_op op_mod opd_mod (de_callTy call_int1 calld_int rfl B.int bt_int (da_cons (de_ix (de_var 0 (pv 0)) de_int) da_nil)) (de_var 1 (pv 1))))
  (dss_cons (ds_store (de_op op_fdivW opd_fdiv (de_ix (de_var 0 (pv 0)) de_int) (de_var 1 (pv 1))) (de_var 0 (pv 0)) de_int)
  (dss_one (ds_ret (de_var 3 (pv 3)))))) dss_nil)
  (dss_cons (ds_set (i := 4) sc_law_pull.nd rfl (by first | exact .inl rfl | exact .inr rfl) (de_op op_mod opd_mod (de_callTy call_int1 calld_int rfl B.int bt_int (da_cons (de_op op_addA opd_add (de_op op_mulA opd_mul (de_ix (de_var 0 (pv 0)) de_int) (de_ix (de_var 0 (pv 0)) de_int)) (de_op op_mulA opd_mul (de_ix (de_var 0 (pv 0)) de_int) de_int)) da_nil)) de_int))
  (dss_cons (ds_store (de_op op_mod opd_mod (de_callTy call_int1 calld_int rfl B.int bt_int (da_cons (de_op op_addA opd_add (de_op op_addA opd_add (de_op op_mulA opd_mul (de_var 4 (pv 4)) de_int) (de_op op_mulA opd_mul (de_ix (de_var 0 (pv 0)) de_int) de_int)) de_int) da_nil)) de_int) (de_var 0 (pv 0)) de_int)
  (dss_one (ds_ret (de_op op_mod opd_mod (de_callTy call_int1 calld_int rfl B.int bt_int (da_cons (de_op op_fdivW opd_fdiv (de_ix (de_var 0 (pv 0)) de_int) de_int) da_nil)) (de_var 1 (pv 1))))))))))) (fun ds S P E hS h => ?_)
  · unfold sp_pull at h
    split at h
    · rfl
    · exact h.elim
  · unfold sp_pull at h
    split at h
    · rename_i i many
      obtain ⟨b, hb, ⟨cells, taken, rest, mixed, draws, rfl, h1, h2, h3, h4⟩, hm, hm2, h⟩ := h
      have hv := val_at hb
      have hl := lt_at hb
      have hs : ∀ ds, val (S.set i (.lst ds)) (.loc i) = .lst ds := fun ds => val_set hl
      refine ws_join (fun ρ' S' => ρ' = [some (.loc i), some (.int many), none, none, none] ∧ S' = S.set i (.lst [.lst (cells.map D.int), .int taken, .int rest, .int mixed, .int (draws + 1)])) (fun nx hn => ?_) ?_
      · simp only [↓wC_ap, ↓wNil_ap, ↓wCons_ap, ↓wLst_ap, ↓wTup_ap, ↓wOp_ap, ↓wB_ap, ↓wUn_ap, ↓wCB_ap, ↓wCall_ap, ↓wCallK_ap, ↓wSl_ap, ↓wPart_ap, ↓wNoPart_ap, ↓wAndT_ap, ↓wOrT_ap, ↓wNotT_ap, ↓wAndV_ap, ↓wOrV_ap, ↓wIf_ap, ↓wTru_ap, ↓wLc_ap, ↓wiSeq_ap, ↓wiRng1_ap, ↓wiRng2_ap, ↓wiZip_ap, ↓wLstRg_ap, ↓wTYes_ap, ↓wsNext_ap, ↓wsSeq_ap, ↓wsRet_ap, ↓wsRetN_ap, ↓wsRetF_ap, ↓wsDrop_ap, ↓wsIf_ap, ↓wsAsg_ap, ↓wsSet_ap, ↓wsSetF_ap, ↓wsPar_ap, ↓wsStore_ap, ↓wsFor_ap, ↓wsBreak_ap, ↓wsCont_ap, ↓wgName_ap, ↓wgNil_ap, ↓wgCons_ap, ↓wgTup_ap, ↓wVar_0, ↓wVar_s, ↓addD, ↓subD, ↓mulD, ↓modD, ↓fdivD, ↓powD, ↓negD, ↓notD, ↓eqD, ↓scalD, ↓inD, ↓isD, ↓ixD, ↓cmpD, ↓leD, ↓geD, ↓gtD, ↓ltD, ↓ordD, ↓lenD, ↓absD, ↓DL.intOfD, ↓listD, ↓allD, ↓isiD, ↓sliceD, ↓truD_non, ↓truD_bl, ↓truD_int, ↓truD_str, ↓truD_lst, ↓truD_tup, List.map_cons, List.map_nil, List.length_cons, List.length_nil, List.replicate, List.cons_append, List.nil_append, List.set_cons_zero, List.set_cons_succ, List.append_nil, List.zip_cons_cons, List.zip_nil_right, List.foldl_cons, List.foldl_nil, Nat.zero_add, Nat.add_zero, Nat.reduceAdd, Nat.reduceSub, Nat.reduceMul, if_true, if_false, Bool.false_eq_true, ite_true, ite_false, v_non, v_bl, v_int, v_str, v_ty, v_cst, v_lst, v_tup, v_dk, v_dt, v_ktp, v_obj, v_scr, startD_ap, wD_nil, wD_cons, wVar_0, wVar_s, ↓is_non_int, ↓is_bl_int, ↓is_int_int, ↓is_str_int, ↓is_lst_int, ↓is_tup_int, ↓is_dk_int, ↓is_non_bool, ↓is_bl_bool, ↓is_int_bool, ↓is_str_bool, ↓is_lst_bool, ↓is_tup_bool, ↓is_dk_bool, ↓is_non_str, ↓is_bl_str, ↓is_int_str, ↓is_str_str, ↓is_lst_str, ↓is_tup_str, ↓is_dk_str, ↓is_non_list, ↓is_bl_list, ↓is_int_list, ↓is_str_list, ↓is_lst_list, ↓is_tup_list, ↓is_dk_list, ↓is_non_tuple, ↓is_bl_tuple, ↓is_int_tuple, ↓is_str_tuple, ↓is_lst_tuple, ↓is_tup_tuple, ↓is_dk_tuple, ↓wsNever_ap, ↓wNever_ap, ↓wFr_ap, ↓wFLst_ap, ↓wFList_ap, ↓wFAdd_ap, ↓wBM_ap, ↓wBM0_ap, ↓wDGet_ap, ↓wDGet2_ap, ↓wsDPut_ap, ↓wNewT_ap, ↓wsRetire_ap, ↓wiKeysT_ap, ↓wDcT_ap, ↓wFld_ap, ↓wsFld_ap, ↓wMake_ap, ↓wMeth_ap, ↓wDictPT_ap, ↓wTruOwn_ap, ↓wFmt_ap, ↓wFs_ap, ↓wiEnum_ap, ↓wJs_nil, ↓wJs_cons, ↓wiEnumA_ap, ↓wNotOwn_ap, ↓wMethX0_ap, ↓wMethF0_ap, ↓wsBMX_ap, ↓wLcF_ap, ↓appendD, ↓popD, ↓entT, ↓dflT, ↓inT, ↓getT, ↓isDt, ↓fldD, ↓recvD, ↓isObjD, ↓isEqR, ↓eqOwnD, ↓inOwnD, ↓lenOwnD, ↓reprOwnD, ↓blP, ↓lenP, ↓strP, ↓truP, ↓lenDt, ↓listDt, ↓tupOf, ↓DL.strOf, ↓fmtD, ↓sortedT, ↓eqDt, ↓rcv, ↓empD, ↓boolOwnD, ↓isCD, ↓isCDof, isK_tup, List.lookup_cons, Option.getD_some, Option.getD_none, Option.isSome_some, Option.isSome_none, ↓hv, ↓hs, ↓set_set, ↓at5_0, ↓at5_1, ↓at5_2, ↓at5_3, ↓at5_4, ↓ix5_1, ↓ix5_2, ↓ix5_3, ↓ix5_4]
        exact hn _ _ ⟨rfl, rfl⟩
      rintro _ _ ⟨rfl, rfl⟩
      refine ws_join (fun ρ' S' => (∃ o, ρ' = [some (.loc i), some (.int many), o, none, none]) ∧ ∃ t r m : Int, 0 ≤ t ∧ 0 ≤ r ∧ 0 ≤ m ∧ m < 2147483629 ∧ S' = S.set i (.lst [.lst (cells.map D.int), .int t, .int r, .int m, .int (draws + 1)])) (fun nx hn => ?_) ?_
      · by_cases hc : rest = 0 ∧ taken < cells.length
        · obtain ⟨y, hy, hx⟩ := at_in (l := cells.map D.int) h1 (by rw [List.length_map]; exact hc.2)
          obtain ⟨c, _, rfl⟩ := List.mem_map.mp hy
          simp only [↓wC_ap, ↓wNil_ap, ↓wCons_ap, ↓wLst_ap, ↓wTup_ap, ↓wOp_ap, ↓wB_ap, ↓wUn_ap, ↓wCB_ap, ↓wCall_ap, ↓wCallK_ap, ↓wSl_ap, ↓wPart_ap, ↓wNoPart_ap, ↓wAndT_ap, ↓wOrT_ap, ↓wNotT_ap, ↓wAndV_ap, ↓wOrV_ap, ↓wIf_ap, ↓wTru_ap, ↓wLc_ap, ↓wiSeq_ap, ↓wiRng1_ap, ↓wiRng2_ap, ↓wiZip_ap, ↓wLstRg_ap, ↓wTYes_ap, ↓wsNext_ap, ↓wsSeq_ap, ↓wsRet_ap, ↓wsRetN_ap, ↓wsRetF_ap, ↓wsDrop_ap, ↓wsIf_ap, ↓wsAsg_ap, ↓wsSet_ap, ↓wsSetF_ap, ↓wsPar_ap, ↓wsStore_ap, ↓wsFor_ap, ↓wsBreak_ap, ↓wsCont_ap, ↓wgName_ap, ↓wgNil_ap, ↓wgCons_ap, ↓wgTup_ap, ↓wVar_0, ↓wVar_s, ↓addD, ↓subD, ↓mulD, ↓modD, ↓fdivD, ↓powD, ↓negD, ↓notD, ↓eqD, ↓scalD, ↓inD, ↓isD, ↓ixD, ↓cmpD, ↓leD, ↓geD, ↓gtD, ↓ltD, ↓ordD, ↓lenD, ↓absD, ↓DL.intOfD, ↓listD, ↓allD, ↓isiD, ↓sliceD, ↓truD_non, ↓truD_bl, ↓truD_int, ↓truD_str, ↓truD_lst, ↓truD_tup, List.map_cons, List.map_nil, List.length_cons, List.length_nil, List.replicate, List.cons_append, List.nil_append, List.set_cons_zero, List.set_cons_succ, List.append_nil, List.zip_cons_cons, List.zip_nil_right, List.foldl_cons, List.foldl_nil, Nat.zero_add, Nat.add_zero, Nat.reduceAdd, Nat.reduceSub, Nat.reduceMul, if_true, if_false, Bool.false_eq_true, ite_true, ite_false, v_non, v_bl, v_int, v_str, v_ty, v_cst, v_lst, v_tup, v_dk, v_dt, v_ktp, v_obj, v_scr, startD_ap, wD_nil, wD_cons, wVar_0, wVar_s, ↓is_non_int, ↓is_bl_int, ↓is_int_int, ↓is_str_int, ↓is_lst_int, ↓is_tup_int, ↓is_dk_int, ↓is_non_bool, ↓is_bl_bool, ↓is_int_bool, ↓is_str_bool, ↓is_lst_bool, ↓is_tup_bool, ↓is_dk_bool, ↓is_non_str, ↓is_bl_str, ↓is_int_str, ↓is_str_str, ↓is_lst_str, ↓is_tup_str, ↓is_dk_str, ↓is_non_list, ↓is_bl_list, ↓is_int_list, ↓is_str_list, ↓is_lst_list, ↓is_tup_list, ↓is_dk_list, ↓is_non_tuple, ↓is_bl_tuple, ↓is_int_tuple, ↓is_str_tuple, ↓is_lst_tuple, ↓is_tup_tuple, ↓is_dk_tuple, ↓wsNever_ap, ↓wNever_ap, ↓wFr_ap, ↓wFLst_ap, ↓wFList_ap, ↓wFAdd_ap, ↓wBM_ap, ↓wBM0_ap, ↓wDGet_ap, ↓wDGet2_ap, ↓wsDPut_ap, ↓wNewT_ap, ↓wsRetire_ap, ↓wiKeysT_ap, ↓wDcT_ap, ↓wFld_ap, ↓wsFld_ap, ↓wMake_ap, ↓wMeth_ap, ↓wDictPT_ap, ↓wTruOwn_ap, ↓wFmt_ap, ↓wFs_ap, ↓wiEnum_ap, ↓wJs_nil, ↓wJs_cons, ↓wiEnumA_ap, ↓wNotOwn_ap, ↓wMethX0_ap, ↓wMethF0_ap, ↓wsBMX_ap, ↓wLcF_ap, ↓appendD, ↓popD, ↓entT, ↓dflT, ↓inT, ↓getT, ↓isDt, ↓fldD, ↓recvD, ↓isObjD, ↓isEqR, ↓eqOwnD, ↓inOwnD, ↓lenOwnD, ↓reprOwnD, ↓blP, ↓lenP, ↓strP, ↓truP, ↓lenDt, ↓listDt, ↓tupOf, ↓DL.strOf, ↓fmtD, ↓sortedT, ↓eqDt, ↓rcv, ↓empD, ↓boolOwnD, ↓isCD, ↓isCDof, isK_tup, List.lookup_cons, Option.getD_some, Option.getD_none, Option.isSome_some, Option.isSome_none, ↓hv, ↓hs, ↓set_set, ↓at5_0, ↓at5_1, ↓at5_2, ↓at5_3, ↓at5_4, ↓ix5_1, ↓ix5_2, ↓ix5_3, ↓ix5_4, hx]
          rw [if_pos (decide_eq_true hc.1), if_pos (decide_eq_true (by rw [List.length_map]; exact hc.2))]
          refine ⟨by decide, ?_⟩
          have habs : 0 ≤ (if c < 0 then -c else c) := by split <;> omega
          generalize (if c < 0 then -c else c) = ac at habs ⊢
          split
          · exact hn _ _ ⟨⟨_, rfl⟩, taken + 1, ac, mixed, by omega, habs, h3, h4, rfl⟩
          · exact ⟨mulC (by decide), by decide, mulC (by decide), by decide, hn _ _ ⟨⟨_, rfl⟩, _, _, _, by omega, h2, by omega, by omega, rfl⟩⟩
        · simp only [↓wC_ap, ↓wNil_ap, ↓wCons_ap, ↓wLst_ap, ↓wTup_ap, ↓wOp_ap, ↓wB_ap, ↓wUn_ap, ↓wCB_ap, ↓wCall_ap, ↓wCallK_ap, ↓wSl_ap, ↓wPart_ap, ↓wNoPart_ap, ↓wAndT_ap, ↓wOrT_ap, ↓wNotT_ap, ↓wAndV_ap, ↓wOrV_ap, ↓wIf_ap, ↓wTru_ap, ↓wLc_ap, ↓wiSeq_ap, ↓wiRng1_ap, ↓wiRng2_ap, ↓wiZip_ap, ↓wLstRg_ap, ↓wTYes_ap, ↓wsNext_ap, ↓wsSeq_ap, ↓wsRet_ap, ↓wsRetN_ap, ↓wsRetF_ap, ↓wsDrop_ap, ↓wsIf_ap, ↓wsAsg_ap, ↓wsSet_ap, ↓wsSetF_ap, ↓wsPar_ap, ↓wsStore_ap, ↓wsFor_ap, ↓wsBreak_ap, ↓wsCont_ap, ↓wgName_ap, ↓wgNil_ap, ↓wgCons_ap, ↓wgTup_ap, ↓wVar_0, ↓wVar_s, ↓addD, ↓subD, ↓mulD, ↓modD, ↓fdivD, ↓powD, ↓negD, ↓notD, ↓eqD, ↓scalD, ↓inD, ↓isD, ↓ixD, ↓cmpD, ↓leD, ↓geD, ↓gtD, ↓ltD, ↓ordD, ↓lenD, ↓absD, ↓DL.intOfD, ↓listD, ↓allD, ↓isiD, ↓sliceD, ↓truD_non, ↓truD_bl, ↓truD_int, ↓truD_str, ↓truD_lst, ↓truD_tup, List.map_cons, List.map_nil, List.length_cons, List.length_nil, List.replicate, List.cons_append, List.nil_append, List.set_cons_zero, List.set_cons_succ, List.append_nil, List.zip_cons_cons, List.zip_nil_right, List.foldl_cons, List.foldl_nil, Nat.zero_add, Nat.add_zero, Nat.reduceAdd, Nat.reduceSub, Nat.reduceMul, if_true, if_false, Bool.false_eq_true, ite_true, ite_false, v_non, v_bl, v_int, v_str, v_ty, v_cst, v_lst, v_tup, v_dk, v_dt, v_ktp, v_obj, v_scr, startD_ap, wD_nil, wD_cons, wVar_0, wVar_s, ↓is_non_int, ↓is_bl_int, ↓is_int_int, ↓is_str_int, ↓is_lst_int, ↓is_tup_int, ↓is_dk_int, ↓is_non_bool, ↓is_bl_bool, ↓is_int_bool, ↓is_str_bool, ↓is_lst_bool, ↓is_tup_bool, ↓is_dk_bool, ↓is_non_str, ↓is_bl_str, ↓is_int_str, ↓is_str_str, ↓is_lst_str, ↓is_tup_str, ↓is_dk_str, ↓is_non_list, ↓is_bl_list, ↓is_int_list, ↓is_str_list, ↓is_lst_list, ↓is_tup_list, ↓is_dk_list, ↓is_non_tuple, ↓is_bl_tuple, ↓is_int_tuple, ↓is_str_tuple, ↓is_lst_tuple, ↓is_tup_tuple, ↓is_dk_tuple, ↓wsNever_ap, ↓wNever_ap, ↓wFr_ap, ↓wFLst_ap, ↓wFList_ap, ↓wFAdd_ap, ↓wBM_ap, ↓wBM0_ap, ↓wDGet_ap, ↓wDGet2_ap, ↓wsDPut_ap, ↓wNewT_ap, ↓wsRetire_ap, ↓wiKeysT_ap, ↓wDcT_ap, ↓wFld_ap, ↓wsFld_ap, ↓wMake_ap, ↓wMeth_ap, ↓wDictPT_ap, ↓wTruOwn_ap, ↓wFmt_ap, ↓wFs_ap, ↓wiEnum_ap, ↓wJs_nil, ↓wJs_cons, ↓wiEnumA_ap, ↓wNotOwn_ap, ↓wMethX0_ap, ↓wMethF0_ap, ↓wsBMX_ap, ↓wLcF_ap, ↓appendD, ↓popD, ↓entT, ↓dflT, ↓inT, ↓getT, ↓isDt, ↓fldD, ↓recvD, ↓isObjD, ↓isEqR, ↓eqOwnD, ↓inOwnD, ↓lenOwnD, ↓reprOwnD, ↓blP, ↓lenP, ↓strP, ↓truP, ↓lenDt, ↓listDt, ↓tupOf, ↓DL.strOf, ↓fmtD, ↓sortedT, ↓eqDt, ↓rcv, ↓empD, ↓boolOwnD, ↓isCD, ↓isCDof, isK_tup, List.lookup_cons, Option.getD_some, Option.getD_none, Option.isSome_some, Option.isSome_none, ↓hv, ↓hs, ↓set_set, ↓at5_0, ↓at5_1, ↓at5_2, ↓at5_3, ↓at5_4, ↓ix5_1, ↓ix5_2, ↓ix5_3, ↓ix5_4]
          by_cases q1 : rest = 0
          · rw [if_pos (decide_eq_true q1), if_neg (by rw [List.length_map]; simp; omega)]
            exact hn _ _ ⟨⟨_, rfl⟩, _, _, _, h1, h2, h3, h4, rfl⟩
          · rw [if_neg (by simpa using q1)]
            exact hn _ _ ⟨⟨_, rfl⟩, _, _, _, h1, h2, h3, h4, rfl⟩
      · rintro _ _ ⟨⟨o, rfl⟩, t, r, m, g1, g2, g3, g4, rfl⟩
        refine ws_join (fun ρ' S' => (∃ o', ρ' = [some (.loc i), some (.int many), o, o', none]) ∧ S' = S.set i (.lst [.lst (cells.map D.int), .int t, .int r, .int m, .int (draws + 1)])) (fun nx hn => ?_) ?_
        · simp only [↓wC_ap, ↓wNil_ap, ↓wCons_ap, ↓wLst_ap, ↓wTup_ap, ↓wOp_ap, ↓wB_ap, ↓wUn_ap, ↓wCB_ap, ↓wCall_ap, ↓wCallK_ap, ↓wSl_ap, ↓wPart_ap, ↓wNoPart_ap, ↓wAndT_ap, ↓wOrT_ap, ↓wNotT_ap, ↓wAndV_ap, ↓wOrV_ap, ↓wIf_ap, ↓wTru_ap, ↓wLc_ap, ↓wiSeq_ap, ↓wiRng1_ap, ↓wiRng2_ap, ↓wiZip_ap, ↓wLstRg_ap, ↓wTYes_ap, ↓wsNext_ap, ↓wsSeq_ap, ↓wsRet_ap, ↓wsRetN_ap, ↓wsRetF_ap, ↓wsDrop_ap, ↓wsIf_ap, ↓wsAsg_ap, ↓wsSet_ap, ↓wsSetF_ap, ↓wsPar_ap, ↓wsStore_ap, ↓wsFor_ap, ↓wsBreak_ap, ↓wsCont_ap, ↓wgName_ap, ↓wgNil_ap, ↓wgCons_ap, ↓wgTup_ap, ↓wVar_0, ↓wVar_s, ↓addD, ↓subD, ↓mulD, ↓modD, ↓fdivD, ↓powD, ↓negD, ↓notD, ↓eqD, ↓scalD, ↓inD, ↓isD, ↓ixD, ↓cmpD, ↓leD, ↓geD, ↓gtD, ↓ltD, ↓ordD, ↓lenD, ↓absD, ↓DL.intOfD, ↓listD, ↓allD, ↓isiD, ↓sliceD, ↓truD_non, ↓truD_bl, ↓truD_int, ↓truD_str, ↓truD_lst, ↓truD_tup, List.map_cons, List.map_nil, List.length_cons, List.length_nil, List.replicate, List.cons_append, List.nil_append, List.set_cons_zero, List.set_cons_succ, List.append_nil, List.zip_cons_cons, List.zip_nil_right, List.foldl_cons, List.foldl_nil, Nat.zero_add, Nat.add_zero, Nat.reduceAdd, Nat.reduceSub, Nat.reduceMul, if_true, if_false, Bool.false_eq_true, ite_true, ite_false, v_non, v_bl, v_int, v_str, v_ty, v_cst, v_lst, v_tup, v_dk, v_dt, v_ktp, v_obj, v_scr, startD_ap, wD_nil, wD_cons, wVar_0, wVar_s, ↓is_non_int, ↓is_bl_int, ↓is_int_int, ↓is_str_int, ↓is_lst_int, ↓is_tup_int, ↓is_dk_int, ↓is_non_bool, ↓is_bl_bool, ↓is_int_bool, ↓is_str_bool, ↓is_lst_bool, ↓is_tup_bool, ↓is_dk_bool, ↓is_non_str, ↓is_bl_str, ↓is_int_str, ↓is_str_str, ↓is_lst_str, ↓is_tup_str, ↓is_dk_str, ↓is_non_list, ↓is_bl_list, ↓is_int_list, ↓is_str_list, ↓is_lst_list, ↓is_tup_list, ↓is_dk_list, ↓is_non_tuple, ↓is_bl_tuple, ↓is_int_tuple, ↓is_str_tuple, ↓is_lst_tuple, ↓is_tup_tuple, ↓is_dk_tuple, ↓wsNever_ap, ↓wNever_ap, ↓wFr_ap, ↓wFLst_ap, ↓wFList_ap, ↓wFAdd_ap, ↓wBM_ap, ↓wBM0_ap, ↓wDGet_ap, ↓wDGet2_ap, ↓wsDPut_ap, ↓wNewT_ap, ↓wsRetire_ap, ↓wiKeysT_ap, ↓wDcT_ap, ↓wFld_ap, ↓wsFld_ap, ↓wMake_ap, ↓wMeth_ap, ↓wDictPT_ap, ↓wTruOwn_ap, ↓wFmt_ap, ↓wFs_ap, ↓wiEnum_ap, ↓wJs_nil, ↓wJs_cons, ↓wiEnumA_ap, ↓wNotOwn_ap, ↓wMethX0_ap, ↓wMethF0_ap, ↓wsBMX_ap, ↓wLcF_ap, ↓appendD, ↓popD, ↓entT, ↓dflT, ↓inT, ↓getT, ↓isDt, ↓fldD, ↓recvD, ↓isObjD, ↓isEqR, ↓eqOwnD, ↓inOwnD, ↓lenOwnD, ↓reprOwnD, ↓blP, ↓lenP, ↓strP, ↓truP, ↓lenDt, ↓listDt, ↓tupOf, ↓DL.strOf, ↓fmtD, ↓sortedT, ↓eqDt, ↓rcv, ↓empD, ↓boolOwnD, ↓isCD, ↓isCDof, isK_tup, List.lookup_cons, Option.getD_some, Option.getD_none, Option.isSome_some, Option.isSome_none, ↓hv, ↓hs, ↓set_set, ↓at5_0, ↓at5_1, ↓at5_2, ↓at5_3, ↓at5_4, ↓ix5_1, ↓ix5_2, ↓ix5_3, ↓ix5_4]
          split
          · exact ⟨hm, ⟨hm, Int.lt_of_lt_of_le hm2 (by decide +kernel)⟩, rt_same (by simp) (h _ _ (Int.emod_nonneg _ (by omega)) (Int.emod_lt_of_pos _ hm) ⟨_, _, _, _, _, rfl, g1, Int.ediv_nonneg g2 (by omega), g3, g4⟩)⟩
          · exact hn _ _ ⟨⟨_, rfl⟩, rfl⟩
        · rintro _ _ ⟨⟨o', rfl⟩, rfl⟩
          simp only [↓wC_ap, ↓wNil_ap, ↓wCons_ap, ↓wLst_ap, ↓wTup_ap, ↓wOp_ap, ↓wB_ap, ↓wUn_ap, ↓wCB_ap, ↓wCall_ap, ↓wCallK_ap, ↓wSl_ap, ↓wPart_ap, ↓wNoPart_ap, ↓wAndT_ap, ↓wOrT_ap, ↓wNotT_ap, ↓wAndV_ap, ↓wOrV_ap, ↓wIf_ap, ↓wTru_ap, ↓wLc_ap, ↓wiSeq_ap, ↓wiRng1_ap, ↓wiRng2_ap, ↓wiZip_ap, ↓wLstRg_ap, ↓wTYes_ap, ↓wsNext_ap, ↓wsSeq_ap, ↓wsRet_ap, ↓wsRetN_ap, ↓wsRetF_ap, ↓wsDrop_ap, ↓wsIf_ap, ↓wsAsg_ap, ↓wsSet_ap, ↓wsSetF_ap, ↓wsPar_ap, ↓wsStore_ap, ↓wsFor_ap, ↓wsBreak_ap, ↓wsCont_ap, ↓wgName_ap, ↓wgNil_ap, ↓wgCons_ap, ↓wgTup_ap, ↓wVar_0, ↓wVar_s, ↓addD, ↓subD, ↓mulD, ↓modD, ↓fdivD, ↓powD, ↓negD, ↓notD, ↓eqD, ↓scalD, ↓inD, ↓isD, ↓ixD, ↓cmpD, ↓leD, ↓geD, ↓gtD, ↓ltD, ↓ordD, ↓lenD, ↓absD, ↓DL.intOfD, ↓listD, ↓allD, ↓isiD, ↓sliceD, ↓truD_non, ↓truD_bl, ↓truD_int, ↓truD_str, ↓truD_lst, ↓truD_tup, List.map_cons, List.map_nil, List.length_cons, List.length_nil, List.replicate, List.cons_append, List.nil_append, List.set_cons_zero, List.set_cons_succ, List.append_nil, List.zip_cons_cons, List.zip_nil_right, List.foldl_cons, List.foldl_nil, Nat.zero_add, Nat.add_zero, Nat.reduceAdd, Nat.reduceSub, Nat.reduceMul, if_true, if_false, Bool.false_eq_true, ite_true, ite_false, v_non, v_bl, v_int, v_str, v_ty, v_cst, v_lst, v_tup, v_dk, v_dt, v_ktp, v_obj, v_scr, startD_ap, wD_nil, wD_cons, wVar_0, wVar_s, ↓is_non_int, ↓is_bl_int, ↓is_int_int, ↓is_str_int, ↓is_lst_int, ↓is_tup_int, ↓is_dk_int, ↓is_non_bool, ↓is_bl_bool, ↓is_int_bool, ↓is_str_bool, ↓is_lst_bool, ↓is_tup_bool, ↓is_dk_bool, ↓is_non_str, ↓is_bl_str, ↓is_int_str, ↓is_str_str, ↓is_lst_str, ↓is_tup_str, ↓is_dk_str, ↓is_non_list, ↓is_bl_list, ↓is_int_list, ↓is_str_list, ↓is_lst_list, ↓is_tup_list, ↓is_dk_list, ↓is_non_tuple, ↓is_bl_tuple, ↓is_int_tuple, ↓is_str_tuple, ↓is_lst_tuple, ↓is_tup_tuple, ↓is_dk_tuple, ↓wsNever_ap, ↓wNever_ap, ↓wFr_ap, ↓wFLst_ap, ↓wFList_ap, ↓wFAdd_ap, ↓wBM_ap, ↓wBM0_ap, ↓wDGet_ap, ↓wDGet2_ap, ↓wsDPut_ap, ↓wNewT_ap, ↓wsRetire_ap, ↓wiKeysT_ap, ↓wDcT_ap, ↓wFld_ap, ↓wsFld_ap, ↓wMake_ap, ↓wMeth_ap, ↓wDictPT_ap, ↓wTruOwn_ap, ↓wFmt_ap, ↓wFs_ap, ↓wiEnum_ap, ↓wJs_nil, ↓wJs_cons, ↓wiEnumA_ap, ↓wNotOwn_ap, ↓wMethX0_ap, ↓wMethF0_ap, ↓wsBMX_ap, ↓wLcF_ap, ↓appendD, ↓popD, ↓entT, ↓dflT, ↓inT, ↓getT, ↓isDt, ↓fldD, ↓recvD, ↓isObjD, ↓isEqR, ↓eqOwnD, ↓inOwnD, ↓lenOwnD, ↓reprOwnD, ↓blP, ↓lenP, ↓strP, ↓truP, ↓lenDt, ↓listDt, ↓tupOf, ↓DL.strOf, ↓fmtD, ↓sortedT, ↓eqDt, ↓rcv, ↓empD, ↓boolOwnD, ↓isCD, ↓isCDof, isK_tup, List.lookup_cons, Option.getD_some, Option.getD_none, Option.isSome_some, Option.isSome_none, ↓hv, ↓hs, ↓set_set, ↓at5_0, ↓at5_1, ↓at5_2, ↓at5_3, ↓at5_4, ↓ix5_1, ↓ix5_2, ↓ix5_3, ↓ix5_4]
          have e64 : (2 : Nat) ^ 64 = 18446744073709551616 := by decide
          exact ⟨mulC (by rw [e64]; omega), mulC (by decide), by decide, mulC (by decide), mulC (by decide), by decide, by decide, hm, rt_same (by simp) (h _ _ (Int.emod_nonneg _ (by omega)) (Int.emod_lt_of_pos _ hm) ⟨_, _, _, _, _, rfl, g1, g2, by omega, by omega⟩)⟩
    · exact h.elim
theorem cal_of (B : Bn mg) (I : DefIn K mg "_law_of" "_law_of" s_law_of) (c_law_pull : Cal P w K mg base CX0 1 "_law_pull" ["_law_bag_here", "_law_many"] sp_pull) : Cal P w K mg base CX0 2 "_law_of" ["_law_bag_here", "_law_some"] sp_of := by
  refine cal_def I sc_law_of (fun _ _ _ _ _ _ us hl => match us, hl with | [_, _], _ => rfl) (fun ds S P E h => ?_) (fun f cdv A outer s H E hr => (dss_one (ds_ret (de_ix (de_var 1 (pv 1)) (de_cal c_law_pull hr pass00 (da_cons (de_var 0 (pv 0)) (da_cons (de_callB call_len calld_len rfl B.len bt_len (da_cons (de_var 1 (pv 1)) da_nil)) da_nil))))))) (fun ds S P E hS h => ?_)
  · unfold sp_of at h
    split at h
    · rfl
    · exact h.elim
  · unfold sp_of at h
    split at h
    · rename_i i xs
      obtain ⟨b, hb, ok, hx, hl, h⟩ := h
      walk_at "dl"
      have hp : 0 < xs.length := List.length_pos_iff.mpr hx
      refine ⟨b, hb, ok, by omega, Int.lt_of_lt_of_le (show (xs.length : Int) < 1000000 by omega) (by decide +kernel), fun d b' h0 h1 ok' => ?_⟩
      obtain ⟨y, hy, e⟩ := at_in h0 h1
      simp only [↓wC_ap, ↓wNil_ap, ↓wCons_ap, ↓wLst_ap, ↓wTup_ap, ↓wOp_ap, ↓wB_ap, ↓wUn_ap, ↓wCB_ap, ↓wCall_ap, ↓wCallK_ap, ↓wSl_ap, ↓wPart_ap, ↓wNoPart_ap, ↓wAndT_ap, ↓wOrT_ap, ↓wNotT_ap, ↓wAndV_ap, ↓wOrV_ap, ↓wIf_ap, ↓wTru_ap, ↓wLc_ap, ↓wiSeq_ap, ↓wiRng1_ap, ↓wiRng2_ap, ↓wiZip_ap, ↓wLstRg_ap, ↓wTYes_ap, ↓wsNext_ap, ↓wsSeq_ap, ↓wsRet_ap, ↓wsRetN_ap, ↓wsRetF_ap, ↓wsDrop_ap, ↓wsIf_ap, ↓wsAsg_ap, ↓wsSet_ap, ↓wsSetF_ap, ↓wsPar_ap, ↓wsStore_ap, ↓wsFor_ap, ↓wsBreak_ap, ↓wsCont_ap, ↓wgName_ap, ↓wgNil_ap, ↓wgCons_ap, ↓wgTup_ap, ↓wVar_0, ↓wVar_s, ↓addD, ↓subD, ↓mulD, ↓modD, ↓fdivD, ↓powD, ↓negD, ↓notD, ↓eqD, ↓scalD, ↓inD, ↓isD, ↓ixD, ↓cmpD, ↓leD, ↓geD, ↓gtD, ↓ltD, ↓ordD, ↓lenD, ↓absD, ↓DL.intOfD, ↓listD, ↓allD, ↓isiD, ↓sliceD, ↓truD_non, ↓truD_bl, ↓truD_int, ↓truD_str, ↓truD_lst, ↓truD_tup, List.map_cons, List.map_nil, List.length_cons, List.length_nil, List.replicate, List.cons_append, List.nil_append, List.set_cons_zero, List.set_cons_succ, List.append_nil, List.zip_cons_cons, List.zip_nil_right, List.foldl_cons, List.foldl_nil, Nat.zero_add, Nat.add_zero, Nat.reduceAdd, Nat.reduceSub, Nat.reduceMul, if_true, if_false, Bool.false_eq_true, ite_true, ite_false, v_non, v_bl, v_int, v_str, v_ty, v_cst, v_lst, v_tup, v_dk, v_dt, v_ktp, v_obj, v_scr, startD_ap, wD_nil, wD_cons, wVar_0, wVar_s, ↓is_non_int, ↓is_bl_int, ↓is_int_int, ↓is_str_int, ↓is_lst_int, ↓is_tup_int, ↓is_dk_int, ↓is_non_bool, ↓is_bl_bool, ↓is_int_bool, ↓is_str_bool, ↓is_lst_bool, ↓is_tup_bool, ↓is_dk_bool, ↓is_non_str, ↓is_bl_str, ↓is_int_str, ↓is_str_str, ↓is_lst_str, ↓is_tup_str, ↓is_dk_str, ↓is_non_list, ↓is_bl_list, ↓is_int_list, ↓is_str_list, ↓is_lst_list, ↓is_tup_list, ↓is_dk_list, ↓is_non_tuple, ↓is_bl_tuple, ↓is_int_tuple, ↓is_str_tuple, ↓is_lst_tuple, ↓is_tup_tuple, ↓is_dk_tuple, ↓wsNever_ap, ↓wNever_ap, ↓wFr_ap, ↓wFLst_ap, ↓wFList_ap, ↓wFAdd_ap, ↓wBM_ap, ↓wBM0_ap, ↓wDGet_ap, ↓wDGet2_ap, ↓wsDPut_ap, ↓wNewT_ap, ↓wsRetire_ap, ↓wiKeysT_ap, ↓wDcT_ap, ↓wFld_ap, ↓wsFld_ap, ↓wMake_ap, ↓wMeth_ap, ↓wDictPT_ap, ↓wTruOwn_ap, ↓wFmt_ap, ↓wFs_ap, ↓wiEnum_ap, ↓wJs_nil, ↓wJs_cons, ↓wiEnumA_ap, ↓wNotOwn_ap, ↓wMethX0_ap, ↓wMethF0_ap, ↓wsBMX_ap, ↓wLcF_ap, ↓appendD, ↓popD, ↓entT, ↓dflT, ↓inT, ↓getT, ↓isDt, ↓fldD, ↓recvD, ↓isObjD, ↓isEqR, ↓eqOwnD, ↓inOwnD, ↓lenOwnD, ↓reprOwnD, ↓blP, ↓lenP, ↓strP, ↓truP, ↓lenDt, ↓listDt, ↓tupOf, ↓DL.strOf, ↓fmtD, ↓sortedT, ↓eqDt, ↓rcv, ↓empD, ↓boolOwnD, ↓isCD, ↓isCDof, isK_tup, List.lookup_cons, Option.getD_some, Option.getD_none, Option.isSome_some, Option.isSome_none, ↓e]
      exact rt_same (by simp) (h y b' hy ok')
    · exact h.elim
theorem cal_near (B : Bn mg) (I : DefIn K mg "_law_near" "_law_near" s_law_near) (c_law_pull : Cal P w K mg base CX0 1 "_law_pull" ["_law_bag_here", "_law_many"] sp_pull) : Cal P w K mg base CX0 2 "_law_near" ["_law_bag_here", "_law_far"] sp_near := by
  refine cal_def I sc_law_near (fun _ _ _ _ _ _ us hl => match us, hl with | [_, _], _ => rfl) (fun ds S P E h => ?_) (fun f cdv A outer s H E hr => (dss_one (ds_ret (de_op op_sub opd_sub (de_cal c_law_pull hr pass00 (da_cons (de_var 0 (pv 0)) (da_cons (de_op op_addA opd_add (de_op op_mulA opd_mul de_int (de_var 1 (pv 1))) de_int) da_nil))) (de_var 1 (pv 1)))))) (fun ds S P E hS h => ?_)
  · unfold sp_near at h
    split at h
    · rfl
    · exact h.elim
  · unfold sp_near at h
    split at h
    · rename_i i far
      obtain ⟨b, hb, ok, h0, h1, h⟩ := h
      have e9 : ((10 : Int) ^ 900) * 2 + 1 ≤ 10 ^ 1000 := by decide +kernel
      walk_at "dl"
      refine ⟨mulC1 (by decide), b, hb, ok, by omega, by omega, fun d b' g0 g1 ok' => ?_⟩
      walk_at "dl"
      exact rt_same (by simp) (h _ b' (by omega) (by omega) ok')
    · exact h.elim
theorem cal_same1 (B : Bn mg) (I : DefIn K mg "_law_same" "_law_same" s_law_same) {n m : Nat} {spr : DSp} (hz : ∀ x y S P E, deep x = true → deep y = true → dep y < m → P (.bl (same x y)) S → spr [x, y] S P E)
    (c_law_same : Cal P w K mg base CX0 n "_law_same" ["_law_found", "_law_due"] spr) : Cal P w K mg base CX0 (n + 1) "_law_same" ["_law_found", "_law_due"] (sp_same m) := by
  refine cal_def I sc_law_same (fun _ _ _ _ _ _ us hl => match us, hl with | [_, _], _ => rfl) (fun ds S P E h => ?_) (fun f cdv A outer s H E hr => (dss_cons (ds_if (dt_tru (de_callB (CallR.or call_isi (CallR.or call_isiT call_isiK)) calld_isi rfl B.isinstance bt_isinstance (da_cons (de_var 1 (pv 1)) (da_cons (de_tup (da_cons (de_ty rfl B.list bt_list) (da_cons (de_ty rfl B.tuple bt_tuple) da_nil))) da_nil)))) (dss_cons (ds_if (dt_w (dw_or (dt_ne hr.units (de_callB (CallR.or call_isi (CallR.or call_isiT call_isiK)) calld_isi rfl B.isinstance bt_isinstance (da_cons (de_var 0 (pv 0)) (da_cons (de_ty rfl B.list bt_list) da_nil))) (de_callB (CallR.or call_isi (CallR.or call_isiT call_isiK)) calld_isi rfl B.isinstance bt_isinstance (da_cons (de_var 1 (pv 1)) (da_cons (de_ty rfl B.list bt_list) da_nil)))) (dw_or1 (dt_ne hr.units (de_callB (CallR.or call_isi (CallR.or call_isiT call_isiK)) calld_isi rfl B.isinstance bt_isinstance (da_cons (de_var 0 (pv 0)) (da_cons (de_ty rfl B.tuple bt_tuple) da_nil))) (de_callB (CallR.or call_isi (CallR.or call_isiT call_isiK)) calld_isi rfl B.isinstance bt_isinstance (da_cons (de_var 1 (pv 1)) (da_cons (de_ty rfl B.tuple bt_tuple) da_nil))))))) (dss_one (ds_ret de_bl)) dss_nil)
  (dss_one (ds_ret (de_and (de_eq hr.units (de_callB call_len calld_len rfl B.len bt_len (da_cons (de_var 0 (pv 0)) da_nil)) (de_callB call_len calld_len rfl B.len bt_len (da_cons (de_var 1 (pv 1)) da_nil))) (de_one (de_callB (cr_all rfl) calld_all rfl B.all bt_all (da_cons (de_lc (own := [("_law_a", 2), ("_law_b", 3)]) rfl sc_law_same.nd (di_zip rfl B.zip (da_cons (de_var 0 (pv 0)) (da_cons (de_var 1 (pv 1)) da_nil))) (blkOk_by (N := N_law_same) (sc := defScope s_law_same) (by decide +kernel)) (fun _ _ _ _ _ => (dg_tup (n := 2) rfl (dgs_cons (dg_name (pg_name (i := 2) sc_law_same.nd rfl (by first | exact .inl rfl | exact .inr rfl))) (dgs_cons (dg_name (pg_name (i := 3) sc_law_same.nd rfl (by first | exact .inl rfl | exact .inr rfl))) dgs_nil)))) (fun _ _ _ _ _ => dts_nil) (fun _ _ _ _ _ => (de_cal c_law_same hr pass00 (da_cons (de_var 2 (pv 2)) (da_cons (de_var 3 (pv 3)) da_nil))))) da_nil))))))) dss_nil)
  (dss_cons (ds_if (dt_w (dw_or (dt_cmp op_isN opd_is (de_var 1 (pv 1)) de_non) (dw_or1 (dt_cmp op_isN opd_is (de_var 0 (pv 0)) de_non)))) (dss_one (ds_ret (de_and (de_cmp op_isN opd_is (de_var 1 (pv 1)) de_non) (de_one (de_cmp op_isN opd_is (de_var 0 (pv 0)) de_non))))) dss_nil)
  (dss_cons (ds_if (dt_w (dw_or (dt_ne hr.units (de_callB (CallR.or call_isi (CallR.or call_isiT call_isiK)) calld_isi rfl B.isinstance bt_isinstance (da_cons (de_var 1 (pv 1)) (da_cons (de_ty rfl B.bool bt_bool) da_nil))) (de_callB (CallR.or call_isi (CallR.or call_isiT call_isiK)) calld_isi rfl B.isinstance bt_isinstance (da_cons (de_var 0 (pv 0)) (da_cons (de_ty rfl B.bool bt_bool) da_nil)))) (dw_or1 (dt_ne hr.units (de_callB (CallR.or call_isi (CallR.or call_isiT call_isiK)) calld_isi rfl B.isinstance bt_isinstance (da_cons (de_var 1 (pv 1)) (da_cons (de_ty rfl B.int bt_int) da_nil))) (de_callB (CallR.or call_isi (CallR.or call_isiT call_isiK)) calld_isi rfl B.isinstance bt_isinstance (da_cons (de_var 0 (pv 0)) (da_cons (de_ty rfl B.int bt_int) da_nil))))))) (dss_one (ds_ret de_bl)) dss_nil)
  (dss_one (ds_ret (de_and (de_eq hr.units (de_callB (CallR.or call_isi (CallR.or call_isiT call_isiK)) calld_isi rfl B.isinstance bt_isinstance (da_cons (de_var 1 (pv 1)) (da_cons (de_ty rfl B.str bt_str) da_nil))) (de_callB (CallR.or call_isi (CallR.or call_isiT call_isiK)) calld_isi rfl B.isinstance bt_isinstance (da_cons (de_var 0 (pv 0)) (da_cons (de_ty rfl B.str bt_str) da_nil)))) (de_one (de_eq hr.units (de_var 0 (pv 0)) (de_var 1 (pv 1))))))))))) (fun ds S P E hS h => ?_)
  · unfold sp_same at h
    split at h
    · rfl
    · exact h.elim
  · unfold sp_same at h
    split at h
    · rename_i x y
      obtain ⟨hx, hy, hd, h⟩ := h
      cases y with
      | lst b =>
        cases x with
        | lst a =>
          walk_at "dl"
          simp only [decide_true, decide_false, Bool.not_true, Bool.not_false, Bool.false_eq_true, if_false, Bool.or_false, Bool.or_true, if_true]
          refine ⟨by decide, ?_⟩
          by_cases hl : a.length = b.length
          · rw [if_pos (decide_eq_true (by omega))]
            refine ⟨True.intro, lcW_mapG (fun p => .bl (smP p)) (zipD a b) [] (fun p hp Q hq => ?_) ?_ ?_⟩
            · obtain ⟨x, y, rfl, hx', hy'⟩ := zip_mem hp
              walk_at "dl"
              refine ⟨True.intro, True.intro, hz _ _ _ _ _ (deeps_mem (and_tt hx).2 hx') (deeps_mem (and_tt hy).2 hy') ?_ hq⟩
              have h9 : deps b + 1 ≤ m := hd
              have := deps_mem hy'
              omega
            · rw [List.length_nil, Nat.zero_add]
              exact zip_len (of_decide_eq_true (and_tt hx).1)
            · simp only [List.nil_append, bls_map, all_map_id]
              have e : DL.same (.lst a) (.lst b) = (zipD a b).all smP := by
                show sames a b = _
                rw [sames_zip, decide_eq_true hl]
                rfl
              rw [e] at h
              exact rt_same rfl h
          · rw [if_neg (by simp; omega)]
            have e : DL.same (.lst a) (.lst b) = false := by
              show sames a b = _
              rw [sames_zip, decide_eq_false hl]
              rfl
            rw [e] at h
            exact rt_same rfl h
        | _ =>
          first
          | (exfalso; exact Bool.false_ne_true hx)
          | (walk_at "dl"; refine ⟨by decide, ?_⟩; simp [isNonD]; exact rt_same rfl (by simpa [DL.same] using h))
      | tup b =>
        cases x with
        | tup a =>
          walk_at "dl"
          simp only [decide_true, decide_false, Bool.not_true, Bool.not_false, Bool.false_eq_true, if_false, Bool.or_false, Bool.or_true, if_true]
          refine ⟨by decide, ?_⟩
          by_cases hl : a.length = b.length
          · rw [if_pos (decide_eq_true (by omega))]
            refine ⟨True.intro, lcW_mapG (fun p => .bl (smP p)) (zipD a b) [] (fun p hp Q hq => ?_) ?_ ?_⟩
            · obtain ⟨x, y, rfl, hx', hy'⟩ := zip_mem hp
              walk_at "dl"
              refine ⟨True.intro, True.intro, hz _ _ _ _ _ (deeps_mem (and_tt hx).2 hx') (deeps_mem (and_tt hy).2 hy') ?_ hq⟩
              have h9 : deps b + 1 ≤ m := hd
              have := deps_mem hy'
              omega
            · rw [List.length_nil, Nat.zero_add]
              exact zip_len (of_decide_eq_true (and_tt hx).1)
            · simp only [List.nil_append, bls_map, all_map_id]
              have e : DL.same (.tup a) (.tup b) = (zipD a b).all smP := by
                show sames a b = _
                rw [sames_zip, decide_eq_true hl]
                rfl
              rw [e] at h
              exact rt_same rfl h
          · rw [if_neg (by simp; omega)]
            have e : DL.same (.tup a) (.tup b) = false := by
              show sames a b = _
              rw [sames_zip, decide_eq_false hl]
              rfl
            rw [e] at h
            exact rt_same rfl h
        | _ =>
          first
          | (exfalso; exact Bool.false_ne_true hx)
          | (walk_at "dl"; refine ⟨by decide, ?_⟩; simp [isNonD]; exact rt_same rfl (by simpa [DL.same] using h))
      | _ =>
        cases x
        all_goals first
          | (exfalso; exact Bool.false_ne_true hx)
          | (exfalso; exact Bool.false_ne_true hy)
          | skip
        all_goals (walk_at "dl")
        all_goals
          refine ⟨by decide, ?_⟩
          simp [isNonD]
          exact rt_same rfl (by simpa [DL.same] using h)
    · exact h.elim
theorem cal_same (B : Bn mg) (I : DefIn K mg "_law_same" "_law_same" s_law_same) : ∀ n : Nat, Cal P w K mg base CX0 (n + 1) "_law_same" ["_law_found", "_law_due"] (sp_same n)
  | 0 => cal_same1 B I (fun _ _ _ _ _ _ _ h _ => absurd h (Nat.not_lt_zero _)) (cal_no I (fun _ _ _ _ _ _ us hl => match us, hl with | [_, _], _ => rfl))
  | n + 1 => cal_same1 B I (fun _ _ _ _ _ h1 h2 h3 h4 => ⟨h1, h2, by omega, h4⟩) (cal_same B I n)
end
end LW
set_option maxRecDepth 100000
set_option maxHeartbeats 4000000
namespace LW
open PySem PySem.Spec PyProof.Rows L2 DL
local macro_rules | `(tactic| walk_at "dl") => `(tactic| simp only [↓wC_ap, ↓wNil_ap, ↓wCons_ap, ↓wLst_ap, ↓wTup_ap, ↓wOp_ap, ↓wB_ap, ↓wUn_ap, ↓wCB_ap, ↓wCall_ap, ↓wCallK_ap, ↓wSl_ap, ↓wPart_ap, ↓wNoPart_ap, ↓wAndT_ap, ↓wOrT_ap, ↓wNotT_ap, ↓wAndV_ap, ↓wOrV_ap, ↓wIf_ap, ↓wTru_ap, ↓wLc_ap, ↓wiSeq_ap, ↓wiRng1_ap, ↓wiRng2_ap, ↓wiZip_ap, ↓wLstRg_ap, ↓wTYes_ap, ↓wsNext_ap, ↓wsSeq_ap, ↓wsRet_ap, ↓wsRetN_ap, ↓wsRetF_ap, ↓wsDrop_ap, ↓wsIf_ap, ↓wsAsg_ap, ↓wsSet_ap, ↓wsSetF_ap, ↓wsPar_ap, ↓wsStore_ap, ↓wsFor_ap, ↓wsBreak_ap, ↓wsCont_ap, ↓wgName_ap, ↓wgNil_ap, ↓wgCons_ap, ↓wgTup_ap, ↓wVar_0, ↓wVar_s, ↓addD, ↓subD, ↓mulD, ↓modD, ↓fdivD, ↓powD, ↓negD, ↓notD, ↓eqD, ↓scalD, ↓inD, ↓isD, ↓ixD, ↓cmpD, ↓leD, ↓geD, ↓gtD, ↓ltD, ↓ordD, ↓lenD, ↓absD, ↓DL.intOfD, ↓listD, ↓allD, ↓isiD, ↓sliceD, ↓truD_non, ↓truD_bl, ↓truD_int, ↓truD_str, ↓truD_lst, ↓truD_tup, List.map_cons, List.map_nil, List.length_cons, List.length_nil, List.replicate, List.cons_append, List.nil_append, List.set_cons_zero, List.set_cons_succ, List.append_nil, List.zip_cons_cons, List.zip_nil_right, List.foldl_cons, List.foldl_nil, Nat.zero_add, Nat.add_zero, Nat.reduceAdd, Nat.reduceSub, Nat.reduceMul, if_true, if_false, Bool.false_eq_true, ite_true, ite_false, v_non, v_bl, v_int, v_str, v_ty, v_cst, v_lst, v_tup, v_dk, v_dt, v_ktp, v_obj, v_scr, startD_ap, wD_nil, wD_cons, wVar_0, wVar_s, ↓is_non_int, ↓is_bl_int, ↓is_int_int, ↓is_str_int, ↓is_lst_int, ↓is_tup_int, ↓is_dk_int, ↓is_non_bool, ↓is_bl_bool, ↓is_int_bool, ↓is_str_bool, ↓is_lst_bool, ↓is_tup_bool, ↓is_dk_bool, ↓is_non_str, ↓is_bl_str, ↓is_int_str, ↓is_str_str, ↓is_lst_str, ↓is_tup_str, ↓is_dk_str, ↓is_non_list, ↓is_bl_list, ↓is_int_list, ↓is_str_list, ↓is_lst_list, ↓is_tup_list, ↓is_dk_list, ↓is_non_tuple, ↓is_bl_tuple, ↓is_int_tuple, ↓is_str_tuple, ↓is_lst_tuple, ↓is_tup_tuple, ↓is_dk_tuple, ↓wsNever_ap, ↓wNever_ap, ↓wFr_ap, ↓wFLst_ap, ↓wFList_ap, ↓wFAdd_ap, ↓wBM_ap, ↓wBM0_ap, ↓wDGet_ap, ↓wDGet2_ap, ↓wsDPut_ap, ↓wNewT_ap, ↓wsRetire_ap, ↓wiKeysT_ap, ↓wDcT_ap, ↓wFld_ap, ↓wsFld_ap, ↓wMake_ap, ↓wMeth_ap, ↓wDictPT_ap, ↓wTruOwn_ap, ↓wFmt_ap, ↓wFs_ap, ↓wiEnum_ap, ↓wJs_nil, ↓wJs_cons, ↓wiEnumA_ap, ↓wNotOwn_ap, ↓wMethX0_ap, ↓wMethF0_ap, ↓wsBMX_ap, ↓wLcF_ap, ↓appendD, ↓popD, ↓entT, ↓dflT, ↓inT, ↓getT, ↓isDt, ↓fldD, ↓recvD, ↓isObjD, ↓isEqR, ↓eqOwnD, ↓inOwnD, ↓lenOwnD, ↓reprOwnD, ↓blP, ↓lenP, ↓strP, ↓truP, ↓lenDt, ↓listDt, ↓tupOf, ↓DL.strOf, ↓fmtD, ↓sortedT, ↓eqDt, ↓rcv, ↓empD, ↓boolOwnD, ↓isCD, ↓isCDof, isK_tup, List.lookup_cons, Option.getD_some, Option.getD_none, Option.isSome_some, Option.isSome_none])
section
variable {P : Program} {w : World} {K : PySem.W.Frag} {mg : Str → Option Value} {base : Heap}
def sp_gathered : DSp := fun ds S P _ => match ds with
  | [x, .int ink] => ∃ rows : List (Pl × Int), SeqD x S (rows.map rowD) ∧ rows.length < 100000 ∧ 0 ≤ ink ∧ P (.dt (encT (leaves (fun c => restI c ink) (tally rows [])))) S
  | _ => False
theorem cal_gathered (B : Bn mg) (I : DefIn K mg "gathered" "gathered" s_gathered) (c_rest : Cal P w K mg base CX0 1 "rest" ["colour", "ink"] sp_rest) : Cal P w K mg base CX0 2 "gathered" ["rows", "ink"] sp_gathered := by
  obtain ⟨sp_rest', c_rest, h_rest⟩ := hide c_rest
  refine cal_def I sc_gathered (fun _ _ _ _ _ _ us hl => match us, hl with | [_, _], _ => rfl) (fun ds S P E h => ?_) (fun f cdv A outer s H E hr => (dss_cons (ds_setX (i := 2) sc_gathered.nd rfl (by first | exact .inl rfl | exact .inr rfl) dx_newT)
  (dss_cons (ds_for (passes_of rfl) rfl (di_list (de_var 0 (pv 0))) (dg_tup (n := 3) rfl (dgs_cons (dg_name (pg_name (i := 3) sc_gathered.nd rfl (by first | exact .inl rfl | exact .inr rfl))) (dgs_cons (dg_name (pg_name (i := 4) sc_gathered.nd rfl (by first | exact .inl rfl | exact .inr rfl))) (dgs_cons (dg_name (pg_name (i := 5) sc_gathered.nd rfl (by first | exact .inl rfl | exact .inr rfl))) dgs_nil))))
  (dss_one (ds_dput hr.units (de_op op_addA opd_add (de_dget2 hr.units (de_var 2 (pv 2)) (de_tup (da_cons (de_var 3 (pv 3)) (da_cons (de_var 4 (pv 4)) da_nil))) de_int) (de_var 5 (pv 5))) (de_var 2 (pv 2)) (de_tup (da_cons (de_var 3 (pv 3)) (da_cons (de_var 4 (pv 4)) da_nil))))))
  (dss_one (ds_retire 2 (ds_ret (de_dcT (own := [("place", 6)]) hr.units rfl sc_gathered.nd (di_keysT (de_var 2 (pv 2))) (blkOk_by (N := N_gathered) (sc := defScope s_gathered) (by decide +kernel)) (fun _ _ _ _ _ => (dg_name (pg_name (i := 6) sc_gathered.nd rfl (by first | exact .inl rfl | exact .inr rfl)))) (fun _ _ _ _ _ => (dts_one (dt_ne hr.units (de_cal c_rest hr pass00 (da_cons (de_dget hr.units (de_var 2 (pv 2)) (de_var 6 (pv 6))) (da_cons (de_var 1 (pv 1)) da_nil))) de_int))) (fun _ _ _ _ _ => (de_var 6 (pv 6))) (fun _ _ _ _ _ => (de_cal c_rest hr pass00 (da_cons (de_dget hr.units (de_var 2 (pv 2)) (de_var 6 (pv 6))) (da_cons (de_var 1 (pv 1)) da_nil))))))))))) (fun ds S P E hS h => ?_)
  · unfold sp_gathered at h
    split at h
    · rfl
    · exact h.elim
  · unfold sp_gathered at h
    split at h
    · rename_i x ink
      obtain ⟨rows, hseq, hlen, hink, h⟩ := h
      rw [startD_ap]
      refine ws_join (fun ρ' S' => ρ' = [some x, some (.int ink), some (.loc S.length), none, none, none, none] ∧ S' = S ++ [.dt (encT [])]) (fun nx hn => ?_) ?_
      · walk_at "dl"
        exact hn _ _ ⟨rfl, rfl⟩
      rintro _ _ ⟨rfl, rfl⟩
      refine ws_join (fun ρ' S' => (∃ o3 o4 o5 o6, ρ' = [some x, some (.int ink), some (.loc S.length), o3, o4, o5, o6]) ∧ S' = S ++ [.dt (encT (tally rows []))]) (fun nx hn => ?_) ?_
      · rw [wsFor_ap]
        have hseq' : SeqD x (S ++ [.dt (encT [])]) (rows.map rowD) := by
          rcases hseq with e | e | e | ⟨i, e, e2⟩
          · exact .inl e
          · exact .inr (.inl e)
          · exact .inr (.inr (.inl e))
          · exact .inr (.inr (.inr ⟨i, e, by rw [List.getElem?_append_left (lt_at e2)]; exact e2⟩))
        refine wiSeq_of (x := x) (fun Q q => q) hseq' fun src hsrc => ?_
        refine for_inv2 (fun xs ρ S' => (∃ o3 o4 o5 o6, ρ = [some x, some (.int ink), some (.loc S.length), o3, o4, o5, o6]) ∧ srcOk src (rows.map rowD) S' ∧ ∃ (rs : List (Pl × Int)) (t : Tab), xs = rs.map rowD ∧ S' = S ++ [.dt (encT t)] ∧ t.length + rs.length ≤ rows.length ∧ tally rs t = tally rows []) (fun _ _ _ h => h.2.1) ?_ ?_ _ _ _ ⟨⟨_, _, _, _, rfl⟩, hsrc, rows, [], rfl, rfl, by simp, rfl⟩
        · rintro y ys ρ S' ⟨⟨o3, o4, o5, o6, rfl⟩, hsrc', rs, t, hy, rfl, hl, ht⟩ nx hn
          cases rs with
          | nil => cases hy
          | cons r rs =>
            injection hy with e1 e2
            subst e1 e2
            obtain ⟨⟨a, b⟩, c⟩ := r
            unfold rowD
            simp only [↓wC_ap, ↓wNil_ap, ↓wCons_ap, ↓wLst_ap, ↓wTup_ap, ↓wOp_ap, ↓wB_ap, ↓wUn_ap, ↓wCB_ap, ↓wCall_ap, ↓wCallK_ap, ↓wSl_ap, ↓wPart_ap, ↓wNoPart_ap, ↓wAndT_ap, ↓wOrT_ap, ↓wNotT_ap, ↓wAndV_ap, ↓wOrV_ap, ↓wIf_ap, ↓wTru_ap, ↓wLc_ap, ↓wiSeq_ap, ↓wiRng1_ap, ↓wiRng2_ap, ↓wiZip_ap, ↓wLstRg_ap, ↓wTYes_ap, ↓wsNext_ap, ↓wsSeq_ap, ↓wsRet_ap, ↓wsRetN_ap, ↓wsRetF_ap, ↓wsDrop_ap, ↓wsIf_ap, ↓wsAsg_ap, ↓wsSet_ap, ↓wsSetF_ap, ↓wsPar_ap, ↓wsStore_ap, ↓wsFor_ap, ↓wsBreak_ap, ↓wsCont_ap, ↓wgName_ap, ↓wgNil_ap, ↓wgCons_ap, ↓wgTup_ap, ↓wVar_0, ↓wVar_s, ↓addD, ↓subD, ↓mulD, ↓modD, ↓fdivD, ↓powD, ↓negD, ↓notD, ↓eqD, ↓scalD, ↓inD, ↓isD, ↓ixD, ↓cmpD, ↓leD, ↓geD, ↓gtD, ↓ltD, ↓ordD, ↓lenD, ↓absD, ↓DL.intOfD, ↓listD, ↓allD, ↓isiD, ↓sliceD, ↓truD_non, ↓truD_bl, ↓truD_int, ↓truD_str, ↓truD_lst, ↓truD_tup, List.map_cons, List.map_nil, List.length_cons, List.length_nil, List.replicate, List.cons_append, List.nil_append, List.set_cons_zero, List.set_cons_succ, List.append_nil, List.zip_cons_cons, List.zip_nil_right, List.foldl_cons, List.foldl_nil, Nat.zero_add, Nat.add_zero, Nat.reduceAdd, Nat.reduceSub, Nat.reduceMul, if_true, if_false, Bool.false_eq_true, ite_true, ite_false, v_non, v_bl, v_int, v_str, v_ty, v_cst, v_lst, v_tup, v_dk, v_dt, v_ktp, v_obj, v_scr, startD_ap, wD_nil, wD_cons, wVar_0, wVar_s, ↓is_non_int, ↓is_bl_int, ↓is_int_int, ↓is_str_int, ↓is_lst_int, ↓is_tup_int, ↓is_dk_int, ↓is_non_bool, ↓is_bl_bool, ↓is_int_bool, ↓is_str_bool, ↓is_lst_bool, ↓is_tup_bool, ↓is_dk_bool, ↓is_non_str, ↓is_bl_str, ↓is_int_str, ↓is_str_str, ↓is_lst_str, ↓is_tup_str, ↓is_dk_str, ↓is_non_list, ↓is_bl_list, ↓is_int_list, ↓is_str_list, ↓is_lst_list, ↓is_tup_list, ↓is_dk_list, ↓is_non_tuple, ↓is_bl_tuple, ↓is_int_tuple, ↓is_str_tuple, ↓is_lst_tuple, ↓is_tup_tuple, ↓is_dk_tuple, ↓wsNever_ap, ↓wNever_ap, ↓wFr_ap, ↓wFLst_ap, ↓wFList_ap, ↓wFAdd_ap, ↓wBM_ap, ↓wBM0_ap, ↓wDGet_ap, ↓wDGet2_ap, ↓wsDPut_ap, ↓wNewT_ap, ↓wsRetire_ap, ↓wiKeysT_ap, ↓wDcT_ap, ↓wFld_ap, ↓wsFld_ap, ↓wMake_ap, ↓wMeth_ap, ↓wDictPT_ap, ↓wTruOwn_ap, ↓wFmt_ap, ↓wFs_ap, ↓wiEnum_ap, ↓wJs_nil, ↓wJs_cons, ↓wiEnumA_ap, ↓wNotOwn_ap, ↓wMethX0_ap, ↓wMethF0_ap, ↓wsBMX_ap, ↓wLcF_ap, ↓appendD, ↓popD, ↓entT, ↓dflT, ↓inT, ↓getT, ↓isDt, ↓fldD, ↓recvD, ↓isObjD, ↓isEqR, ↓eqOwnD, ↓inOwnD, ↓lenOwnD, ↓reprOwnD, ↓blP, ↓lenP, ↓strP, ↓truP, ↓lenDt, ↓listDt, ↓tupOf, ↓DL.strOf, ↓fmtD, ↓sortedT, ↓eqDt, ↓rcv, ↓empD, ↓boolOwnD, ↓isCD, ↓isCDof, isK_tup, List.lookup_cons, Option.getD_some, Option.getD_none, Option.isSome_some, Option.isSome_none, ↓val_lastT, ↓tk_pl, ↓look_enc, ↓getD_int, ↓put_enc, ↓set_last, ↓len_enc]
            have hl2 := tput_len t (a, b) ((tget t (a, b)).getD 0 + c)
            rw [List.length_cons] at hl
            refine ⟨True.intro, True.intro, True.intro, by decide, by decide, by omega, hn _ _ ⟨⟨_, _, _, _, rfl⟩, ?_, rs, _, rfl, rfl, by omega, ht⟩⟩
            revert hsrc'
            unfold srcOk
            cases src with
            | none => exact fun _ => True.intro
            | some z => cases z; exact fun e => src_last e
        · rintro ρ S' ⟨⟨o3, o4, o5, o6, rfl⟩, hsrc', rs, t, hy, rfl, hl, ht⟩
          cases rs with
          | cons r rs => cases hy
          | nil =>
            have ht' : t = tally rows [] := ht
            subst ht'
            exact hn _ _ ⟨⟨_, _, _, _, rfl⟩, rfl⟩
      rintro _ _ ⟨⟨o3, o4, o5, o6, rfl⟩, rfl⟩
      generalize hT : tally rows [] = T at h ⊢
      have hok : TOk T := hT ▸ tok_tally rows List.nodup_nil
      have hTl : T.length < 1000000 := by
        have : ∀ (rs : List (Pl × Int)) (t : Tab), (tally rs t).length ≤ t.length + rs.length := fun rs => by
          induction rs with
          | nil => exact fun t => Nat.le_refl _
          | cons r rs ih =>
            intro t
            have h1 := ih (tput t r.1 ((tget t r.1).getD 0 + r.2))
            have h2 := tput_len t r.1 ((tget t r.1).getD 0 + r.2)
            rw [List.length_cons]
            exact Nat.le_trans h1 (by omega)
        have := this rows []
        rw [hT, List.length_nil] at this
        omega
      rw [retire_of rfl get_last, set_last]
      walk_at "dl"
      refine ⟨True.intro, ?_⟩
      rw [keys_encP]
      have ent : ∀ e ∈ T, lookT (encT T) (kP e.1) = some (.int e.2) := fun e he => by rw [look_enc, tget_mem hok he]; rfl
      refine dcW_leaves (fun c => restI c ink) T (fun e he Q q => ?_) (fun e he Q q => ?_) (fun e he Q q => ?_) T [] (fun _ h => h) hok (fun _ _ => by simp) (by simpa using hTl) ?_
      · simp only [↓wC_ap, ↓wNil_ap, ↓wCons_ap, ↓wLst_ap, ↓wTup_ap, ↓wOp_ap, ↓wB_ap, ↓wUn_ap, ↓wCB_ap, ↓wCall_ap, ↓wCallK_ap, ↓wSl_ap, ↓wPart_ap, ↓wNoPart_ap, ↓wAndT_ap, ↓wOrT_ap, ↓wNotT_ap, ↓wAndV_ap, ↓wOrV_ap, ↓wIf_ap, ↓wTru_ap, ↓wLc_ap, ↓wiSeq_ap, ↓wiRng1_ap, ↓wiRng2_ap, ↓wiZip_ap, ↓wLstRg_ap, ↓wTYes_ap, ↓wsNext_ap, ↓wsSeq_ap, ↓wsRet_ap, ↓wsRetN_ap, ↓wsRetF_ap, ↓wsDrop_ap, ↓wsIf_ap, ↓wsAsg_ap, ↓wsSet_ap, ↓wsSetF_ap, ↓wsPar_ap, ↓wsStore_ap, ↓wsFor_ap, ↓wsBreak_ap, ↓wsCont_ap, ↓wgName_ap, ↓wgNil_ap, ↓wgCons_ap, ↓wgTup_ap, ↓wVar_0, ↓wVar_s, ↓addD, ↓subD, ↓mulD, ↓modD, ↓fdivD, ↓powD, ↓negD, ↓notD, ↓eqD, ↓scalD, ↓inD, ↓isD, ↓ixD, ↓cmpD, ↓leD, ↓geD, ↓gtD, ↓ltD, ↓ordD, ↓lenD, ↓absD, ↓DL.intOfD, ↓listD, ↓allD, ↓isiD, ↓sliceD, ↓truD_non, ↓truD_bl, ↓truD_int, ↓truD_str, ↓truD_lst, ↓truD_tup, List.map_cons, List.map_nil, List.length_cons, List.length_nil, List.replicate, List.cons_append, List.nil_append, List.set_cons_zero, List.set_cons_succ, List.append_nil, List.zip_cons_cons, List.zip_nil_right, List.foldl_cons, List.foldl_nil, Nat.zero_add, Nat.add_zero, Nat.reduceAdd, Nat.reduceSub, Nat.reduceMul, if_true, if_false, Bool.false_eq_true, ite_true, ite_false, v_non, v_bl, v_int, v_str, v_ty, v_cst, v_lst, v_tup, v_dk, v_dt, v_ktp, v_obj, v_scr, startD_ap, wD_nil, wD_cons, wVar_0, wVar_s, ↓is_non_int, ↓is_bl_int, ↓is_int_int, ↓is_str_int, ↓is_lst_int, ↓is_tup_int, ↓is_dk_int, ↓is_non_bool, ↓is_bl_bool, ↓is_int_bool, ↓is_str_bool, ↓is_lst_bool, ↓is_tup_bool, ↓is_dk_bool, ↓is_non_str, ↓is_bl_str, ↓is_int_str, ↓is_str_str, ↓is_lst_str, ↓is_tup_str, ↓is_dk_str, ↓is_non_list, ↓is_bl_list, ↓is_int_list, ↓is_str_list, ↓is_lst_list, ↓is_tup_list, ↓is_dk_list, ↓is_non_tuple, ↓is_bl_tuple, ↓is_int_tuple, ↓is_str_tuple, ↓is_lst_tuple, ↓is_tup_tuple, ↓is_dk_tuple, ↓wsNever_ap, ↓wNever_ap, ↓wFr_ap, ↓wFLst_ap, ↓wFList_ap, ↓wFAdd_ap, ↓wBM_ap, ↓wBM0_ap, ↓wDGet_ap, ↓wDGet2_ap, ↓wsDPut_ap, ↓wNewT_ap, ↓wsRetire_ap, ↓wiKeysT_ap, ↓wDcT_ap, ↓wFld_ap, ↓wsFld_ap, ↓wMake_ap, ↓wMeth_ap, ↓wDictPT_ap, ↓wTruOwn_ap, ↓wFmt_ap, ↓wFs_ap, ↓wiEnum_ap, ↓wJs_nil, ↓wJs_cons, ↓wiEnumA_ap, ↓wNotOwn_ap, ↓wMethX0_ap, ↓wMethF0_ap, ↓wsBMX_ap, ↓wLcF_ap, ↓appendD, ↓popD, ↓entT, ↓dflT, ↓inT, ↓getT, ↓isDt, ↓fldD, ↓recvD, ↓isObjD, ↓isEqR, ↓eqOwnD, ↓inOwnD, ↓lenOwnD, ↓reprOwnD, ↓blP, ↓lenP, ↓strP, ↓truP, ↓lenDt, ↓listDt, ↓tupOf, ↓DL.strOf, ↓fmtD, ↓sortedT, ↓eqDt, ↓rcv, ↓empD, ↓boolOwnD, ↓isCD, ↓isCDof, isK_tup, List.lookup_cons, Option.getD_some, Option.getD_none, Option.isSome_some, Option.isSome_none, ↓tk_plD]
        rw [ent e he]
        exact h_rest _ _ _ _ ⟨hink, q⟩
      · walk_at "dl"
        exact q
      · simp only [↓wC_ap, ↓wNil_ap, ↓wCons_ap, ↓wLst_ap, ↓wTup_ap, ↓wOp_ap, ↓wB_ap, ↓wUn_ap, ↓wCB_ap, ↓wCall_ap, ↓wCallK_ap, ↓wSl_ap, ↓wPart_ap, ↓wNoPart_ap, ↓wAndT_ap, ↓wOrT_ap, ↓wNotT_ap, ↓wAndV_ap, ↓wOrV_ap, ↓wIf_ap, ↓wTru_ap, ↓wLc_ap, ↓wiSeq_ap, ↓wiRng1_ap, ↓wiRng2_ap, ↓wiZip_ap, ↓wLstRg_ap, ↓wTYes_ap, ↓wsNext_ap, ↓wsSeq_ap, ↓wsRet_ap, ↓wsRetN_ap, ↓wsRetF_ap, ↓wsDrop_ap, ↓wsIf_ap, ↓wsAsg_ap, ↓wsSet_ap, ↓wsSetF_ap, ↓wsPar_ap, ↓wsStore_ap, ↓wsFor_ap, ↓wsBreak_ap, ↓wsCont_ap, ↓wgName_ap, ↓wgNil_ap, ↓wgCons_ap, ↓wgTup_ap, ↓wVar_0, ↓wVar_s, ↓addD, ↓subD, ↓mulD, ↓modD, ↓fdivD, ↓powD, ↓negD, ↓notD, ↓eqD, ↓scalD, ↓inD, ↓isD, ↓ixD, ↓cmpD, ↓leD, ↓geD, ↓gtD, ↓ltD, ↓ordD, ↓lenD, ↓absD, ↓DL.intOfD, ↓listD, ↓allD, ↓isiD, ↓sliceD, ↓truD_non, ↓truD_bl, ↓truD_int, ↓truD_str, ↓truD_lst, ↓truD_tup, List.map_cons, List.map_nil, List.length_cons, List.length_nil, List.replicate, List.cons_append, List.nil_append, List.set_cons_zero, List.set_cons_succ, List.append_nil, List.zip_cons_cons, List.zip_nil_right, List.foldl_cons, List.foldl_nil, Nat.zero_add, Nat.add_zero, Nat.reduceAdd, Nat.reduceSub, Nat.reduceMul, if_true, if_false, Bool.false_eq_true, ite_true, ite_false, v_non, v_bl, v_int, v_str, v_ty, v_cst, v_lst, v_tup, v_dk, v_dt, v_ktp, v_obj, v_scr, startD_ap, wD_nil, wD_cons, wVar_0, wVar_s, ↓is_non_int, ↓is_bl_int, ↓is_int_int, ↓is_str_int, ↓is_lst_int, ↓is_tup_int, ↓is_dk_int, ↓is_non_bool, ↓is_bl_bool, ↓is_int_bool, ↓is_str_bool, ↓is_lst_bool, ↓is_tup_bool, ↓is_dk_bool, ↓is_non_str, ↓is_bl_str, ↓is_int_str, ↓is_str_str, ↓is_lst_str, ↓is_tup_str, ↓is_dk_str, ↓is_non_list, ↓is_bl_list, ↓is_int_list, ↓is_str_list, ↓is_lst_list, ↓is_tup_list, ↓is_dk_list, ↓is_non_tuple, ↓is_bl_tuple, ↓is_int_tuple, ↓is_str_tuple, ↓is_lst_tuple, ↓is_tup_tuple, ↓is_dk_tuple, ↓wsNever_ap, ↓wNever_ap, ↓wFr_ap, ↓wFLst_ap, ↓wFList_ap, ↓wFAdd_ap, ↓wBM_ap, ↓wBM0_ap, ↓wDGet_ap, ↓wDGet2_ap, ↓wsDPut_ap, ↓wNewT_ap, ↓wsRetire_ap, ↓wiKeysT_ap, ↓wDcT_ap, ↓wFld_ap, ↓wsFld_ap, ↓wMake_ap, ↓wMeth_ap, ↓wDictPT_ap, ↓wTruOwn_ap, ↓wFmt_ap, ↓wFs_ap, ↓wiEnum_ap, ↓wJs_nil, ↓wJs_cons, ↓wiEnumA_ap, ↓wNotOwn_ap, ↓wMethX0_ap, ↓wMethF0_ap, ↓wsBMX_ap, ↓wLcF_ap, ↓appendD, ↓popD, ↓entT, ↓dflT, ↓inT, ↓getT, ↓isDt, ↓fldD, ↓recvD, ↓isObjD, ↓isEqR, ↓eqOwnD, ↓inOwnD, ↓lenOwnD, ↓reprOwnD, ↓blP, ↓lenP, ↓strP, ↓truP, ↓lenDt, ↓listDt, ↓tupOf, ↓DL.strOf, ↓fmtD, ↓sortedT, ↓eqDt, ↓rcv, ↓empD, ↓boolOwnD, ↓isCD, ↓isCDof, isK_tup, List.lookup_cons, Option.getD_some, Option.getD_none, Option.isSome_some, Option.isSome_none, ↓tk_plD]
        rw [ent e he]
        exact h_rest _ _ _ _ ⟨hink, q⟩
      · exact rt_new hS (if_pos (lot_enc _ _)) h
    · exact h.elim
theorem cal_law_shade (B : Bn mg) (I : DefIn K mg "_law_shade" "_law_shade" s_law_shade) : Cal P w K mg base CX0 1 "_law_shade" ["_law_colour_z", "_law_ink_z"] sp_rest := by
  refine cal_def I sc_law_shade (fun _ _ _ _ _ _ us hl => match us, hl with | [_, _], _ => rfl) (fun ds S P E h => ?_) (fun f cdv A outer s H E hr => (dss_one (ds_ret (de_if (dt_eq hr.units (de_var 1 (pv 1)) de_int) (de_var 0 (pv 0)) (de_op op_mod opd_mod (de_callTy call_int1 calld_int rfl B.int bt_int (da_cons (de_var 0 (pv 0)) da_nil)) (de_var 1 (pv 1))))))) (fun ds S P E hS h => ?_)
  · unfold sp_rest at h
    split at h
    · rfl
    · exact h.elim
  · unfold sp_rest at h
    split at h
    · rename_i c ink
      walk_at "dl"
      unfold restI at h
      by_cases q : ink = 0
      · rw [if_pos (decide_eq_true q)]
        rw [if_pos q] at h
        exact rt_same rfl h.2
      · rw [if_neg (by simpa using q)]
        rw [if_neg q] at h
        exact ⟨by omega, rt_same rfl h.2⟩
    · exact h.elim
def pairD (r : Pl × Int) : D := .tup [plD r.1, .int r.2]
def sp_law_sum : DSp := fun ds S P _ => match ds with
  | [x, .int ink] => ∃ rows : List (Pl × Int), SeqD x S (rows.map pairD) ∧ rows.length < 100000 ∧ 0 ≤ ink ∧ P (.dt (encT (leaves (fun c => restI c ink) (tally rows [])))) S
  | _ => False
theorem cal_law_sum (B : Bn mg) (I : DefIn K mg "_law_sum" "_law_sum" s_law_sum) (c_law_shade : Cal P w K mg base CX0 1 "_law_shade" ["_law_colour_z", "_law_ink_z"] sp_rest) : Cal P w K mg base CX0 2 "_law_sum" ["_law_rows", "_law_ink_z"] sp_law_sum := by
  obtain ⟨sp_rest', c_law_shade, h_rest⟩ := hide c_law_shade
  refine cal_def I sc_law_sum (fun _ _ _ _ _ _ us hl => match us, hl with | [_, _], _ => rfl) (fun ds S P E h => ?_) (fun f cdv A outer s H E hr => (dss_cons (ds_setX (i := 2) sc_law_sum.nd rfl (by first | exact .inl rfl | exact .inr rfl) dx_newT)
  (dss_cons (ds_for (passes_of rfl) rfl (di_list (de_var 0 (pv 0))) (dg_tup (n := 2) rfl (dgs_cons (dg_name (pg_name (i := 3) sc_law_sum.nd rfl (by first | exact .inl rfl | exact .inr rfl))) (dgs_cons (dg_name (pg_name (i := 4) sc_law_sum.nd rfl (by first | exact .inl rfl | exact .inr rfl))) dgs_nil)))
  (dss_one (ds_dput hr.units (de_op op_addA opd_add (de_dget2 hr.units (de_var 2 (pv 2)) (de_var 3 (pv 3)) de_int) (de_var 4 (pv 4))) (de_var 2 (pv 2)) (de_var 3 (pv 3)))))
  (dss_one (ds_retire 2 (ds_ret (de_dictPT hr.units rfl B.dict (da_cons (de_lc (own := [("_law_spot", 3)]) rfl sc_law_sum.nd (di_keysT (de_var 2 (pv 2))) (blkOk_by (N := N_law_sum) (sc := defScope s_law_sum) (by decide +kernel)) (fun _ _ _ _ _ => (dg_name (pg_name (i := 3) sc_law_sum.nd rfl (by first | exact .inl rfl | exact .inr rfl)))) (fun _ _ _ _ _ => (dts_one (dt_ne hr.units (de_cal c_law_shade hr pass00 (da_cons (de_dget hr.units (de_var 2 (pv 2)) (de_var 3 (pv 3))) (da_cons (de_var 1 (pv 1)) da_nil))) de_int))) (fun _ _ _ _ _ => (de_tup (da_cons (de_var 3 (pv 3)) (da_cons (de_cal c_law_shade hr pass00 (da_cons (de_dget hr.units (de_var 2 (pv 2)) (de_var 3 (pv 3))) (da_cons (de_var 1 (pv 1)) da_nil))) da_nil))))) da_nil)))))))) (fun ds S P E hS h => ?_)
  · unfold sp_law_sum at h
    split at h
    · rfl
    · exact h.elim
  · unfold sp_law_sum at h
    split at h
    · rename_i x ink
      obtain ⟨rows, hseq, hlen, hink, h⟩ := h
      rw [startD_ap]
      refine ws_join (fun ρ' S' => ρ' = [some x, some (.int ink), some (.loc S.length), none, none] ∧ S' = S ++ [.dt (encT [])]) (fun nx hn => ?_) ?_
      · walk_at "dl"
        exact hn _ _ ⟨rfl, rfl⟩
      rintro _ _ ⟨rfl, rfl⟩
      refine ws_join (fun ρ' S' => (∃ o3 o4, ρ' = [some x, some (.int ink), some (.loc S.length), o3, o4]) ∧ S' = S ++ [.dt (encT (tally rows []))]) (fun nx hn => ?_) ?_
      · rw [wsFor_ap]
        have hseq' : SeqD x (S ++ [.dt (encT [])]) (rows.map pairD) := by
          rcases hseq with e | e | e | ⟨i, e, e2⟩
          · exact .inl e
          · exact .inr (.inl e)
          · exact .inr (.inr (.inl e))
          · exact .inr (.inr (.inr ⟨i, e, by rw [List.getElem?_append_left (lt_at e2)]; exact e2⟩))
        refine wiSeq_of (x := x) (fun Q q => q) hseq' fun src hsrc => ?_
        refine for_inv2 (fun xs ρ S' => (∃ o3 o4, ρ = [some x, some (.int ink), some (.loc S.length), o3, o4]) ∧ srcOk src (rows.map pairD) S' ∧ ∃ (rs : List (Pl × Int)) (t : Tab), xs = rs.map pairD ∧ S' = S ++ [.dt (encT t)] ∧ t.length + rs.length ≤ rows.length ∧ tally rs t = tally rows []) (fun _ _ _ h => h.2.1) ?_ ?_ _ _ _ ⟨⟨_, _, rfl⟩, hsrc, rows, [], rfl, rfl, by simp, rfl⟩
        · rintro y ys ρ S' ⟨⟨o3, o4, rfl⟩, hsrc', rs, t, hy, rfl, hl, ht⟩ nx hn
          cases rs with
          | nil => cases hy
          | cons r rs =>
            injection hy with e1 e2
            subst e1 e2
            obtain ⟨p, c⟩ := r
            unfold pairD
            simp only [↓wC_ap, ↓wNil_ap, ↓wCons_ap, ↓wLst_ap, ↓wTup_ap, ↓wOp_ap, ↓wB_ap, ↓wUn_ap, ↓wCB_ap, ↓wCall_ap, ↓wCallK_ap, ↓wSl_ap, ↓wPart_ap, ↓wNoPart_ap, ↓wAndT_ap, ↓wOrT_ap, ↓wNotT_ap, ↓wAndV_ap, ↓wOrV_ap, ↓wIf_ap, ↓wTru_ap, ↓wLc_ap, ↓wiSeq_ap, ↓wiRng1_ap, ↓wiRng2_ap, ↓wiZip_ap, ↓wLstRg_ap, ↓wTYes_ap, ↓wsNext_ap, ↓wsSeq_ap, ↓wsRet_ap, ↓wsRetN_ap, ↓wsRetF_ap, ↓wsDrop_ap, ↓wsIf_ap, ↓wsAsg_ap, ↓wsSet_ap, ↓wsSetF_ap, ↓wsPar_ap, ↓wsStore_ap, ↓wsFor_ap, ↓wsBreak_ap, ↓wsCont_ap, ↓wgName_ap, ↓wgNil_ap, ↓wgCons_ap, ↓wgTup_ap, ↓wVar_0, ↓wVar_s, ↓addD, ↓subD, ↓mulD, ↓modD, ↓fdivD, ↓powD, ↓negD, ↓notD, ↓eqD, ↓scalD, ↓inD, ↓isD, ↓ixD, ↓cmpD, ↓leD, ↓geD, ↓gtD, ↓ltD, ↓ordD, ↓lenD, ↓absD, ↓DL.intOfD, ↓listD, ↓allD, ↓isiD, ↓sliceD, ↓truD_non, ↓truD_bl, ↓truD_int, ↓truD_str, ↓truD_lst, ↓truD_tup, List.map_cons, List.map_nil, List.length_cons, List.length_nil, List.replicate, List.cons_append, List.nil_append, List.set_cons_zero, List.set_cons_succ, List.append_nil, List.zip_cons_cons, List.zip_nil_right, List.foldl_cons, List.foldl_nil, Nat.zero_add, Nat.add_zero, Nat.reduceAdd, Nat.reduceSub, Nat.reduceMul, if_true, if_false, Bool.false_eq_true, ite_true, ite_false, v_non, v_bl, v_int, v_str, v_ty, v_cst, v_lst, v_tup, v_dk, v_dt, v_ktp, v_obj, v_scr, startD_ap, wD_nil, wD_cons, wVar_0, wVar_s, ↓is_non_int, ↓is_bl_int, ↓is_int_int, ↓is_str_int, ↓is_lst_int, ↓is_tup_int, ↓is_dk_int, ↓is_non_bool, ↓is_bl_bool, ↓is_int_bool, ↓is_str_bool, ↓is_lst_bool, ↓is_tup_bool, ↓is_dk_bool, ↓is_non_str, ↓is_bl_str, ↓is_int_str, ↓is_str_str, ↓is_lst_str, ↓is_tup_str, ↓is_dk_str, ↓is_non_list, ↓is_bl_list, ↓is_int_list, ↓is_str_list, ↓is_lst_list, ↓is_tup_list, ↓is_dk_list, ↓is_non_tuple, ↓is_bl_tuple, ↓is_int_tuple, ↓is_str_tuple, ↓is_lst_tuple, ↓is_tup_tuple, ↓is_dk_tuple, ↓wsNever_ap, ↓wNever_ap, ↓wFr_ap, ↓wFLst_ap, ↓wFList_ap, ↓wFAdd_ap, ↓wBM_ap, ↓wBM0_ap, ↓wDGet_ap, ↓wDGet2_ap, ↓wsDPut_ap, ↓wNewT_ap, ↓wsRetire_ap, ↓wiKeysT_ap, ↓wDcT_ap, ↓wFld_ap, ↓wsFld_ap, ↓wMake_ap, ↓wMeth_ap, ↓wDictPT_ap, ↓wTruOwn_ap, ↓wFmt_ap, ↓wFs_ap, ↓wiEnum_ap, ↓wJs_nil, ↓wJs_cons, ↓wiEnumA_ap, ↓wNotOwn_ap, ↓wMethX0_ap, ↓wMethF0_ap, ↓wsBMX_ap, ↓wLcF_ap, ↓appendD, ↓popD, ↓entT, ↓dflT, ↓inT, ↓getT, ↓isDt, ↓fldD, ↓recvD, ↓isObjD, ↓isEqR, ↓eqOwnD, ↓inOwnD, ↓lenOwnD, ↓reprOwnD, ↓blP, ↓lenP, ↓strP, ↓truP, ↓lenDt, ↓listDt, ↓tupOf, ↓DL.strOf, ↓fmtD, ↓sortedT, ↓eqDt, ↓rcv, ↓empD, ↓boolOwnD, ↓isCD, ↓isCDof, isK_tup, List.lookup_cons, Option.getD_some, Option.getD_none, Option.isSome_some, Option.isSome_none, ↓val_lastT, ↓tk_plD, ↓look_enc, ↓getD_int, ↓put_enc, ↓set_last, ↓len_enc]
            have hl2 := tput_len t p ((tget t p).getD 0 + c)
            rw [List.length_cons] at hl
            refine ⟨True.intro, True.intro, True.intro, by omega, hn _ _ ⟨⟨_, _, rfl⟩, ?_, rs, _, rfl, rfl, by omega, ht⟩⟩
            revert hsrc'
            unfold srcOk
            cases src with
            | none => exact fun _ => True.intro
            | some z => cases z; exact fun e => src_last e
        · rintro ρ S' ⟨⟨o3, o4, rfl⟩, hsrc', rs, t, hy, rfl, hl, ht⟩
          cases rs with
          | cons r rs => cases hy
          | nil =>
            have ht' : t = tally rows [] := ht
            subst ht'
            exact hn _ _ ⟨⟨_, _, rfl⟩, rfl⟩
      rintro _ _ ⟨⟨o3, o4, rfl⟩, rfl⟩
      have hTl : (tally rows []).length < 1000000 := by
        have := tally_len rows []
        rw [List.length_nil] at this
        omega
      have hok : TOk (tally rows []) := tok_tally rows List.nodup_nil
      generalize tally rows [] = T at h hok hTl ⊢
      rw [retire_of rfl get_last, set_last]
      walk_at "dl"
      refine ⟨True.intro, ?_⟩
      rw [keys_encP]
      have ent : ∀ e ∈ T, lookT (encT T) (kP e.1) = some (.int e.2) := fun e he => by rw [look_enc, tget_mem hok he]; rfl
      refine lcW_filt (fun e => plD e.1) (fun e => .tup [plD e.1, .int (restI e.2 ink)]) (fun e => !decide (restI e.2 ink = 0)) T (fun e he Q q => ?_) (fun e he Q q => ?_) T [] (fun _ h => h) (by rw [List.length_nil]; omega) ?_
      · simp only [↓wC_ap, ↓wNil_ap, ↓wCons_ap, ↓wLst_ap, ↓wTup_ap, ↓wOp_ap, ↓wB_ap, ↓wUn_ap, ↓wCB_ap, ↓wCall_ap, ↓wCallK_ap, ↓wSl_ap, ↓wPart_ap, ↓wNoPart_ap, ↓wAndT_ap, ↓wOrT_ap, ↓wNotT_ap, ↓wAndV_ap, ↓wOrV_ap, ↓wIf_ap, ↓wTru_ap, ↓wLc_ap, ↓wiSeq_ap, ↓wiRng1_ap, ↓wiRng2_ap, ↓wiZip_ap, ↓wLstRg_ap, ↓wTYes_ap, ↓wsNext_ap, ↓wsSeq_ap, ↓wsRet_ap, ↓wsRetN_ap, ↓wsRetF_ap, ↓wsDrop_ap, ↓wsIf_ap, ↓wsAsg_ap, ↓wsSet_ap, ↓wsSetF_ap, ↓wsPar_ap, ↓wsStore_ap, ↓wsFor_ap, ↓wsBreak_ap, ↓wsCont_ap, ↓wgName_ap, ↓wgNil_ap, ↓wgCons_ap, ↓wgTup_ap, ↓wVar_0, ↓wVar_s, ↓addD, ↓subD, ↓mulD, ↓modD, ↓fdivD, ↓powD, ↓negD, ↓notD, ↓eqD, ↓scalD, ↓inD, ↓isD, ↓ixD, ↓cmpD, ↓leD, ↓geD, ↓gtD, ↓ltD, ↓ordD, ↓lenD, ↓absD, ↓DL.intOfD, ↓listD, ↓allD, ↓isiD, ↓sliceD, ↓truD_non, ↓truD_bl, ↓truD_int, ↓truD_str, ↓truD_lst, ↓truD_tup, List.map_cons, List.map_nil, List.length_cons, List.length_nil, List.replicate, List.cons_append, List.nil_append, List.set_cons_zero, List.set_cons_succ, List.append_nil, List.zip_cons_cons, List.zip_nil_right, List.foldl_cons, List.foldl_nil, Nat.zero_add, Nat.add_zero, Nat.reduceAdd, Nat.reduceSub, Nat.reduceMul, if_true, if_false, Bool.false_eq_true, ite_true, ite_false, v_non, v_bl, v_int, v_str, v_ty, v_cst, v_lst, v_tup, v_dk, v_dt, v_ktp, v_obj, v_scr, startD_ap, wD_nil, wD_cons, wVar_0, wVar_s, ↓is_non_int, ↓is_bl_int, ↓is_int_int, ↓is_str_int, ↓is_lst_int, ↓is_tup_int, ↓is_dk_int, ↓is_non_bool, ↓is_bl_bool, ↓is_int_bool, ↓is_str_bool, ↓is_lst_bool, ↓is_tup_bool, ↓is_dk_bool, ↓is_non_str, ↓is_bl_str, ↓is_int_str, ↓is_str_str, ↓is_lst_str, ↓is_tup_str, ↓is_dk_str, ↓is_non_list, ↓is_bl_list, ↓is_int_list, ↓is_str_list, ↓is_lst_list, ↓is_tup_list, ↓is_dk_list, ↓is_non_tuple, ↓is_bl_tuple, ↓is_int_tuple, ↓is_str_tuple, ↓is_lst_tuple, ↓is_tup_tuple, ↓is_dk_tuple, ↓wsNever_ap, ↓wNever_ap, ↓wFr_ap, ↓wFLst_ap, ↓wFList_ap, ↓wFAdd_ap, ↓wBM_ap, ↓wBM0_ap, ↓wDGet_ap, ↓wDGet2_ap, ↓wsDPut_ap, ↓wNewT_ap, ↓wsRetire_ap, ↓wiKeysT_ap, ↓wDcT_ap, ↓wFld_ap, ↓wsFld_ap, ↓wMake_ap, ↓wMeth_ap, ↓wDictPT_ap, ↓wTruOwn_ap, ↓wFmt_ap, ↓wFs_ap, ↓wiEnum_ap, ↓wJs_nil, ↓wJs_cons, ↓wiEnumA_ap, ↓wNotOwn_ap, ↓wMethX0_ap, ↓wMethF0_ap, ↓wsBMX_ap, ↓wLcF_ap, ↓appendD, ↓popD, ↓entT, ↓dflT, ↓inT, ↓getT, ↓isDt, ↓fldD, ↓recvD, ↓isObjD, ↓isEqR, ↓eqOwnD, ↓inOwnD, ↓lenOwnD, ↓reprOwnD, ↓blP, ↓lenP, ↓strP, ↓truP, ↓lenDt, ↓listDt, ↓tupOf, ↓DL.strOf, ↓fmtD, ↓sortedT, ↓eqDt, ↓rcv, ↓empD, ↓boolOwnD, ↓isCD, ↓isCDof, isK_tup, List.lookup_cons, Option.getD_some, Option.getD_none, Option.isSome_some, Option.isSome_none, ↓tk_plD]
        rw [ent e he]
        exact h_rest _ _ _ _ ⟨hink, q⟩
      · simp only [↓wC_ap, ↓wNil_ap, ↓wCons_ap, ↓wLst_ap, ↓wTup_ap, ↓wOp_ap, ↓wB_ap, ↓wUn_ap, ↓wCB_ap, ↓wCall_ap, ↓wCallK_ap, ↓wSl_ap, ↓wPart_ap, ↓wNoPart_ap, ↓wAndT_ap, ↓wOrT_ap, ↓wNotT_ap, ↓wAndV_ap, ↓wOrV_ap, ↓wIf_ap, ↓wTru_ap, ↓wLc_ap, ↓wiSeq_ap, ↓wiRng1_ap, ↓wiRng2_ap, ↓wiZip_ap, ↓wLstRg_ap, ↓wTYes_ap, ↓wsNext_ap, ↓wsSeq_ap, ↓wsRet_ap, ↓wsRetN_ap, ↓wsRetF_ap, ↓wsDrop_ap, ↓wsIf_ap, ↓wsAsg_ap, ↓wsSet_ap, ↓wsSetF_ap, ↓wsPar_ap, ↓wsStore_ap, ↓wsFor_ap, ↓wsBreak_ap, ↓wsCont_ap, ↓wgName_ap, ↓wgNil_ap, ↓wgCons_ap, ↓wgTup_ap, ↓wVar_0, ↓wVar_s, ↓addD, ↓subD, ↓mulD, ↓modD, ↓fdivD, ↓powD, ↓negD, ↓notD, ↓eqD, ↓scalD, ↓inD, ↓isD, ↓ixD, ↓cmpD, ↓leD, ↓geD, ↓gtD, ↓ltD, ↓ordD, ↓lenD, ↓absD, ↓DL.intOfD, ↓listD, ↓allD, ↓isiD, ↓sliceD, ↓truD_non, ↓truD_bl, ↓truD_int, ↓truD_str, ↓truD_lst, ↓truD_tup, List.map_cons, List.map_nil, List.length_cons, List.length_nil, List.replicate, List.cons_append, List.nil_append, List.set_cons_zero, List.set_cons_succ, List.append_nil, List.zip_cons_cons, List.zip_nil_right, List.foldl_cons, List.foldl_nil, Nat.zero_add, Nat.add_zero, Nat.reduceAdd, Nat.reduceSub, Nat.reduceMul, if_true, if_false, Bool.false_eq_true, ite_true, ite_false, v_non, v_bl, v_int, v_str, v_ty, v_cst, v_lst, v_tup, v_dk, v_dt, v_ktp, v_obj, v_scr, startD_ap, wD_nil, wD_cons, wVar_0, wVar_s, ↓is_non_int, ↓is_bl_int, ↓is_int_int, ↓is_str_int, ↓is_lst_int, ↓is_tup_int, ↓is_dk_int, ↓is_non_bool, ↓is_bl_bool, ↓is_int_bool, ↓is_str_bool, ↓is_lst_bool, ↓is_tup_bool, ↓is_dk_bool, ↓is_non_str, ↓is_bl_str, ↓is_int_str, ↓is_str_str, ↓is_lst_str, ↓is_tup_str, ↓is_dk_str, ↓is_non_list, ↓is_bl_list, ↓is_int_list, ↓is_str_list, ↓is_lst_list, ↓is_tup_list, ↓is_dk_list, ↓is_non_tuple, ↓is_bl_tuple, ↓is_int_tuple, ↓is_str_tuple, ↓is_lst_tuple, ↓is_tup_tuple, ↓is_dk_tuple, ↓wsNever_ap, ↓wNever_ap, ↓wFr_ap, ↓wFLst_ap, ↓wFList_ap, ↓wFAdd_ap, ↓wBM_ap, ↓wBM0_ap, ↓wDGet_ap, ↓wDGet2_ap, ↓wsDPut_ap, ↓wNewT_ap, ↓wsRetire_ap, ↓wiKeysT_ap, ↓wDcT_ap, ↓wFld_ap, ↓wsFld_ap, ↓wMake_ap, ↓wMeth_ap, ↓wDictPT_ap, ↓wTruOwn_ap, ↓wFmt_ap, ↓wFs_ap, ↓wiEnum_ap, ↓wJs_nil, ↓wJs_cons, ↓wiEnumA_ap, ↓wNotOwn_ap, ↓wMethX0_ap, ↓wMethF0_ap, ↓wsBMX_ap, ↓wLcF_ap, ↓appendD, ↓popD, ↓entT, ↓dflT, ↓inT, ↓getT, ↓isDt, ↓fldD, ↓recvD, ↓isObjD, ↓isEqR, ↓eqOwnD, ↓inOwnD, ↓lenOwnD, ↓reprOwnD, ↓blP, ↓lenP, ↓strP, ↓truP, ↓lenDt, ↓listDt, ↓tupOf, ↓DL.strOf, ↓fmtD, ↓sortedT, ↓eqDt, ↓rcv, ↓empD, ↓boolOwnD, ↓isCD, ↓isCDof, isK_tup, List.lookup_cons, Option.getD_some, Option.getD_none, Option.isSome_some, Option.isSome_none, ↓tk_plD]
        rw [ent e he]
        exact h_rest _ _ _ _ ⟨hink, by decide, q⟩
      · have e1 := pairs_leaves (fun c => restI c ink) T
        have e2 := putAll_enc (leaves (fun c => restI c ink) T) [] (tok_leaves hok) (fun _ _ => by simp)
        have e3 : putAllT (encT (leaves (fun c => restI c ink) T)) [] = encT (leaves (fun c => restI c ink) T) := e2
        rw [List.nil_append]
        rw [e1]
        show (endsOf S.length P E).rt (.dt (putAllT (encT (leaves (fun c => restI c ink) T)) [])) (S ++ [.non])
        rw [e3]
        exact rt_new hS (if_pos (lot_enc _ _)) h
    · exact h.elim
def sp_law_ink : DSp := fun ds S P _ => match ds with
  | [.loc i] => ∃ b, S[i]? = some (.lst b) ∧ BagOk b ∧ ∀ z b', isInk (.int z) = true → 0 ≤ z → BagOk b' → P (.int z) (S.set i (.lst b'))
  | _ => False
def sp_primes : DSp := fun ds S P _ => match ds with
  | [] => P (.lst primes) S
  | _ => False
theorem cal_primes (I : DefIn K mg "_law_primes" "_law_primes" s_law_primes) : Cal P w K mg base CX0 1 "_law_primes" [] sp_primes := by
  refine cal_def I sc_law_primes (fun _ _ _ _ _ _ us hl => match us, hl with | [], _ => rfl) (fun ds S P E h => ?_) (fun f cdv A outer s H E hr => (dss_one (ds_ret (de_lst (da_cons de_int (da_cons de_int (da_cons de_int (da_cons de_int (da_cons de_int (da_cons de_int (da_cons de_int (da_cons de_int (da_cons de_int (da_cons de_int (da_cons de_int (da_cons de_int (da_cons de_int (da_cons de_int (da_cons de_int (da_cons de_int (da_cons de_int (da_cons de_int (da_cons de_int (da_cons de_int (da_cons de_int (da_cons de_int (da_cons de_int (da_cons de_int (da_cons de_int da_nil))))))))))))))))))))))))))))) (fun ds S P E hS h => ?_)
  · unfold sp_primes at h
    split at h
    · rfl
    · exact h.elim
  · unfold sp_primes at h
    split at h
    · walk_at "dl"
      exact ⟨by decide, rt_same rfl h⟩
    · exact h.elim
def goodInk : D → Bool
  | .int z => isInk (.int z) && decide (0 ≤ z)
  | _ => false
theorem primes_good : primes.all goodInk = true := by decide +kernel
theorem cal_law_ink (B : Bn mg) (I : DefIn K mg "_law_ink" "_law_ink" s_law_ink) (c_law_of : Cal P w K mg base CX0 2 "_law_of" ["_law_bag_here", "_law_some"] sp_of) (c_law_primes : Cal P w K mg base CX0 1 "_law_primes" [] sp_primes) : Cal P w K mg base CX0 3 "_law_ink" ["_law_bag_here"] sp_law_ink := by
  obtain ⟨sp_of', c_law_of, h_of⟩ := hide c_law_of
  obtain ⟨sp_pr', c_law_primes, h_pr⟩ := hide c_law_primes
  refine cal_def I sc_law_ink (fun _ _ _ _ _ _ us hl => match us, hl with | [_], _ => rfl) (fun ds S P E h => ?_) (fun f cdv A outer s H E hr => (dss_one (ds_ret (de_cal c_law_of hr pass00 (da_cons (de_var 0 (pv 0)) (da_cons (de_lst (da_cons de_int (da_cons de_int (da_cons de_int (da_cons de_int (da_cons de_int (da_cons (de_cal c_law_of hr pass00 (da_cons (de_var 0 (pv 0)) (da_cons (de_cal0 c_law_primes hr pass00) da_nil))) da_nil))))))) da_nil)))))) (fun ds S P E hS h => ?_)
  · unfold sp_law_ink at h
    split at h
    · rfl
    · exact h.elim
  · unfold sp_law_ink at h
    split at h
    · rename_i i
      obtain ⟨b, hb, ok, h⟩ := h
      walk_at "dl"
      refine h_pr _ _ _ _ ?_
      show sp_of' [.loc i, .lst primes] S _ _
      refine h_of _ _ _ _ ⟨b, hb, ok, by decide, by decide, fun y b1 hy ok1 => ?_⟩
      walk_at "dl"
      refine ⟨by decide, h_of _ _ _ _ ⟨b1, get_set hb, ok1, by simp, by simp, fun z b2 hz ok2 => ?_⟩⟩
      rw [set_set]
      refine rt_same (by simp) ?_
      have good : ∀ {q : D}, goodInk q = true → P q (S.set i (.lst b2)) := fun {q} hq => by
        cases q with
        | int n =>
          have := and_tt hq
          exact h n b2 this.1 (of_decide_eq_true this.2) ok2
        | _ => cases hq
      rcases List.mem_cons.mp hz with e | hz
      · subst e; exact good (by decide +kernel)
      rcases List.mem_cons.mp hz with e | hz
      · subst e; exact good (by decide +kernel)
      rcases List.mem_cons.mp hz with e | hz
      · subst e; exact good (by decide +kernel)
      rcases List.mem_cons.mp hz with e | hz
      · subst e; exact good (by decide +kernel)
      rcases List.mem_cons.mp hz with e | hz
      · subst e; exact good (by decide +kernel)
      rcases List.mem_cons.mp hz with e | hz
      · subst e; exact good (List.all_eq_true.mp primes_good _ hy)
      · cases hz
    · exact h.elim
end
end LW
set_option maxRecDepth 100000
set_option maxHeartbeats 4000000
namespace LW
open PySem PySem.Spec PyProof.Rows L2 DL
abbrev N_Marks_init : List Str := ["self", "rows", "ink"]
theorem sc_Marks_init : FnScope N_Marks_init ["self", "rows", "ink"] (defScope s_Marks_init) := ⟨rfl, rfl, rfl, by decide +kernel, rfl, by decide +kernel, by decide +kernel⟩
abbrev N_Marks_rows : List Str := ["self", "place"]
theorem sc_Marks_rows : FnScope N_Marks_rows ["self"] (defScope s_Marks_rows) := ⟨rfl, rfl, rfl, by decide +kernel, rfl, by decide +kernel, by decide +kernel⟩
abbrev N_Marks_loose : List Str := ["self", "place"]
theorem sc_Marks_loose : FnScope N_Marks_loose ["self"] (defScope s_Marks_loose) := ⟨rfl, rfl, rfl, by decide +kernel, rfl, by decide +kernel, by decide +kernel⟩
abbrev N_Marks_colour : List Str := ["self", "x", "y"]
theorem sc_Marks_colour : FnScope N_Marks_colour ["self", "x", "y"] (defScope s_Marks_colour) := ⟨rfl, rfl, rfl, by decide +kernel, rfl, by decide +kernel, by decide +kernel⟩
abbrev N_Marks_moved : List Str := ["self", "x", "y"]
theorem sc_Marks_moved : FnScope N_Marks_moved ["self", "x", "y"] (defScope s_Marks_moved) := ⟨rfl, rfl, rfl, by decide +kernel, rfl, by decide +kernel, by decide +kernel⟩
abbrev N_Marks_scaled : List Str := ["self", "number"]
theorem sc_Marks_scaled : FnScope N_Marks_scaled ["self", "number"] (defScope s_Marks_scaled) := ⟨rfl, rfl, rfl, by decide +kernel, rfl, by decide +kernel, by decide +kernel⟩
abbrev N_Marks_first : List Str := ["self", "order", "last", "places", "place"]
theorem sc_Marks_first : FnScope N_Marks_first ["self", "order", "last"] (defScope s_Marks_first) := ⟨rfl, rfl, rfl, by decide +kernel, rfl, by decide +kernel, by decide +kernel⟩
abbrev N_Marks_need_like : List Str := ["self", "other"]
theorem sc_Marks_need_like : FnScope N_Marks_need_like ["self", "other"] (defScope s_Marks_need_like) := ⟨rfl, rfl, rfl, by decide +kernel, rfl, by decide +kernel, by decide +kernel⟩
abbrev N_Marks_add : List Str := ["self", "other"]
theorem sc_Marks_add : FnScope N_Marks_add ["self", "other"] (defScope s_Marks_add) := ⟨rfl, rfl, rfl, by decide +kernel, rfl, by decide +kernel, by decide +kernel⟩
abbrev N_Marks_sub : List Str := ["self", "other", "x", "y", "colour"]
theorem sc_Marks_sub : FnScope N_Marks_sub ["self", "other"] (defScope s_Marks_sub) := ⟨rfl, rfl, rfl, by decide +kernel, rfl, by decide +kernel, by decide +kernel⟩
abbrev N_Marks_neg : List Str := ["self", "x", "y", "colour"]
theorem sc_Marks_neg : FnScope N_Marks_neg ["self"] (defScope s_Marks_neg) := ⟨rfl, rfl, rfl, by decide +kernel, rfl, by decide +kernel, by decide +kernel⟩
abbrev N_Marks_mul : List Str := ["self", "other", "x", "y", "one", "a", "b", "two"]
theorem sc_Marks_mul : FnScope N_Marks_mul ["self", "other"] (defScope s_Marks_mul) := ⟨rfl, rfl, rfl, by decide +kernel, rfl, by decide +kernel, by decide +kernel⟩
abbrev N_Marks_contains : List Str := ["self", "value"]
theorem sc_Marks_contains : FnScope N_Marks_contains ["self", "value"] (defScope s_Marks_contains) := ⟨rfl, rfl, rfl, by decide +kernel, rfl, by decide +kernel, by decide +kernel⟩
abbrev N_Marks_eq : List Str := ["self", "other"]
theorem sc_Marks_eq : FnScope N_Marks_eq ["self", "other"] (defScope s_Marks_eq) := ⟨rfl, rfl, rfl, by decide +kernel, rfl, by decide +kernel, by decide +kernel⟩
abbrev N_Marks_len : List Str := ["self"]
theorem sc_Marks_len : FnScope N_Marks_len ["self"] (defScope s_Marks_len) := ⟨rfl, rfl, rfl, by decide +kernel, rfl, by decide +kernel, by decide +kernel⟩
abbrev N_Marks_bool : List Str := ["self"]
theorem sc_Marks_bool : FnScope N_Marks_bool ["self"] (defScope s_Marks_bool) := ⟨rfl, rfl, rfl, by decide +kernel, rfl, by decide +kernel, by decide +kernel⟩
abbrev N_Marks_repr : List Str := ["self"]
theorem sc_Marks_repr : FnScope N_Marks_repr ["self"] (defScope s_Marks_repr) := ⟨rfl, rfl, rfl, by decide +kernel, rfl, by decide +kernel, by decide +kernel⟩
local macro_rules | `(tactic| walk_at "dl") => `(tactic| simp only [↓wC_ap, ↓wNil_ap, ↓wCons_ap, ↓wLst_ap, ↓wTup_ap, ↓wOp_ap, ↓wB_ap, ↓wUn_ap, ↓wCB_ap, ↓wCall_ap, ↓wCallK_ap, ↓wSl_ap, ↓wPart_ap, ↓wNoPart_ap, ↓wAndT_ap, ↓wOrT_ap, ↓wNotT_ap, ↓wAndV_ap, ↓wOrV_ap, ↓wIf_ap, ↓wTru_ap, ↓wLc_ap, ↓wiSeq_ap, ↓wiRng1_ap, ↓wiRng2_ap, ↓wiZip_ap, ↓wLstRg_ap, ↓wTYes_ap, ↓wsNext_ap, ↓wsSeq_ap, ↓wsRet_ap, ↓wsRetN_ap, ↓wsRetF_ap, ↓wsDrop_ap, ↓wsIf_ap, ↓wsAsg_ap, ↓wsSet_ap, ↓wsSetF_ap, ↓wsPar_ap, ↓wsStore_ap, ↓wsFor_ap, ↓wsBreak_ap, ↓wsCont_ap, ↓wgName_ap, ↓wgNil_ap, ↓wgCons_ap, ↓wgTup_ap, ↓wVar_0, ↓wVar_s, ↓addD, ↓subD, ↓mulD, ↓modD, ↓fdivD, ↓powD, ↓negD, ↓notD, ↓eqD, ↓scalD, ↓inD, ↓isD, ↓ixD, ↓cmpD, ↓leD, ↓geD, ↓gtD, ↓ltD, ↓ordD, ↓lenD, ↓absD, ↓DL.intOfD, ↓listD, ↓allD, ↓isiD, ↓sliceD, ↓truD_non, ↓truD_bl, ↓truD_int, ↓truD_str, ↓truD_lst, ↓truD_tup, List.map_cons, List.map_nil, List.length_cons, List.length_nil, List.replicate, List.cons_append, List.nil_append, List.set_cons_zero, List.set_cons_succ, List.append_nil, List.zip_cons_cons, List.zip_nil_right, List.foldl_cons, List.foldl_nil, Nat.zero_add, Nat.add_zero, Nat.reduceAdd, Nat.reduceSub, Nat.reduceMul, if_true, if_false, Bool.false_eq_true, ite_true, ite_false, v_non, v_bl, v_int, v_str, v_ty, v_cst, v_lst, v_tup, v_dk, v_dt, v_ktp, v_obj, v_scr, startD_ap, wD_nil, wD_cons, wVar_0, wVar_s, ↓is_non_int, ↓is_bl_int, ↓is_int_int, ↓is_str_int, ↓is_lst_int, ↓is_tup_int, ↓is_dk_int, ↓is_non_bool, ↓is_bl_bool, ↓is_int_bool, ↓is_str_bool, ↓is_lst_bool, ↓is_tup_bool, ↓is_dk_bool, ↓is_non_str, ↓is_bl_str, ↓is_int_str, ↓is_str_str, ↓is_lst_str, ↓is_tup_str, ↓is_dk_str, ↓is_non_list, ↓is_bl_list, ↓is_int_list, ↓is_str_list, ↓is_lst_list, ↓is_tup_list, ↓is_dk_list, ↓is_non_tuple, ↓is_bl_tuple, ↓is_int_tuple, ↓is_str_tuple, ↓is_lst_tuple, ↓is_tup_tuple, ↓is_dk_tuple, ↓wsNever_ap, ↓wNever_ap, ↓wFr_ap, ↓wFLst_ap, ↓wFList_ap, ↓wFAdd_ap, ↓wBM_ap, ↓wBM0_ap, ↓wDGet_ap, ↓wDGet2_ap, ↓wsDPut_ap, ↓wNewT_ap, ↓wsRetire_ap, ↓wiKeysT_ap, ↓wDcT_ap, ↓wFld_ap, ↓wsFld_ap, ↓wMake_ap, ↓wMeth_ap, ↓wDictPT_ap, ↓wTruOwn_ap, ↓wFmt_ap, ↓wFs_ap, ↓wiEnum_ap, ↓wJs_nil, ↓wJs_cons, ↓wiEnumA_ap, ↓wNotOwn_ap, ↓wMethX0_ap, ↓wMethF0_ap, ↓wsBMX_ap, ↓wLcF_ap, ↓appendD, ↓popD, ↓entT, ↓dflT, ↓inT, ↓getT, ↓isDt, ↓fldD, ↓recvD, ↓isObjD, ↓isEqR, ↓eqOwnD, ↓inOwnD, ↓lenOwnD, ↓reprOwnD, ↓blP, ↓lenP, ↓strP, ↓truP, ↓lenDt, ↓listDt, ↓tupOf, ↓DL.strOf, ↓fmtD, ↓sortedT, ↓eqDt, ↓rcv, ↓empD, ↓boolOwnD, ↓isCD, ↓isCDof, isK_tup, List.lookup_cons, Option.getD_some, Option.getD_none, Option.isSome_some, Option.isSome_none])
section
variable {P : Program} {w : World} {K : PySem.W.Frag} {mg : Str → Option Value} {base : Heap} {C : Addr}
theorem set_self {S : Sto} {i : Nat} {d : D} (h : S[i]? = some d) : S.set i d = S := by
  obtain ⟨h1, rfl⟩ := List.getElem?_eq_some_iff.mp h
  exact List.set_getElem_self h1
theorem los_all {n : Nat} : ∀ {ds : List D}, los n ds = ds.all (lo n)
  | [] => rfl
  | d :: ds => by rw [List.all_cons, ← los_all]; rfl
theorem los_int {n : Nat} {zs : List Int} : los n (zs.map D.int) = true := by
  rw [los_all, List.all_map]
  exact List.all_eq_true.mpr fun _ _ => rfl
theorem bag_lo {n : Nat} {b : List D} (h : BagOk b) : lo n (.lst b) = true := by
  obtain ⟨cells, t, r, m, d, rfl, _⟩ := h
  show (los n (cells.map D.int) && true) = true
  rw [los_int]; rfl
theorem all_set {S : Sto} {p : D → Bool} {i : Nat} {d : D} (hS : S.all p = true) (hd : p d = true) : (S.set i d).all p = true := List.all_eq_true.mpr fun x hx => by
  rcases List.mem_or_eq_of_mem_set hx with h | h
  · exact List.all_eq_true.mp hS x h
  · rw [h]; exact hd
theorem rt_new' {S S' T : Sto} {P : DK} {E : Ex} {d e : D} (hS : S'.all (lo S.length) = true) (hl : S'.length = S.length) (hd : thw S.length (S' ++ T) d = some e) (h : P e S') : (endsOf S.length P E).rt d (S' ++ T) := by
  rw [← hl] at hS hd ⊢
  have e : (S' ++ T).take S'.length = S' := List.take_left
  exact .inr ⟨_, hd, by rw [e]; exact hS, by rw [e]; exact h⟩
theorem erase_perm {α : Type} : ∀ {l : List α} {n : Nat} (h : n < l.length), ([l[n]] ++ l.eraseIdx n).Perm l
  | a :: l, 0, h => .refl _
  | a :: l, n + 1, h => (List.Perm.swap a _ _).trans (.cons a (erase_perm (l := l) (n := n) (Nat.lt_of_succ_lt_succ h)))
def marksD (C : Addr) (ink : Int) (T : Tab) : D := .obj C [("ink", .int ink), ("table", .dt (encT T))]
theorem lk_ink {a b : D} : List.lookup ("ink" : Str) [("ink", a), ("table", b)] = some a := rfl
theorem lk_table {a b : D} : List.lookup ("table" : Str) [("ink", a), ("table", b)] = some b := rfl
theorem val_o {S : Sto} {i : Nat} {C : Addr} {fs : FD} (h : S[i]? = some (.obj C fs)) : val S (.loc i) = .obj C fs := by
  show cont (S.getD i .non) (.loc i) = _
  rw [List.getD_eq_getElem?_getD, h]
  rfl
theorem seqD_set {x : D} {S : Sto} {l : List D} {i : Nat} {C : Addr} {fs : FD} {d : D} (h : SeqD x S l) (hi : S[i]? = some (.obj C fs)) : SeqD x (S.set i d) l := by
  rcases h with e | e | e | ⟨j, e, e2⟩
  · exact .inl e
  · exact .inr (.inl e)
  · exact .inr (.inr (.inl e))
  · refine .inr (.inr (.inr ⟨j, e, ?_⟩))
    rw [List.getElem?_set_ne (fun q => by rw [q, e2] at hi; cases hi)]
    exact e2
def sp_need_rows : DSp := fun ds S P _ => match ds with
  | [x] => ∃ rows : List (Pl × Int), SeqD x S (rows.map rowD) ∧ rows.length < 100000 ∧ P .non S
  | _ => False
theorem cal_need_rows (B : Bn mg) (I : DefIn K mg "need_rows" "need_rows" s_need_rows) (c_is_number : Cal P w K mg base CX0 1 "is_number" ["value"] sp_is_number) : Cal P w K mg base CX0 2 "need_rows" ["rows"] sp_need_rows := by
  obtain ⟨sp_n, c_is_number, h_n⟩ := hide c_is_number
  refine cal_def I sc_need_rows (fun _ _ _ _ _ _ us hl => match us, hl with | [_], _ => rfl) (fun ds S P E h => ?_) (fun f cdv A outer s H E hr => (dss_one (ds_for (passes_of rfl) rfl (di_enumA rfl B.enumerate (da_cons (de_var 0 (pv 0)) da_nil)) (dg_tup (n := 2) rfl (dgs_cons (dg_name (pg_name (i := 1) sc_need_rows.nd rfl (by first | exact .inl rfl | exact .inr rfl))) (dgs_cons (dg_name (pg_name (i := 2) sc_need_rows.nd rfl (by first | exact .inl rfl | exact .inr rfl))) dgs_nil)))
  (dss_one (ds_if (dt_w (dw_or (dt_not (dt_tru (de_callB (CallR.or call_isi (CallR.or call_isiT call_isiK)) calld_isi rfl B.isinstance bt_isinstance (da_cons (de_var 2 (pv 2)) (da_cons (de_ty rfl B.tuple bt_tuple) da_nil))))) (dw_or (dt_ne hr.units (de_callB call_len calld_len rfl B.len bt_len (da_cons (de_var 2 (pv 2)) da_nil)) de_int) (dw_or1 (dt_not (dt_tru (de_callB (cr_all rfl) calld_all rfl B.all bt_all (da_cons (de_lc (own := [("one", 3)]) rfl sc_need_rows.nd (di_list (de_var 2 (pv 2))) (blkOk_by (N := N_need_rows) (sc := defScope s_need_rows) (by decide +kernel)) (fun _ _ _ _ _ => (dg_name (pg_name (i := 3) sc_need_rows.nd rfl (by first | exact .inl rfl | exact .inr rfl)))) (fun _ _ _ _ _ => dts_nil) (fun _ _ _ _ _ => (de_cal c_is_number hr pass00 (da_cons (de_var 3 (pv 3)) da_nil)))) da_nil)))))))) (dss_one ds_never) dss_nil))))) (fun ds S P E hS h => ?_)
  · unfold sp_need_rows at h
    split at h
    · rfl
    · exact h.elim
  · unfold sp_need_rows at h
    split at h
    · rename_i x
      obtain ⟨rows, hseq, hlen, h⟩ := h
      rw [startD_ap, wsFor_ap]
      show wiEnumA _ [some x, none, none, none] S _ _
      refine wiEnum_of (x := x) (fun Q q => q) hseq fun src hsrc => ?_
      refine for_inv2 (fun xs ρ S' => S' = S ∧ (∃ o1 o2 o3, ρ = [some x, o1, o2, o3]) ∧ ∀ y ∈ xs, ∃ (i : Nat) (r : Pl × Int), y = .tup [.int i, rowD r]) (fun _ _ _ h => by rw [h.1]; exact hsrc) ?_ ?_ _ _ _ ⟨rfl, ⟨_, _, _, rfl⟩, fun y hy => ?_⟩
      · rintro y ys ρ S' ⟨rfl, ⟨o1, o2, o3, rfl⟩, hy⟩ nx hn
        obtain ⟨i, r, rfl⟩ := hy y (List.mem_cons_self ..)
        obtain ⟨⟨a, b⟩, c⟩ := r
        unfold rowD
        walk_at "dl"
        refine ⟨True.intro, True.intro, ?_⟩
        rw [if_neg (by decide), if_neg (by decide)]
        refine ⟨True.intro, lcW_map (fun _ => .bl true) [.int a, .int b, .int c] [] (fun z hz Q hq => ?_) (by simp) ?_⟩
        · have hz' : ∃ k : Int, z = .int k := by
            have q : z = .int a ∨ z = .int b ∨ z = .int c := by simpa using hz
            rcases q with q | q | q
            · exact ⟨_, q⟩
            · exact ⟨_, q⟩
            · exact ⟨_, q⟩
          obtain ⟨k, rfl⟩ := hz'
          walk_at "dl"
          exact h_n _ _ _ _ ⟨rfl, hq⟩
        · show (if (!true) = true then False else nx _ S')
          rw [if_neg (by decide)]
          exact hn _ _ ⟨rfl, ⟨_, _, _, rfl⟩, fun y h' => hy y (List.mem_cons_of_mem _ h')⟩
      · rintro ρ S' ⟨rfl, ⟨o1, o2, o3, rfl⟩, _⟩
        exact .inl ⟨rfl, h⟩
      · unfold enumD at hy
        obtain ⟨i, hi, rfl⟩ := List.mem_map.mp hy
        have hi' : i < rows.length := by simpa using hi
        refine ⟨i, rows[i], ?_⟩
        rw [List.getD_eq_getElem?_getD, List.getElem?_map, List.getElem?_eq_getElem hi']
        rfl
    · exact h.elim
def sp_init (C : Addr) : DSp := fun ds S P _ => match ds with
  | [.loc i, x, .int ink] => ∃ rows : List (Pl × Int), S[i]? = some (.obj C []) ∧ SeqD x S (rows.map rowD) ∧ rows.length < 100000 ∧ isInk (.int ink) = true ∧ 0 ≤ ink ∧ P .non (S.set i (marksD C ink (leaves (fun c => restI c ink) (tally rows []))))
  | _ => False
theorem mt_init {dvs : List V} {kws : List (Str × V)} (c_Marks : Cls K C) (n_Marks_ink : NoAttr K C "ink") (n_Marks_table : NoAttr K C "table") (I : MIn K C "__init__" "__init__" "Marks.__init__" s_Marks_init dvs kws)
    (c_need_ink : Cal P w K mg base CX0 3 "need_ink" ["value"] sp_need_ink) (c_need_rows : Cal P w K mg base CX0 2 "need_rows" ["rows"] sp_need_rows) (c_gathered : Cal P w K mg base CX0 2 "gathered" ["rows", "ink"] sp_gathered) :
    ∃ f fd, MtF P w K mg base 4 C "__init__" ["self", "rows", "ink"] (sp_init C) f fd ∧ FunD K "__init__" "Marks.__init__" (defArgs s_Marks_init) (defBody s_Marks_init) (defScope s_Marks_init) dvs kws f fd := by
  obtain ⟨sp_i, c_need_ink, h_i⟩ := hide c_need_ink
  obtain ⟨sp_r, c_need_rows, h_r⟩ := hide c_need_rows
  obtain ⟨sp_g, c_gathered, h_g⟩ := hide c_gathered
  refine mtF_def I sc_Marks_init (fun ds S P E h => ?_) (fun f cdv A outer s H E hr => (dss_cons (ds_expr (de_cal c_need_ink hr pass00 (da_cons (de_var 2 (pv 2)) da_nil)))
  (dss_cons (ds_expr (de_cal c_need_rows hr pass00 (da_cons (de_var 1 (pv 1)) da_nil)))
  (dss_cons (ds_fld c_Marks n_Marks_ink (de_var 0 (pv 0)) (de_var 2 (pv 2)))
  (dss_one (ds_fld c_Marks n_Marks_table (de_var 0 (pv 0)) (de_cal c_gathered hr pass00 (da_cons (de_var 1 (pv 1)) (da_cons (de_var 2 (pv 2)) da_nil))))))))) (fun ds S P E hS h => ?_)
  · unfold sp_init at h
    split at h
    · rfl
    · exact h.elim
  · unfold sp_init at h
    split at h
    · rename_i i x ink
      obtain ⟨rows, hi, hseq, hlen, hink, h0, h⟩ := h
      walk_at "dl"
      refine h_i _ _ _ _ ⟨rfl, hink, h_r _ _ _ _ ⟨rows, hseq, hlen, ?_⟩⟩
      simp only [val_o hi]
      refine ⟨trivial, by decide, h_g _ _ _ _ ⟨rows, seqD_set hseq hi, hlen, h0, ?_⟩⟩
      simp only [val_o (get_set hi)]
      refine ⟨trivial, (by decide : 1 < 900), ?_⟩
      rw [set_set]
      exact .inl ⟨by simp, h⟩
    · exact h.elim
/-! new instances by the law's calls -/
abbrev InitF (P : Program) (w : World) (K : PySem.W.Frag) (mg : Str → Option Value) (base : Heap) (C : Addr) (a : Addr) : Prop := ∃ f fd, MtF P w K mg base 4 C "__init__" ["self", "rows", "ink"] (sp_init C) f fd ∧ FunD K "__init__" "Marks.__init__" (defArgs s_Marks_init) (defBody s_Marks_init) (defScope s_Marks_init) [.ref a] [("ink", .int 0)] f fd
def gd1 (s ds es : List D) : List D := s ++ (ds ++ es)
theorem new_1 {a f0 : Addr} (M : Mk K C f0) (g_Marks : mg "Marks" = some (.ref C)) (h : InitF P w K mg base C a) : NewC P w K mg base 4 "Marks" C 1 ["ink"] (sp_init C) gd1 := by
  obtain ⟨f, fd, F, D⟩ := h
  obtain rfl : f = f0 := by
    have e := F.m.at_.symm.trans M.init
    injection e with e
    injection e with e
    injection e
  obtain ⟨its, mv, hb⟩ := D.kbinds (ps := ["self", "rows", "ink"]) 2 ["ink"] [] (fun us _ _ ws => us ++ ws) (by simp) (by simp) (fun _ h => nomatch h) (fun r1 _ _ r4 => r1.append r4) (fun T D doc pm an cdv ct us its mv ws h1 h2 h3 h4 => match us, its, mv, ws, h1, h2, h3, h4 with
    | [_, _], [_], [], [_], _, _, _, _ => ⟨_, rfl, rfl⟩)
  refine ⟨f, fd, _, _, _, M, F.ok, g_Marks, hb, fun M' mu H s ds es u us ws r1 r2 r3 => ?_⟩
  show Rs K M' mu H (s ++ (ds ++ es)) ((u ++ us) ++ ws)
  rw [List.append_assoc]
  exact r1.app (r2.app r3)
def gd0 (s ds es : List D) : List D := s ++ (ds ++ [.ktp [], .int 0])
theorem new_0 {a f0 : Addr} (M : Mk K C f0) (g_Marks : mg "Marks" = some (.ref C)) (h : InitF P w K mg base C a) (ht : SqTK K a []) : NewC P w K mg base 4 "Marks" C 0 [] (sp_init C) gd0 := by
  obtain ⟨f, fd, F, D⟩ := h
  obtain rfl : f = f0 := by
    have e := F.m.at_.symm.trans M.init
    injection e with e
    injection e with e
    injection e
  obtain ⟨its, mv, hb⟩ := D.kbinds (ps := ["self", "rows", "ink"]) 1 [] [("ink", .int 0)] (fun us its mv _ => us ++ (its ++ mv)) (by simp) (by simp) (fun _ h => h) (fun r1 r2 r3 _ => r1.append (r2.append r3)) (fun T D doc pm an cdv ct us its mv ws h1 h2 h3 h4 => match us, its, mv, ws, h1, h2, h3, h4 with
    | [_], [_], [_], [], _, _, _, _ => ⟨_, rfl, _, _, _, _, _, _, rfl, rfl, rfl⟩)
  refine ⟨f, fd, _, _, _, M, F.ok, g_Marks, hb, fun M' mu H s ds es u us ws r1 r2 r3 => ?_⟩
  show Rs K M' mu H (s ++ (ds ++ [.ktp [], .int 0])) ((u ++ us) ++ [.ref a, .int 0])
  rw [List.append_assoc]
  exact r1.app (r2.app ⟨.ref a, _, rfl, ⟨a, [], rfl, ht, rfl⟩, .int 0, [], rfl, rfl, rfl⟩)
/-! stores without own cells in them -/
def PureD (d : D) : Prop := ∀ n, lo n d = true
def PureS (S : Sto) : Prop := ∀ d ∈ S, PureD d
theorem PureS.lo {S : Sto} (h : PureS S) : S.all (lo S.length) = true := List.all_eq_true.mpr fun d hd => h d hd _
theorem pure_bag {b : List D} (h : BagOk b) : PureD (.lst b) := fun _ => bag_lo h
theorem pure_row (r : Pl × Int) : PureD (rowD r) := fun _ => rfl
theorem pure_lst {l : List D} (h : ∀ d ∈ l, PureD d) : PureD (.lst l) := fun n => by
  show los n l = true
  rw [los_all]
  exact List.all_eq_true.mpr fun d hd => h d hd n
theorem pure_rows (rows : List (Pl × Int)) : PureD (.lst (rows.map rowD)) := pure_lst fun d hd => by
  obtain ⟨r, _, rfl⟩ := List.mem_map.mp hd
  exact pure_row r
theorem PureS.cons {d : D} {S : Sto} (h : PureD d) (g : PureS S) : PureS (d :: S) := fun x hx => by
  rcases List.mem_cons.mp hx with e | e
  · rw [e]; exact h
  · exact g x e
theorem PureS.app {S T : Sto} (h : PureS S) (g : PureS T) : PureS (S ++ T) := fun x hx => by
  rcases List.mem_append.mp hx with e | e
  · exact h x e
  · exact g x e
theorem PureS.set {S : Sto} {i : Nat} {d : D} (h : PureS S) (g : PureD d) : PureS (S.set i d) := fun x hx => by
  rcases List.mem_or_eq_of_mem_set hx with e | e
  · exact h x e
  · rw [e]; exact g
theorem pureS_nil : PureS [] := fun _ h => nomatch h
theorem pureS_one {d : D} (h : PureD d) : PureS [d] := pureS_nil.cons h
/-- one more Marks -/
theorem seqD_app {x : D} {S T : Sto} {l : List D} (h : SeqD x S l) : SeqD x (S ++ T) l := by
  rcases h with e | e | e | ⟨i, e, e2⟩
  · exact .inl e
  · exact .inr (.inl e)
  · exact .inr (.inr (.inl e))
  · exact .inr (.inr (.inr ⟨i, e, by rw [List.getElem?_append_left (lt_at e2)]; exact e2⟩))
def tabI (ink : Int) (rows : List (Pl × Int)) : Tab := tabOf (fun c => restI c ink) rows
theorem make_marks {sp' : DSp} {S : Sto} {x : D} {ink : Int} {rows : List (Pl × Int)} {P : DK} (h_init : ∀ ds S P E, sp_init C ds S P E → sp' ds S P E) (hS : PureS S) (hseq : SeqD x S (rows.map rowD)) (hlen : rows.length < 100000) (hink : isInk (.int ink) = true) (h0 : 0 ≤ ink)
    (h : P (marksD C ink (tabI ink rows)) S) : makeD C sp' (fun self => self ++ [x, .int ink]) S P := by
  unfold makeD
  refine h_init _ _ _ _ ⟨rows, get_last, seqD_app hseq, hlen, hink, h0, ?_⟩
  rw [set_last]
  refine ⟨rfl, ?_⟩
  unfold marksD
  rw [get_last]
  refine ⟨rfl, by simp, ?_, by rw [List.take_left]; exact hS.lo, by rw [List.take_left]; exact h⟩
  have e : lo S.length (.dt (encT (tabI ink rows))) = true := lot_enc _ _
  show (true && (lo S.length (.dt (encT (tabI ink rows))) && true)) = true
  rw [e]
  rfl
theorem rest0 (z : Int) : restI 0 z = 0 := by
  unfold restI
  split
  · rfl
  · exact Int.zero_emod z
theorem tget_I (z : Int) (rows : List (Pl × Int)) (p : Pl) : tget (tabI z rows) p = if restI (sumAt p rows) z = 0 then none else some (restI (sumAt p rows) z) := tget_of (f := fun c => restI c z) (rest0 z) rows p
theorem tok_I (z : Int) (rows : List (Pl × Int)) : TOk (tabI z rows) := tok_of _ _
def sp_need_order : DSp := fun ds S P _ => match ds with
  | [.str s] => (s = "columns" ∨ s = "rows") ∧ P .non S
  | _ => False
theorem cal_need_order (B : Bn mg) (I : DefIn K mg "need_order" "need_order" s_need_order) (g_ORDERS : GTup K mg "ORDERS" [.str "columns", .str "rows"]) : Cal P w K mg base CX0 1 "need_order" ["value"] sp_need_order := by
  refine cal_def I sc_need_order (fun _ _ _ _ _ _ us hl => match us, hl with | [_], _ => rfl) (fun ds S P E h => ?_) (fun f cdv A outer s H E hr => (dss_one (ds_if (dt_w (dw_or (dt_not (dt_tru (de_callB (CallR.or call_isi (CallR.or call_isiT call_isiK)) calld_isi rfl B.isinstance bt_isinstance (da_cons (de_var 0 (pv 0)) (da_cons (de_ty rfl B.str bt_str) da_nil))))) (dw_or1 (dt_cmp op_notIn_seq opd_in (de_var 0 (pv 0)) (de_gtup g_ORDERS))))) (dss_one ds_never) dss_nil))) (fun ds S P E hS h => ?_)
  · unfold sp_need_order at h
    split at h
    · rfl
    · exact h.elim
  · unfold sp_need_order at h
    split at h
    · rename_i s
      obtain ⟨hs, h⟩ := h
      walk_at "dl"
      rw [if_neg (by decide)]
      rcases hs with rfl | rfl
      · show (if (!true) = true then False else _)
        rw [if_neg (by decide)]
        exact .inl ⟨rfl, h⟩
      · show (if (!true) = true then False else _)
        rw [if_neg (by decide)]
        exact .inl ⟨rfl, h⟩
    · exact h.elim
def keyP (s : Str) (p : Pl) : Pl := if s = "columns" then p else (p.2, p.1)
def sp_key_of : DSp := fun ds S P _ => match ds with
  | [.tup [.int a, .int b], .str s] => P (plD (keyP s (a, b))) S
  | _ => False
theorem cal_key_of (I : DefIn K mg "key_of" "key_of" s_key_of) : Cal P w K mg base CX0 1 "key_of" ["place", "order"] sp_key_of := by
  refine cal_def I sc_key_of (fun _ _ _ _ _ _ us hl => match us, hl with | [_, _], _ => rfl) (fun ds S P E h => ?_) (fun f cdv A outer s H E hr => (dss_one (ds_ret (de_if (dt_eq hr.units (de_var 1 (pv 1)) de_str) (de_tup (da_cons (de_ix (de_var 0 (pv 0)) de_int) (da_cons (de_ix (de_var 0 (pv 0)) de_int) da_nil))) (de_tup (da_cons (de_ix (de_var 0 (pv 0)) de_int) (da_cons (de_ix (de_var 0 (pv 0)) de_int) da_nil))))))) (fun ds S P E hS h => ?_)
  · unfold sp_key_of at h
    split at h
    · rfl
    · exact h.elim
  · unfold sp_key_of at h
    split at h
    · rename_i a b s
      walk_at "dl"
      unfold keyP at h
      by_cases q : s = "columns"
      · rw [if_pos (decide_eq_true q)]
        rw [if_pos q] at h
        exact ⟨by decide, rt_same rfl h⟩
      · rw [if_neg (by simpa using q)]
        rw [if_neg q] at h
        exact ⟨by decide, rt_same rfl h⟩
    · exact h.elim
def endP (last : Bool) (l : List Pl) : Option Pl := if last then l.getLast? else l.head?
def firstD (s : Str) (last : Bool) (t : Tab) : D := match endP last (sortBy (keyP s) (t.map (·.1))) with
  | some p => rowD (p, (tget t p).getD 0)
  | none => .non
def sp_first (C : Addr) (T : Addr) : DSp := fun ds S P _ => match ds with
  | [x, .str s, .bl last] => ∃ ink t, x = marksD C ink t ∧ TOk t ∧ t.length < 100000 ∧ (s = "columns" ∨ s = "rows") ∧ (∃ i : Nat, S[i]? = some (D.tb T "Marks.first.<locals>.<lambda>")) ∧ P (firstD s last t) S
  | _ => False
theorem mt_first {dvs : List V} {kws : List (Str × V)} {c T : Addr} (B : Bn mg) (tb_Marks_first : LamX.TabB base mg c T) (c_Marks : Cls K C) (n_Marks_table : NoAttr K C "table") (I : MInC K C "first" "first" "Marks.first" s_Marks_first dvs kws c)
    (c_need_order : Cal P w K mg base CX0 1 "need_order" ["value"] sp_need_order) (c_key_of : Cal P w K mg base CX0 1 "key_of" ["place", "order"] sp_key_of) :
    ∃ f fd, MtF P w K mg base 6 C "first" ["self", "order", "last"] (sp_first C T) f fd ∧ FunD K "first" "Marks.first" (defArgs s_Marks_first) (defBody s_Marks_first) (defScope s_Marks_first) dvs kws f fd := by
  obtain ⟨sp_o, c_need_order, h_o⟩ := hide c_need_order
  obtain ⟨sp_k, c_key_of, h_k⟩ := hide c_key_of
  refine mtFC_def I sc_Marks_first (fun ds S P E h => ?_) (fun f A outer s H E hr => (dss_cons (ds_expr (de_cal c_need_order hr pass00 (da_cons (de_var 1 (pv 1)) da_nil)))
  (dss_cons (ds_set (i := 3) sc_Marks_first.nd rfl (by first | exact .inl rfl | exact .inr rfl) (de_sortLam (k := 2) (j := 4) (q := "Marks.first.<locals>.<lambda>") B.sorted (de_callTy (call_list_dT rfl) calld_listDt rfl B.list bt_list (da_cons (de_fld c_Marks n_Marks_table (de_var 0 (pv 0))) da_nil)) tb_Marks_first rfl (hr.mono (by decide)) (LamY.lamP_by (sc := defScope s_Marks_first) (by decide +kernel)) sc_Marks_first.nd rfl rfl (fun _ _ _ _ _ hl => (de_cal c_key_of hl pass00 (da_cons (de_var 4 (pv 4)) (da_cons (de_var 1 (pv 1)) da_nil))))))
  (dss_cons (ds_if (dt_cmp (op_eqE hr.units) opd_emp (de_var 3 (pv 3)) (de_lst da_nil)) (dss_one (ds_ret de_non)) dss_nil)
  (dss_cons (ds_set (i := 4) sc_Marks_first.nd rfl (by first | exact .inl rfl | exact .inr rfl) (de_if (dt_tru (de_var 2 (pv 2))) (de_ix (de_var 3 (pv 3)) (de_neg de_int)) (de_ix (de_var 3 (pv 3)) de_int)))
  (dss_one (ds_ret (de_tup (da_cons (de_ix (de_var 4 (pv 4)) de_int) (da_cons (de_ix (de_var 4 (pv 4)) de_int) (da_cons (de_dget hr.units (de_fld c_Marks n_Marks_table (de_var 0 (pv 0))) (de_var 4 (pv 4))) da_nil))))))))))) (fun ds S P E hS h => ?_)
  · unfold sp_first at h
    split at h
    · rfl
    · exact h.elim
  · unfold sp_first at h
    split at h
    · rename_i x s last
      obtain ⟨ink, t, rfl, ht, hl, hs, hT, h⟩ := h
      unfold marksD
      simp only [↓wC_ap, ↓wNil_ap, ↓wCons_ap, ↓wLst_ap, ↓wTup_ap, ↓wOp_ap, ↓wB_ap, ↓wUn_ap, ↓wCB_ap, ↓wCall_ap, ↓wCallK_ap, ↓wSl_ap, ↓wPart_ap, ↓wNoPart_ap, ↓wAndT_ap, ↓wOrT_ap, ↓wNotT_ap, ↓wAndV_ap, ↓wOrV_ap, ↓wIf_ap, ↓wTru_ap, ↓wLc_ap, ↓wiSeq_ap, ↓wiRng1_ap, ↓wiRng2_ap, ↓wiZip_ap, ↓wLstRg_ap, ↓wTYes_ap, ↓wsNext_ap, ↓wsSeq_ap, ↓wsRet_ap, ↓wsRetN_ap, ↓wsRetF_ap, ↓wsDrop_ap, ↓wsIf_ap, ↓wsAsg_ap, ↓wsSet_ap, ↓wsSetF_ap, ↓wsPar_ap, ↓wsStore_ap, ↓wsFor_ap, ↓wsBreak_ap, ↓wsCont_ap, ↓wgName_ap, ↓wgNil_ap, ↓wgCons_ap, ↓wgTup_ap, ↓wVar_0, ↓wVar_s, ↓addD, ↓subD, ↓mulD, ↓modD, ↓fdivD, ↓powD, ↓negD, ↓notD, ↓eqD, ↓scalD, ↓inD, ↓isD, ↓ixD, ↓cmpD, ↓leD, ↓geD, ↓gtD, ↓ltD, ↓ordD, ↓lenD, ↓absD, ↓DL.intOfD, ↓listD, ↓allD, ↓isiD, ↓sliceD, ↓truD_non, ↓truD_bl, ↓truD_int, ↓truD_str, ↓truD_lst, ↓truD_tup, List.map_cons, List.map_nil, List.length_cons, List.length_nil, List.replicate, List.cons_append, List.nil_append, List.set_cons_zero, List.set_cons_succ, List.append_nil, List.zip_cons_cons, List.zip_nil_right, List.foldl_cons, List.foldl_nil, Nat.zero_add, Nat.add_zero, Nat.reduceAdd, Nat.reduceSub, Nat.reduceMul, if_true, if_false, Bool.false_eq_true, ite_true, ite_false, v_non, v_bl, v_int, v_str, v_ty, v_cst, v_lst, v_tup, v_dk, v_dt, v_ktp, v_obj, v_scr, startD_ap, wD_nil, wD_cons, wVar_0, wVar_s, ↓is_non_int, ↓is_bl_int, ↓is_int_int, ↓is_str_int, ↓is_lst_int, ↓is_tup_int, ↓is_dk_int, ↓is_non_bool, ↓is_bl_bool, ↓is_int_bool, ↓is_str_bool, ↓is_lst_bool, ↓is_tup_bool, ↓is_dk_bool, ↓is_non_str, ↓is_bl_str, ↓is_int_str, ↓is_str_str, ↓is_lst_str, ↓is_tup_str, ↓is_dk_str, ↓is_non_list, ↓is_bl_list, ↓is_int_list, ↓is_str_list, ↓is_lst_list, ↓is_tup_list, ↓is_dk_list, ↓is_non_tuple, ↓is_bl_tuple, ↓is_int_tuple, ↓is_str_tuple, ↓is_lst_tuple, ↓is_tup_tuple, ↓is_dk_tuple, ↓wsNever_ap, ↓wNever_ap, ↓wFr_ap, ↓wFLst_ap, ↓wFList_ap, ↓wFAdd_ap, ↓wBM_ap, ↓wBM0_ap, ↓wDGet_ap, ↓wDGet2_ap, ↓wsDPut_ap, ↓wNewT_ap, ↓wsRetire_ap, ↓wiKeysT_ap, ↓wDcT_ap, ↓wFld_ap, ↓wsFld_ap, ↓wMake_ap, ↓wMeth_ap, ↓wDictPT_ap, ↓wTruOwn_ap, ↓wFmt_ap, ↓wFs_ap, ↓wiEnum_ap, ↓wJs_nil, ↓wJs_cons, ↓wiEnumA_ap, ↓wNotOwn_ap, ↓wMethX0_ap, ↓wMethF0_ap, ↓wsBMX_ap, ↓wLcF_ap, ↓appendD, ↓popD, ↓entT, ↓dflT, ↓inT, ↓getT, ↓isDt, ↓fldD, ↓recvD, ↓isObjD, ↓isEqR, ↓eqOwnD, ↓inOwnD, ↓lenOwnD, ↓reprOwnD, ↓blP, ↓lenP, ↓strP, ↓truP, ↓lenDt, ↓listDt, ↓tupOf, ↓DL.strOf, ↓fmtD, ↓sortedT, ↓eqDt, ↓rcv, ↓empD, ↓boolOwnD, ↓isCD, ↓isCDof, isK_tup, List.lookup_cons, Option.getD_some, Option.getD_none, Option.isSome_some, Option.isSome_none, ↓lk_ink, ↓lk_table, ↓wSort_ap]
      refine h_o _ _ _ _ ⟨hs, ⟨True.intro, hT, ?_⟩⟩
      have e1 : keysT (encT t) = (t.map (·.1)).map plD := by rw [keys_encP, List.map_map]; rfl
      rw [e1]
      refine krW_map (fun d => plD (keyP s (unP d))) _ [] (fun y hy Q hq => ?_) ?_
      · obtain ⟨⟨a, b⟩, _, rfl⟩ := List.mem_map.mp hy
        unfold plD
        walk_at "dl"
        exact h_k _ _ _ _ hq
      rw [List.nil_append]
      refine srt_pl ?_
      have hmem : ∀ p ∈ sortBy (keyP s) (t.map (·.1)), (tget t p).isSome = true := fun p hp => tget_isSome.mpr ((sortBy_perm _ _).subset hp)
      unfold firstD at h
      generalize sortBy (keyP s) (t.map (·.1)) = L at h hmem ⊢
      simp only [↓wC_ap, ↓wNil_ap, ↓wCons_ap, ↓wLst_ap, ↓wTup_ap, ↓wOp_ap, ↓wB_ap, ↓wUn_ap, ↓wCB_ap, ↓wCall_ap, ↓wCallK_ap, ↓wSl_ap, ↓wPart_ap, ↓wNoPart_ap, ↓wAndT_ap, ↓wOrT_ap, ↓wNotT_ap, ↓wAndV_ap, ↓wOrV_ap, ↓wIf_ap, ↓wTru_ap, ↓wLc_ap, ↓wiSeq_ap, ↓wiRng1_ap, ↓wiRng2_ap, ↓wiZip_ap, ↓wLstRg_ap, ↓wTYes_ap, ↓wsNext_ap, ↓wsSeq_ap, ↓wsRet_ap, ↓wsRetN_ap, ↓wsRetF_ap, ↓wsDrop_ap, ↓wsIf_ap, ↓wsAsg_ap, ↓wsSet_ap, ↓wsSetF_ap, ↓wsPar_ap, ↓wsStore_ap, ↓wsFor_ap, ↓wsBreak_ap, ↓wsCont_ap, ↓wgName_ap, ↓wgNil_ap, ↓wgCons_ap, ↓wgTup_ap, ↓wVar_0, ↓wVar_s, ↓addD, ↓subD, ↓mulD, ↓modD, ↓fdivD, ↓powD, ↓negD, ↓notD, ↓eqD, ↓scalD, ↓inD, ↓isD, ↓ixD, ↓cmpD, ↓leD, ↓geD, ↓gtD, ↓ltD, ↓ordD, ↓lenD, ↓absD, ↓DL.intOfD, ↓listD, ↓allD, ↓isiD, ↓sliceD, ↓truD_non, ↓truD_bl, ↓truD_int, ↓truD_str, ↓truD_lst, ↓truD_tup, List.map_cons, List.map_nil, List.length_cons, List.length_nil, List.replicate, List.cons_append, List.nil_append, List.set_cons_zero, List.set_cons_succ, List.append_nil, List.zip_cons_cons, List.zip_nil_right, List.foldl_cons, List.foldl_nil, Nat.zero_add, Nat.add_zero, Nat.reduceAdd, Nat.reduceSub, Nat.reduceMul, if_true, if_false, Bool.false_eq_true, ite_true, ite_false, v_non, v_bl, v_int, v_str, v_ty, v_cst, v_lst, v_tup, v_dk, v_dt, v_ktp, v_obj, v_scr, startD_ap, wD_nil, wD_cons, wVar_0, wVar_s, ↓is_non_int, ↓is_bl_int, ↓is_int_int, ↓is_str_int, ↓is_lst_int, ↓is_tup_int, ↓is_dk_int, ↓is_non_bool, ↓is_bl_bool, ↓is_int_bool, ↓is_str_bool, ↓is_lst_bool, ↓is_tup_bool, ↓is_dk_bool, ↓is_non_str, ↓is_bl_str, ↓is_int_str, ↓is_str_str, ↓is_lst_str, ↓is_tup_str, ↓is_dk_str, ↓is_non_list, ↓is_bl_list, ↓is_int_list, ↓is_str_list, ↓is_lst_list, ↓is_tup_list, ↓is_dk_list, ↓is_non_tuple, ↓is_bl_tuple, ↓is_int_tuple, ↓is_str_tuple, ↓is_lst_tuple, ↓is_tup_tuple, ↓is_dk_tuple, ↓wsNever_ap, ↓wNever_ap, ↓wFr_ap, ↓wFLst_ap, ↓wFList_ap, ↓wFAdd_ap, ↓wBM_ap, ↓wBM0_ap, ↓wDGet_ap, ↓wDGet2_ap, ↓wsDPut_ap, ↓wNewT_ap, ↓wsRetire_ap, ↓wiKeysT_ap, ↓wDcT_ap, ↓wFld_ap, ↓wsFld_ap, ↓wMake_ap, ↓wMeth_ap, ↓wDictPT_ap, ↓wTruOwn_ap, ↓wFmt_ap, ↓wFs_ap, ↓wiEnum_ap, ↓wJs_nil, ↓wJs_cons, ↓wiEnumA_ap, ↓wNotOwn_ap, ↓wMethX0_ap, ↓wMethF0_ap, ↓wsBMX_ap, ↓wLcF_ap, ↓appendD, ↓popD, ↓entT, ↓dflT, ↓inT, ↓getT, ↓isDt, ↓fldD, ↓recvD, ↓isObjD, ↓isEqR, ↓eqOwnD, ↓inOwnD, ↓lenOwnD, ↓reprOwnD, ↓blP, ↓lenP, ↓strP, ↓truP, ↓lenDt, ↓listDt, ↓tupOf, ↓DL.strOf, ↓fmtD, ↓sortedT, ↓eqDt, ↓rcv, ↓empD, ↓boolOwnD, ↓isCD, ↓isCDof, isK_tup, List.lookup_cons, Option.getD_some, Option.getD_none, Option.isSome_some, Option.isSome_none, ↓lk_ink, ↓lk_table]
      refine ⟨by decide, .inr True.intro, ?_⟩
      cases L with
      | nil =>
        rw [if_pos (show decide ((([] : List Pl).map plD).length = 0) = true from rfl)]
        have e : endP last [] = none := by cases last <;> rfl
        rw [e] at h
        exact rt_same rfl h
      | cons p ps =>
        rw [if_neg (by simp)]
        cases last with
        | true =>
          rw [if_pos rfl]
          obtain ⟨⟨a, b⟩, hp, hz⟩ : ∃ r, r ∈ p :: ps ∧ endP true (p :: ps) = some r := by
            refine ⟨(p :: ps).getLast (List.cons_ne_nil _ _), List.getLast_mem _, ?_⟩
            show (p :: ps).getLast? = _
            exact List.getLast?_eq_some_getLast (List.cons_ne_nil _ _)
          have hat : atI ((p :: ps).map plD) (-1) = some (plD (a, b)) := by
            rw [atI_last (by simp), List.getLast?_map]
            have hz' : (p :: ps).getLast? = some (a, b) := hz
            rw [hz']
            rfl
          rw [hz] at h
          have hin := hmem _ hp
          cases zc : tget t (a, b) with
          | none => rw [zc] at hin; cases hin
          | some c =>
            have h' : P (.tup [.int a, .int b, .int ((tget t (a, b)).getD 0)]) S := h
            rw [zc] at h'
            rw [hat]
            unfold plD
            simp only [↓wC_ap, ↓wNil_ap, ↓wCons_ap, ↓wLst_ap, ↓wTup_ap, ↓wOp_ap, ↓wB_ap, ↓wUn_ap, ↓wCB_ap, ↓wCall_ap, ↓wCallK_ap, ↓wSl_ap, ↓wPart_ap, ↓wNoPart_ap, ↓wAndT_ap, ↓wOrT_ap, ↓wNotT_ap, ↓wAndV_ap, ↓wOrV_ap, ↓wIf_ap, ↓wTru_ap, ↓wLc_ap, ↓wiSeq_ap, ↓wiRng1_ap, ↓wiRng2_ap, ↓wiZip_ap, ↓wLstRg_ap, ↓wTYes_ap, ↓wsNext_ap, ↓wsSeq_ap, ↓wsRet_ap, ↓wsRetN_ap, ↓wsRetF_ap, ↓wsDrop_ap, ↓wsIf_ap, ↓wsAsg_ap, ↓wsSet_ap, ↓wsSetF_ap, ↓wsPar_ap, ↓wsStore_ap, ↓wsFor_ap, ↓wsBreak_ap, ↓wsCont_ap, ↓wgName_ap, ↓wgNil_ap, ↓wgCons_ap, ↓wgTup_ap, ↓wVar_0, ↓wVar_s, ↓addD, ↓subD, ↓mulD, ↓modD, ↓fdivD, ↓powD, ↓negD, ↓notD, ↓eqD, ↓scalD, ↓inD, ↓isD, ↓ixD, ↓cmpD, ↓leD, ↓geD, ↓gtD, ↓ltD, ↓ordD, ↓lenD, ↓absD, ↓DL.intOfD, ↓listD, ↓allD, ↓isiD, ↓sliceD, ↓truD_non, ↓truD_bl, ↓truD_int, ↓truD_str, ↓truD_lst, ↓truD_tup, List.map_cons, List.map_nil, List.length_cons, List.length_nil, List.replicate, List.cons_append, List.nil_append, List.set_cons_zero, List.set_cons_succ, List.append_nil, List.zip_cons_cons, List.zip_nil_right, List.foldl_cons, List.foldl_nil, Nat.zero_add, Nat.add_zero, Nat.reduceAdd, Nat.reduceSub, Nat.reduceMul, if_true, if_false, Bool.false_eq_true, ite_true, ite_false, v_non, v_bl, v_int, v_str, v_ty, v_cst, v_lst, v_tup, v_dk, v_dt, v_ktp, v_obj, v_scr, startD_ap, wD_nil, wD_cons, wVar_0, wVar_s, ↓is_non_int, ↓is_bl_int, ↓is_int_int, ↓is_str_int, ↓is_lst_int, ↓is_tup_int, ↓is_dk_int, ↓is_non_bool, ↓is_bl_bool, ↓is_int_bool, ↓is_str_bool, ↓is_lst_bool, ↓is_tup_bool, ↓is_dk_bool, ↓is_non_str, ↓is_bl_str, ↓is_int_str, ↓is_str_str, ↓is_lst_str, ↓is_tup_str, ↓is_dk_str, ↓is_non_list, ↓is_bl_list, ↓is_int_list, ↓is_str_list, ↓is_lst_list, ↓is_tup_list, ↓is_dk_list, ↓is_non_tuple, ↓is_bl_tuple, ↓is_int_tuple, ↓is_str_tuple, ↓is_lst_tuple, ↓is_tup_tuple, ↓is_dk_tuple, ↓wsNever_ap, ↓wNever_ap, ↓wFr_ap, ↓wFLst_ap, ↓wFList_ap, ↓wFAdd_ap, ↓wBM_ap, ↓wBM0_ap, ↓wDGet_ap, ↓wDGet2_ap, ↓wsDPut_ap, ↓wNewT_ap, ↓wsRetire_ap, ↓wiKeysT_ap, ↓wDcT_ap, ↓wFld_ap, ↓wsFld_ap, ↓wMake_ap, ↓wMeth_ap, ↓wDictPT_ap, ↓wTruOwn_ap, ↓wFmt_ap, ↓wFs_ap, ↓wiEnum_ap, ↓wJs_nil, ↓wJs_cons, ↓wiEnumA_ap, ↓wNotOwn_ap, ↓wMethX0_ap, ↓wMethF0_ap, ↓wsBMX_ap, ↓wLcF_ap, ↓appendD, ↓popD, ↓entT, ↓dflT, ↓inT, ↓getT, ↓isDt, ↓fldD, ↓recvD, ↓isObjD, ↓isEqR, ↓eqOwnD, ↓inOwnD, ↓lenOwnD, ↓reprOwnD, ↓blP, ↓lenP, ↓strP, ↓truP, ↓lenDt, ↓listDt, ↓tupOf, ↓DL.strOf, ↓fmtD, ↓sortedT, ↓eqDt, ↓rcv, ↓empD, ↓boolOwnD, ↓isCD, ↓isCDof, isK_tup, List.lookup_cons, Option.getD_some, Option.getD_none, Option.isSome_some, Option.isSome_none, ↓lk_ink, ↓lk_table, ↓tk_pl, ↓look_enc, ↓zc]
            exact ⟨True.intro, by decide, rt_same rfl h'⟩
        | false =>
          rw [if_neg Bool.false_ne_true]
          obtain ⟨⟨a, b⟩, hp, hz⟩ : ∃ r, r ∈ p :: ps ∧ endP false (p :: ps) = some r := by
            exact ⟨p, List.mem_cons_self .., rfl⟩
          have hat : atI ((p :: ps).map plD) (0) = some (plD (a, b)) := by
            rw [atI_head (by simp), List.head?_map]
            have hz' : (p :: ps).head? = some (a, b) := hz
            rw [hz']
            rfl
          rw [hz] at h
          have hin := hmem _ hp
          cases zc : tget t (a, b) with
          | none => rw [zc] at hin; cases hin
          | some c =>
            have h' : P (.tup [.int a, .int b, .int ((tget t (a, b)).getD 0)]) S := h
            rw [zc] at h'
            rw [hat]
            unfold plD
            simp only [↓wC_ap, ↓wNil_ap, ↓wCons_ap, ↓wLst_ap, ↓wTup_ap, ↓wOp_ap, ↓wB_ap, ↓wUn_ap, ↓wCB_ap, ↓wCall_ap, ↓wCallK_ap, ↓wSl_ap, ↓wPart_ap, ↓wNoPart_ap, ↓wAndT_ap, ↓wOrT_ap, ↓wNotT_ap, ↓wAndV_ap, ↓wOrV_ap, ↓wIf_ap, ↓wTru_ap, ↓wLc_ap, ↓wiSeq_ap, ↓wiRng1_ap, ↓wiRng2_ap, ↓wiZip_ap, ↓wLstRg_ap, ↓wTYes_ap, ↓wsNext_ap, ↓wsSeq_ap, ↓wsRet_ap, ↓wsRetN_ap, ↓wsRetF_ap, ↓wsDrop_ap, ↓wsIf_ap, ↓wsAsg_ap, ↓wsSet_ap, ↓wsSetF_ap, ↓wsPar_ap, ↓wsStore_ap, ↓wsFor_ap, ↓wsBreak_ap, ↓wsCont_ap, ↓wgName_ap, ↓wgNil_ap, ↓wgCons_ap, ↓wgTup_ap, ↓wVar_0, ↓wVar_s, ↓addD, ↓subD, ↓mulD, ↓modD, ↓fdivD, ↓powD, ↓negD, ↓notD, ↓eqD, ↓scalD, ↓inD, ↓isD, ↓ixD, ↓cmpD, ↓leD, ↓geD, ↓gtD, ↓ltD, ↓ordD, ↓lenD, ↓absD, ↓DL.intOfD, ↓listD, ↓allD, ↓isiD, ↓sliceD, ↓truD_non, ↓truD_bl, ↓truD_int, ↓truD_str, ↓truD_lst, ↓truD_tup, List.map_cons, List.map_nil, List.length_cons, List.length_nil, List.replicate, List.cons_append, List.nil_append, List.set_cons_zero, List.set_cons_succ, List.append_nil, List.zip_cons_cons, List.zip_nil_right, List.foldl_cons, List.foldl_nil, Nat.zero_add, Nat.add_zero, Nat.reduceAdd, Nat.reduceSub, Nat.reduceMul, if_true, if_false, Bool.false_eq_true, ite_true, ite_false, v_non, v_bl, v_int, v_str, v_ty, v_cst, v_lst, v_tup, v_dk, v_dt, v_ktp, v_obj, v_scr, startD_ap, wD_nil, wD_cons, wVar_0, wVar_s, ↓is_non_int, ↓is_bl_int, ↓is_int_int, ↓is_str_int, ↓is_lst_int, ↓is_tup_int, ↓is_dk_int, ↓is_non_bool, ↓is_bl_bool, ↓is_int_bool, ↓is_str_bool, ↓is_lst_bool, ↓is_tup_bool, ↓is_dk_bool, ↓is_non_str, ↓is_bl_str, ↓is_int_str, ↓is_str_str, ↓is_lst_str, ↓is_tup_str, ↓is_dk_str, ↓is_non_list, ↓is_bl_list, ↓is_int_list, ↓is_str_list, ↓is_lst_list, ↓is_tup_list, ↓is_dk_list, ↓is_non_tuple, ↓is_bl_tuple, ↓is_int_tuple, ↓is_str_tuple, ↓is_lst_tuple, ↓is_tup_tuple, ↓is_dk_tuple, ↓wsNever_ap, ↓wNever_ap, ↓wFr_ap, ↓wFLst_ap, ↓wFList_ap, ↓wFAdd_ap, ↓wBM_ap, ↓wBM0_ap, ↓wDGet_ap, ↓wDGet2_ap, ↓wsDPut_ap, ↓wNewT_ap, ↓wsRetire_ap, ↓wiKeysT_ap, ↓wDcT_ap, ↓wFld_ap, ↓wsFld_ap, ↓wMake_ap, ↓wMeth_ap, ↓wDictPT_ap, ↓wTruOwn_ap, ↓wFmt_ap, ↓wFs_ap, ↓wiEnum_ap, ↓wJs_nil, ↓wJs_cons, ↓wiEnumA_ap, ↓wNotOwn_ap, ↓wMethX0_ap, ↓wMethF0_ap, ↓wsBMX_ap, ↓wLcF_ap, ↓appendD, ↓popD, ↓entT, ↓dflT, ↓inT, ↓getT, ↓isDt, ↓fldD, ↓recvD, ↓isObjD, ↓isEqR, ↓eqOwnD, ↓inOwnD, ↓lenOwnD, ↓reprOwnD, ↓blP, ↓lenP, ↓strP, ↓truP, ↓lenDt, ↓listDt, ↓tupOf, ↓DL.strOf, ↓fmtD, ↓sortedT, ↓eqDt, ↓rcv, ↓empD, ↓boolOwnD, ↓isCD, ↓isCDof, isK_tup, List.lookup_cons, Option.getD_some, Option.getD_none, Option.isSome_some, Option.isSome_none, ↓lk_ink, ↓lk_table, ↓tk_pl, ↓look_enc, ↓zc]
            exact ⟨True.intro, by decide, rt_same rfl h'⟩
    · exact h.elim
end
end LW
set_option maxRecDepth 100000
set_option maxHeartbeats 4000000
namespace LW
open PySem PySem.Spec PyProof.Rows L2 DL
local macro_rules | `(tactic| walk_at "dl") => `(tactic| simp only [↓wC_ap, ↓wNil_ap, ↓wCons_ap, ↓wLst_ap, ↓wTup_ap, ↓wOp_ap, ↓wB_ap, ↓wUn_ap, ↓wCB_ap, ↓wCall_ap, ↓wCallK_ap, ↓wSl_ap, ↓wPart_ap, ↓wNoPart_ap, ↓wAndT_ap, ↓wOrT_ap, ↓wNotT_ap, ↓wAndV_ap, ↓wOrV_ap, ↓wIf_ap, ↓wTru_ap, ↓wLc_ap, ↓wiSeq_ap, ↓wiRng1_ap, ↓wiRng2_ap, ↓wiZip_ap, ↓wLstRg_ap, ↓wTYes_ap, ↓wsNext_ap, ↓wsSeq_ap, ↓wsRet_ap, ↓wsRetN_ap, ↓wsRetF_ap, ↓wsDrop_ap, ↓wsIf_ap, ↓wsAsg_ap, ↓wsSet_ap, ↓wsSetF_ap, ↓wsPar_ap, ↓wsStore_ap, ↓wsFor_ap, ↓wsBreak_ap, ↓wsCont_ap, ↓wgName_ap, ↓wgNil_ap, ↓wgCons_ap, ↓wgTup_ap, ↓wVar_0, ↓wVar_s, ↓addD, ↓subD, ↓mulD, ↓modD, ↓fdivD, ↓powD, ↓negD, ↓notD, ↓eqD, ↓scalD, ↓inD, ↓isD, ↓ixD, ↓cmpD, ↓leD, ↓geD, ↓gtD, ↓ltD, ↓ordD, ↓lenD, ↓absD, ↓DL.intOfD, ↓listD, ↓allD, ↓isiD, ↓sliceD, ↓truD_non, ↓truD_bl, ↓truD_int, ↓truD_str, ↓truD_lst, ↓truD_tup, List.map_cons, List.map_nil, List.length_cons, List.length_nil, List.replicate, List.cons_append, List.nil_append, List.set_cons_zero, List.set_cons_succ, List.append_nil, List.zip_cons_cons, List.zip_nil_right, List.foldl_cons, List.foldl_nil, Nat.zero_add, Nat.add_zero, Nat.reduceAdd, Nat.reduceSub, Nat.reduceMul, if_true, if_false, Bool.false_eq_true, ite_true, ite_false, v_non, v_bl, v_int, v_str, v_ty, v_cst, v_lst, v_tup, v_dk, v_dt, v_ktp, v_obj, v_scr, startD_ap, wD_nil, wD_cons, wVar_0, wVar_s, ↓is_non_int, ↓is_bl_int, ↓is_int_int, ↓is_str_int, ↓is_lst_int, ↓is_tup_int, ↓is_dk_int, ↓is_non_bool, ↓is_bl_bool, ↓is_int_bool, ↓is_str_bool, ↓is_lst_bool, ↓is_tup_bool, ↓is_dk_bool, ↓is_non_str, ↓is_bl_str, ↓is_int_str, ↓is_str_str, ↓is_lst_str, ↓is_tup_str, ↓is_dk_str, ↓is_non_list, ↓is_bl_list, ↓is_int_list, ↓is_str_list, ↓is_lst_list, ↓is_tup_list, ↓is_dk_list, ↓is_non_tuple, ↓is_bl_tuple, ↓is_int_tuple, ↓is_str_tuple, ↓is_lst_tuple, ↓is_tup_tuple, ↓is_dk_tuple, ↓wsNever_ap, ↓wNever_ap, ↓wFr_ap, ↓wFLst_ap, ↓wFList_ap, ↓wFAdd_ap, ↓wBM_ap, ↓wBM0_ap, ↓wDGet_ap, ↓wDGet2_ap, ↓wsDPut_ap, ↓wNewT_ap, ↓wsRetire_ap, ↓wiKeysT_ap, ↓wDcT_ap, ↓wFld_ap, ↓wsFld_ap, ↓wMake_ap, ↓wMeth_ap, ↓wDictPT_ap, ↓wTruOwn_ap, ↓wFmt_ap, ↓wFs_ap, ↓wiEnum_ap, ↓wJs_nil, ↓wJs_cons, ↓wiEnumA_ap, ↓wNotOwn_ap, ↓wMethX0_ap, ↓wMethF0_ap, ↓wsBMX_ap, ↓wLcF_ap, ↓appendD, ↓popD, ↓entT, ↓dflT, ↓inT, ↓getT, ↓isDt, ↓fldD, ↓recvD, ↓isObjD, ↓isEqR, ↓eqOwnD, ↓inOwnD, ↓lenOwnD, ↓reprOwnD, ↓blP, ↓lenP, ↓strP, ↓truP, ↓lenDt, ↓listDt, ↓tupOf, ↓DL.strOf, ↓fmtD, ↓sortedT, ↓eqDt, ↓rcv, ↓empD, ↓boolOwnD, ↓isCD, ↓isCDof, isK_tup, List.lookup_cons, Option.getD_some, Option.getD_none, Option.isSome_some, Option.isSome_none])
section
variable {P : Program} {w : World} {K : PySem.W.Frag} {mg : Str → Option Value} {base : Heap} {C : Addr}
/-! first, by its keywords -/
abbrev FirstF (P : Program) (w : World) (K : PySem.W.Frag) (mg : Str → Option Value) (base : Heap) (C T : Addr) : Prop := ∃ f fd, MtF P w K mg base 6 C "first" ["self", "order", "last"] (sp_first C T) f fd ∧ FunD K "first" "Marks.first" (defArgs s_Marks_first) (defBody s_Marks_first) (defScope s_Marks_first) [] [("order", .str "columns"), ("last", .bl false)] f fd
def g_0 (s ds _es : List D) : List D := s ++ (ds ++ [.str "columns", .bl false])
def g_l (s ds es : List D) : List D := s ++ (ds ++ (.str "columns" :: es))
def g_o (s ds es : List D) : List D := s ++ (ds ++ (es ++ [.bl false]))
def g_lo (s ds es : List D) : List D := s ++ (ds ++ es.reverse)
def g_ol (s ds es : List D) : List D := s ++ (ds ++ es)
theorem rs_rev {M : Addr → Prop} {mu : List Addr} {H : Hp} : ∀ {ds : List D} {vs : List V}, Rs K M mu H ds vs → Rs K M mu H ds.reverse vs.reverse
  | [], _, e => by rw [show _ = [] from e]; exact rfl
  | d :: ds, _, ⟨v, r, e, a, b⟩ => by
    rw [e, List.reverse_cons, List.reverse_cons]
    exact (rs_rev b).app ⟨v, [], rfl, a, rfl⟩
theorem vals_rev {vs : List V} {us : List Value} (r : Vals vs us) : Vals vs.reverse us.reverse := by
  induction r with
  | nil => exact .nil
  | cons a _ ih => rw [List.reverse_cons, List.reverse_cons]; exact ih.append (.cons a .nil)
theorem km_0 {T : Addr} (h : FirstF P w K mg base C T) : MtK P w K mg base 6 C "first" [] (sp_first C T) g_0 := by
  obtain ⟨f, fd, F, D⟩ := h
  obtain ⟨mv, hb⟩ := D.kbinds0 (ps := ["self", "order", "last"]) 1 [] [("order", .str "columns"), ("last", .bl false)] (fun us mv _ => us ++ mv) (by simp) (fun _ h => h) (fun r1 r2 _ => r1.append r2) (fun D doc pm an cdv ct us mv ws h1 h2 h3 => match us, mv, ws, h1, h2, h3 with
    | [_], [_, _], [], _, _, _ => ⟨_, _, _, _, _, _, rfl, rfl, _, _, _, _, _, _, rfl, rfl, rfl⟩)
  refine ⟨f, fd, _, _, _, F.ok, F.c, F.m, hb, fun M mu H s ds es u us ws r1 r2 r3 => ?_⟩
  show Rs K M mu H (s ++ (ds ++ [.str "columns", .bl false])) ((u ++ us) ++ [.str "columns", .bl false])
  rw [List.append_assoc]
  exact r1.app (r2.app ⟨_, _, rfl, rfl, _, _, rfl, rfl, rfl⟩)
theorem km_l {T : Addr} (h : FirstF P w K mg base C T) : MtK P w K mg base 6 C "first" ["last"] (sp_first C T) g_l := by
  obtain ⟨f, fd, F, D⟩ := h
  obtain ⟨mv, hb⟩ := D.kbinds0 (ps := ["self", "order", "last"]) 1 ["last"] [("order", .str "columns")] (fun us mv ws => us ++ (mv ++ ws)) (by simp) (fun _ h => by rw [List.mem_singleton.mp h]; exact List.mem_cons_self ..) (fun r1 r2 r3 => r1.append (r2.append r3)) (fun D doc pm an cdv ct us mv ws h1 h2 h3 => match us, mv, ws, h1, h2, h3 with
    | [_], [_], [_], _, _, _ => ⟨_, _, _, _, _, _, rfl, rfl, rfl⟩)
  refine ⟨f, fd, _, _, _, F.ok, F.c, F.m, hb, fun M mu H s ds es u us ws r1 r2 r3 => ?_⟩
  show Rs K M mu H (s ++ (ds ++ (.str "columns" :: es))) ((u ++ us) ++ ([.str "columns"] ++ ws))
  rw [List.append_assoc]
  exact r1.app (r2.app ⟨_, _, rfl, rfl, r3⟩)
theorem km_o {T : Addr} (h : FirstF P w K mg base C T) : MtK P w K mg base 6 C "first" ["order"] (sp_first C T) g_o := by
  obtain ⟨f, fd, F, D⟩ := h
  obtain ⟨mv, hb⟩ := D.kbinds0 (ps := ["self", "order", "last"]) 1 ["order"] [("last", .bl false)] (fun us mv ws => us ++ (ws ++ mv)) (by simp) (fun _ h => by rw [List.mem_singleton.mp h]; exact List.mem_cons_of_mem _ (List.mem_cons_self ..)) (fun r1 r2 r3 => r1.append (r3.append r2)) (fun D doc pm an cdv ct us mv ws h1 h2 h3 => match us, mv, ws, h1, h2, h3 with
    | [_], [_], [_], _, _, _ => ⟨_, _, _, _, _, _, rfl, rfl, rfl⟩)
  refine ⟨f, fd, _, _, _, F.ok, F.c, F.m, hb, fun M mu H s ds es u us ws r1 r2 r3 => ?_⟩
  show Rs K M mu H (s ++ (ds ++ (es ++ [.bl false]))) ((u ++ us) ++ (ws ++ [.bl false]))
  rw [List.append_assoc]
  exact r1.app (r2.app (r3.app ⟨_, _, rfl, rfl, rfl⟩))
theorem km_lo {T : Addr} (h : FirstF P w K mg base C T) : MtK P w K mg base 6 C "first" ["last", "order"] (sp_first C T) g_lo := by
  obtain ⟨f, fd, F, D⟩ := h
  obtain ⟨mv, hb⟩ := D.kbinds0 (ps := ["self", "order", "last"]) 1 ["last", "order"] [] (fun us _ ws => us ++ ws.reverse) (by simp) (fun _ h => nomatch h) (fun r1 _ r3 => r1.append (vals_rev r3)) (fun D doc pm an cdv ct us mv ws h1 h2 h3 => match us, mv, ws, h1, h2, h3 with
    | [_], [], [_, _], _, _, _ => rfl)
  refine ⟨f, fd, _, _, _, F.ok, F.c, F.m, hb, fun M mu H s ds es u us ws r1 r2 r3 => ?_⟩
  show Rs K M mu H (s ++ (ds ++ es.reverse)) ((u ++ us) ++ ws.reverse)
  rw [List.append_assoc]
  exact r1.app (r2.app (rs_rev r3))
theorem km_ol {T : Addr} (h : FirstF P w K mg base C T) : MtK P w K mg base 6 C "first" ["order", "last"] (sp_first C T) g_ol := by
  obtain ⟨f, fd, F, D⟩ := h
  obtain ⟨mv, hb⟩ := D.kbinds0 (ps := ["self", "order", "last"]) 1 ["order", "last"] [] (fun us _ ws => us ++ ws) (by simp) (fun _ h => nomatch h) (fun r1 _ r3 => r1.append r3) (fun D doc pm an cdv ct us mv ws h1 h2 h3 => match us, mv, ws, h1, h2, h3 with
    | [_], [], [_, _], _, _, _ => rfl)
  refine ⟨f, fd, _, _, _, F.ok, F.c, F.m, hb, fun M mu H s ds es u us ws r1 r2 r3 => ?_⟩
  show Rs K M mu H (s ++ (ds ++ es)) ((u ++ us) ++ ws)
  rw [List.append_assoc]
  exact r1.app (r2.app r3)
end
end LW
set_option maxRecDepth 100000
set_option maxHeartbeats 4000000
namespace LW
open PySem PySem.Spec PyProof.Rows L2 DL
local macro_rules | `(tactic| walk_at "dl") => `(tactic| simp only [↓wC_ap, ↓wNil_ap, ↓wCons_ap, ↓wLst_ap, ↓wTup_ap, ↓wOp_ap, ↓wB_ap, ↓wUn_ap, ↓wCB_ap, ↓wCall_ap, ↓wCallK_ap, ↓wSl_ap, ↓wPart_ap, ↓wNoPart_ap, ↓wAndT_ap, ↓wOrT_ap, ↓wNotT_ap, ↓wAndV_ap, ↓wOrV_ap, ↓wIf_ap, ↓wTru_ap, ↓wLc_ap, ↓wiSeq_ap, ↓wiRng1_ap, ↓wiRng2_ap, ↓wiZip_ap, ↓wLstRg_ap, ↓wTYes_ap, ↓wsNext_ap, ↓wsSeq_ap, ↓wsRet_ap, ↓wsRetN_ap, ↓wsRetF_ap, ↓wsDrop_ap, ↓wsIf_ap, ↓wsAsg_ap, ↓wsSet_ap, ↓wsSetF_ap, ↓wsPar_ap, ↓wsStore_ap, ↓wsFor_ap, ↓wsBreak_ap, ↓wsCont_ap, ↓wgName_ap, ↓wgNil_ap, ↓wgCons_ap, ↓wgTup_ap, ↓wVar_0, ↓wVar_s, ↓addD, ↓subD, ↓mulD, ↓modD, ↓fdivD, ↓powD, ↓negD, ↓notD, ↓eqD, ↓scalD, ↓inD, ↓isD, ↓ixD, ↓cmpD, ↓leD, ↓geD, ↓gtD, ↓ltD, ↓ordD, ↓lenD, ↓absD, ↓DL.intOfD, ↓listD, ↓allD, ↓isiD, ↓sliceD, ↓truD_non, ↓truD_bl, ↓truD_int, ↓truD_str, ↓truD_lst, ↓truD_tup, List.map_cons, List.map_nil, List.length_cons, List.length_nil, List.replicate, List.cons_append, List.nil_append, List.set_cons_zero, List.set_cons_succ, List.append_nil, List.zip_cons_cons, List.zip_nil_right, List.foldl_cons, List.foldl_nil, Nat.zero_add, Nat.add_zero, Nat.reduceAdd, Nat.reduceSub, Nat.reduceMul, if_true, if_false, Bool.false_eq_true, ite_true, ite_false, v_non, v_bl, v_int, v_str, v_ty, v_cst, v_lst, v_tup, v_dk, v_dt, v_ktp, v_obj, v_scr, startD_ap, wD_nil, wD_cons, wVar_0, wVar_s, ↓is_non_int, ↓is_bl_int, ↓is_int_int, ↓is_str_int, ↓is_lst_int, ↓is_tup_int, ↓is_dk_int, ↓is_non_bool, ↓is_bl_bool, ↓is_int_bool, ↓is_str_bool, ↓is_lst_bool, ↓is_tup_bool, ↓is_dk_bool, ↓is_non_str, ↓is_bl_str, ↓is_int_str, ↓is_str_str, ↓is_lst_str, ↓is_tup_str, ↓is_dk_str, ↓is_non_list, ↓is_bl_list, ↓is_int_list, ↓is_str_list, ↓is_lst_list, ↓is_tup_list, ↓is_dk_list, ↓is_non_tuple, ↓is_bl_tuple, ↓is_int_tuple, ↓is_str_tuple, ↓is_lst_tuple, ↓is_tup_tuple, ↓is_dk_tuple, ↓wsNever_ap, ↓wNever_ap, ↓wFr_ap, ↓wFLst_ap, ↓wFList_ap, ↓wFAdd_ap, ↓wBM_ap, ↓wBM0_ap, ↓wDGet_ap, ↓wDGet2_ap, ↓wsDPut_ap, ↓wNewT_ap, ↓wsRetire_ap, ↓wiKeysT_ap, ↓wDcT_ap, ↓wFld_ap, ↓wsFld_ap, ↓wMake_ap, ↓wMeth_ap, ↓wDictPT_ap, ↓wTruOwn_ap, ↓wFmt_ap, ↓wFs_ap, ↓wiEnum_ap, ↓wJs_nil, ↓wJs_cons, ↓wiEnumA_ap, ↓wNotOwn_ap, ↓wMethX0_ap, ↓wMethF0_ap, ↓wsBMX_ap, ↓wLcF_ap, ↓appendD, ↓popD, ↓entT, ↓dflT, ↓inT, ↓getT, ↓isDt, ↓fldD, ↓recvD, ↓isObjD, ↓isEqR, ↓eqOwnD, ↓inOwnD, ↓lenOwnD, ↓reprOwnD, ↓blP, ↓lenP, ↓strP, ↓truP, ↓lenDt, ↓listDt, ↓tupOf, ↓DL.strOf, ↓fmtD, ↓sortedT, ↓eqDt, ↓rcv, ↓empD, ↓boolOwnD, ↓isCD, ↓isCDof, isK_tup, List.lookup_cons, Option.getD_some, Option.getD_none, Option.isSome_some, Option.isSome_none])
section
variable {P : Program} {w : World} {K : PySem.W.Frag} {mg : Str → Option Value} {base : Heap} {C : Addr}
theorem l13 : ∀ {o : List (Option D)}, o.length = 13 → ∃ o2 o3 o4 o5 o6 o7 o8 o9 o10 o11 o12 o13 o14, o = [o2, o3, o4, o5, o6, o7, o8, o9, o10, o11, o12, o13, o14]
  | [_, _, _, _, _, _, _, _, _, _, _, _, _], _ => ⟨_, _, _, _, _, _, _, _, _, _, _, _, _, rfl⟩
def St (T1 T2 : Addr) (b : List D) : Sto := [D.tb T1 "law.<locals>.<lambda>", D.tb T2 "Marks.first.<locals>.<lambda>", D.lst b]
theorem pure_St {T1 T2 : Addr} {b : List D} (h : BagOk b) : PureS (St T1 T2 b) := fun d hd => by
  rcases List.mem_cons.mp hd with e | hd
  · rw [e]; exact fun _ => rfl
  rcases List.mem_cons.mp hd with e | hd
  · rw [e]; exact fun _ => rfl
  rw [List.mem_singleton.mp hd]
  exact pure_bag h
def pairOf : D → D
  | .tup [a, b, c] => .tup [.tup [a, b], c]
  | d => d
theorem cut_2 {a b c : D} : DL.cutD [a, b, c] none (some 2) = [a, b] := rfl
/-- the rows in an order, and None -/
def rowsBy (f : Pl → Pl) (t : Tab) : List D := (sortBy f (t.map (·.1))).map (fun p => rowD (p, (tget t p).getD 0)) ++ [.non]
def endsD (t : Tab) : List D := [firstD "columns" false t, firstD "columns" true t, firstD "rows" false t, firstD "rows" true t]
def endD (f : Pl → Pl) (last : Bool) (t : Tab) : D := match endP last (sortBy f (t.map (·.1))) with
  | some p => rowD (p, (tget t p).getD 0)
  | none => .non
theorem atI_nat {α : Type} {l : List α} {n : Nat} (h : n < l.length) : atI l (n : Int) = l[n]? := by
  have e : ixN l.length (n : Int) = some n := by
    unfold ixN
    rw [if_pos (by omega), if_pos (by omega)]
    simp
  unfold atI
  rw [e]
  rfl
theorem end_head (f : Pl → Pl) (t : Tab) : atI (rowsBy f t) 0 = some (endD f false t) := by
  unfold rowsBy endD
  cases sortBy f (t.map (·.1)) with
  | nil => rfl
  | cons p ps =>
    rw [atI_head (by simp)]
    rfl
theorem end_last (f : Pl → Pl) (t : Tab) : atI (rowsBy f t) (if (((rowsBy f t).length : Nat) : Int) - 2 > 0 then (((rowsBy f t).length : Nat) : Int) - 2 else 0) = some (endD f true t) := by
  unfold rowsBy endD
  cases sortBy f (t.map (·.1)) with
  | nil => rfl
  | cons p ps =>
    have e : (if ((((p :: ps).map (fun p => rowD (p, (tget t p).getD 0)) ++ [D.non]).length : Nat) : Int) - 2 > 0 then ((((p :: ps).map (fun p => rowD (p, (tget t p).getD 0)) ++ [D.non]).length : Nat) : Int) - 2 else 0) = ((ps.length : Nat) : Int) := by
      rw [List.length_append, List.length_map, List.length_cons, List.length_singleton]
      split <;> omega
    rw [e, atI_nat (by rw [List.length_append, List.length_map, List.length_cons]; omega)]
    rw [List.getElem?_append_left (by rw [List.length_map, List.length_cons]; omega), List.getElem?_map]
    have e2 : endP true (p :: ps) = (p :: ps)[ps.length]? := by
      show (p :: ps).getLast? = _
      rw [List.getLast?_eq_getElem?]
      rfl
    rw [e2, List.getElem?_eq_getElem (by rw [List.length_cons]; omega)]
    rfl
theorem key_cols : keyP "columns" = id := funext fun p => if_pos rfl
theorem first_cols (last : Bool) (t : Tab) : firstD "columns" last t = endD id last t := by
  show endD (keyP "columns") last t = _
  rw [key_cols]
theorem deep_first (s : Str) (last : Bool) (t : Tab) : deep (firstD s last t) = true ∧ dep (firstD s last t) ≤ 1 := by
  unfold firstD
  cases endP last (sortBy (keyP s) (t.map (·.1))) with
  | none => exact ⟨rfl, Nat.zero_le _⟩
  | some p => exact ⟨rfl, Nat.le_refl _⟩
theorem dep_le {n : Nat} : ∀ {l : List D}, (∀ d ∈ l, dep d ≤ n) → deps l ≤ n
  | [], _ => Nat.zero_le _
  | d :: l, h => Nat.max_le.mpr ⟨h d (List.mem_cons_self ..), dep_le fun x hx => h x (List.mem_cons_of_mem _ hx)⟩
theorem ends_mem {t : Tab} {d : D} (h : d ∈ endsD t) : deep d = true ∧ dep d ≤ 1 := by
  unfold endsD at h
  rcases List.mem_cons.mp h with e | h
  · rw [e]; exact deep_first _ _ _
  rcases List.mem_cons.mp h with e | h
  · rw [e]; exact deep_first _ _ _
  rcases List.mem_cons.mp h with e | h
  · rw [e]; exact deep_first _ _ _
  rw [List.mem_singleton.mp h]
  exact deep_first _ _ _
theorem deep_ends (t : Tab) : deep (.lst (endsD t)) = true := deep_leaf (show 4 ≤ 1000000 by decide) fun d hd => (ends_mem hd).1
theorem dep_ends (t : Tab) : dep (.lst (endsD t)) ≤ 3 := Nat.succ_le_succ (Nat.le_trans (dep_le fun d hd => (ends_mem hd).2) (by decide))
theorem two_mem {t : Tab} {d : D} (h : d ∈ [firstD "columns" false t, firstD "rows" false t]) : deep d = true ∧ dep d ≤ 1 := by
  rcases List.mem_cons.mp h with e | h
  · rw [e]; exact deep_first _ _ _
  rw [List.mem_singleton.mp h]
  exact deep_first _ _ _
theorem deep_two (t : Tab) : deep (.lst [firstD "columns" false t, firstD "rows" false t]) = true := deep_leaf (show 2 ≤ 1000000 by decide) fun d hd => (two_mem hd).1
theorem dep_two (t : Tab) : dep (.lst [firstD "columns" false t, firstD "rows" false t]) ≤ 3 := Nat.succ_le_succ (Nat.le_trans (dep_le fun d hd => (two_mem hd).2) (by decide))
theorem rows_lc {a0 a1 a2 a3 a4 a5 a6 a8 a9 a10 a11 a12 a13 a14 : Option D} {S : Sto} {P : List D → Sto → Prop} {t : Tab} {L : List Pl} (hlen : L.length ≤ 1000000) (hm : ∀ p ∈ L, (tget t p).isSome = true) (h : P (L.map fun p => rowD (p, (tget t p).getD 0)) S) :
    lcW (wgName 11) wTYes (wOp addD (wVar 11) (wTup (wCons (wDGet (wVar 7) (wVar 11)) wNil))) [a0, a1, a2, a3, a4, a5, a6, some (.dt (encT t)), a8, a9, a10, a11, a12, a13, a14] P (L.map plD) [] S := by
  refine lcW_map (fun d => rowD (unP d, (tget t (unP d)).getD 0)) (L.map plD) [] (fun y hy Q hq => ?_) (by rw [List.length_nil, List.length_map]; omega) (by rw [List.nil_append, List.map_map]; exact h)
  obtain ⟨⟨p, q⟩, hpq, rfl⟩ := List.mem_map.mp hy
  have hin := hm _ hpq
  cases zc : tget t (p, q) with
  | none => rw [zc] at hin; cases hin
  | some c =>
    have hq' : Q (.tup [.int p, .int q, .int ((tget t (p, q)).getD 0)]) S := hq
    rw [zc] at hq'
    unfold plD
    simp only [↓wC_ap, ↓wNil_ap, ↓wCons_ap, ↓wLst_ap, ↓wTup_ap, ↓wOp_ap, ↓wB_ap, ↓wUn_ap, ↓wCB_ap, ↓wCall_ap, ↓wCallK_ap, ↓wSl_ap, ↓wPart_ap, ↓wNoPart_ap, ↓wAndT_ap, ↓wOrT_ap, ↓wNotT_ap, ↓wAndV_ap, ↓wOrV_ap, ↓wIf_ap, ↓wTru_ap, ↓wLc_ap, ↓wiSeq_ap, ↓wiRng1_ap, ↓wiRng2_ap, ↓wiZip_ap, ↓wLstRg_ap, ↓wTYes_ap, ↓wsNext_ap, ↓wsSeq_ap, ↓wsRet_ap, ↓wsRetN_ap, ↓wsRetF_ap, ↓wsDrop_ap, ↓wsIf_ap, ↓wsAsg_ap, ↓wsSet_ap, ↓wsSetF_ap, ↓wsPar_ap, ↓wsStore_ap, ↓wsFor_ap, ↓wsBreak_ap, ↓wsCont_ap, ↓wgName_ap, ↓wgNil_ap, ↓wgCons_ap, ↓wgTup_ap, ↓wVar_0, ↓wVar_s, ↓addD, ↓subD, ↓mulD, ↓modD, ↓fdivD, ↓powD, ↓negD, ↓notD, ↓eqD, ↓scalD, ↓inD, ↓isD, ↓ixD, ↓cmpD, ↓leD, ↓geD, ↓gtD, ↓ltD, ↓ordD, ↓lenD, ↓absD, ↓DL.intOfD, ↓listD, ↓allD, ↓isiD, ↓sliceD, ↓truD_non, ↓truD_bl, ↓truD_int, ↓truD_str, ↓truD_lst, ↓truD_tup, List.map_cons, List.map_nil, List.length_cons, List.length_nil, List.replicate, List.cons_append, List.nil_append, List.set_cons_zero, List.set_cons_succ, List.append_nil, List.zip_cons_cons, List.zip_nil_right, List.foldl_cons, List.foldl_nil, Nat.zero_add, Nat.add_zero, Nat.reduceAdd, Nat.reduceSub, Nat.reduceMul, if_true, if_false, Bool.false_eq_true, ite_true, ite_false, v_non, v_bl, v_int, v_str, v_ty, v_cst, v_lst, v_tup, v_dk, v_dt, v_ktp, v_obj, v_scr, startD_ap, wD_nil, wD_cons, wVar_0, wVar_s, ↓is_non_int, ↓is_bl_int, ↓is_int_int, ↓is_str_int, ↓is_lst_int, ↓is_tup_int, ↓is_dk_int, ↓is_non_bool, ↓is_bl_bool, ↓is_int_bool, ↓is_str_bool, ↓is_lst_bool, ↓is_tup_bool, ↓is_dk_bool, ↓is_non_str, ↓is_bl_str, ↓is_int_str, ↓is_str_str, ↓is_lst_str, ↓is_tup_str, ↓is_dk_str, ↓is_non_list, ↓is_bl_list, ↓is_int_list, ↓is_str_list, ↓is_lst_list, ↓is_tup_list, ↓is_dk_list, ↓is_non_tuple, ↓is_bl_tuple, ↓is_int_tuple, ↓is_str_tuple, ↓is_lst_tuple, ↓is_tup_tuple, ↓is_dk_tuple, ↓wsNever_ap, ↓wNever_ap, ↓wFr_ap, ↓wFLst_ap, ↓wFList_ap, ↓wFAdd_ap, ↓wBM_ap, ↓wBM0_ap, ↓wDGet_ap, ↓wDGet2_ap, ↓wsDPut_ap, ↓wNewT_ap, ↓wsRetire_ap, ↓wiKeysT_ap, ↓wDcT_ap, ↓wFld_ap, ↓wsFld_ap, ↓wMake_ap, ↓wMeth_ap, ↓wDictPT_ap, ↓wTruOwn_ap, ↓wFmt_ap, ↓wFs_ap, ↓wiEnum_ap, ↓wJs_nil, ↓wJs_cons, ↓wiEnumA_ap, ↓wNotOwn_ap, ↓wMethX0_ap, ↓wMethF0_ap, ↓wsBMX_ap, ↓wLcF_ap, ↓appendD, ↓popD, ↓entT, ↓dflT, ↓inT, ↓getT, ↓isDt, ↓fldD, ↓recvD, ↓isObjD, ↓isEqR, ↓eqOwnD, ↓inOwnD, ↓lenOwnD, ↓reprOwnD, ↓blP, ↓lenP, ↓strP, ↓truP, ↓lenDt, ↓listDt, ↓tupOf, ↓DL.strOf, ↓fmtD, ↓sortedT, ↓eqDt, ↓rcv, ↓empD, ↓boolOwnD, ↓isCD, ↓isCDof, isK_tup, List.lookup_cons, Option.getD_some, Option.getD_none, Option.isSome_some, Option.isSome_none, ↓tk_pl, ↓look_enc, ↓zc]
    exact ⟨by decide, ⟨True.intro, True.intro⟩, by decide, hq'⟩
theorem law_hw {T1 T2 c : Addr} (B : Bn mg) (tb_law : LamX.TabB base mg c T1) (c_law_bag : CalFr P w K mg base CX0 1 "_law_bag" ["_law_script"] sp_bag) (c_law_pull : Cal P w K mg base CX0 1 "_law_pull" ["_law_bag_here", "_law_many"] sp_pull) (c_law_near : Cal P w K mg base CX0 2 "_law_near" ["_law_bag_here", "_law_far"] sp_near) (c_law_of : Cal P w K mg base CX0 2 "_law_of" ["_law_bag_here", "_law_some"] sp_of)
    (c_law_same : Cal P w K mg base CX0 4 "_law_same" ["_law_found", "_law_due"] (sp_same 3)) (c_law_ink : Cal P w K mg base CX0 3 "_law_ink" ["_law_bag_here"] sp_law_ink) (c_law_sum : Cal P w K mg base CX0 2 "_law_sum" ["_law_rows", "_law_ink_z"] sp_law_sum)
    (nw_Marks_1_ink : NewC P w K mg base 4 "Marks" C 1 ["ink"] (sp_init C) gd1) (nw_Marks_0 : NewC P w K mg base 4 "Marks" C 0 [] (sp_init C) gd0) (km : FirstF P w K mg base C T2)
    {f : Addr} {fd : FuncData} (F : FunD K "law" "law" (defArgs s_law) (defBody s_law) (defScope s_law) [] [] f fd) (hc : CodeIs K f c) : FnOk P w K mg base CX0 8 f fd ["_law_script"] (toSp K (spLawT [(T1, "law.<locals>.<lambda>"), (T2, "Marks.first.<locals>.<lambda>")])) := by
  obtain ⟨sp_bag', c_law_bag, h_bag⟩ := hideF c_law_bag
  obtain ⟨sp_pull', c_law_pull, h_pull⟩ := hide c_law_pull
  obtain ⟨sp_near', c_law_near, h_near⟩ := hide c_law_near
  obtain ⟨sp_of', c_law_of, h_of⟩ := hide c_law_of
  obtain ⟨sp_same', c_law_same, h_same⟩ := hide c_law_same
  obtain ⟨sp_ink', c_law_ink, h_ink⟩ := hide c_law_ink
  obtain ⟨sp_sum', c_law_sum, h_sum⟩ := hide c_law_sum
  obtain ⟨sp_n1, nw_Marks_1_ink, h_n1⟩ := hideN nw_Marks_1_ink
  obtain ⟨sp_n0, nw_Marks_0, h_n0⟩ := hideN nw_Marks_0
  obtain ⟨sp_0, km_Marks_first, h_0⟩ := hideMK (km_0 km)
  obtain ⟨sp_l, km_Marks_first_last, h_l⟩ := hideMK (km_l km)
  obtain ⟨sp_o, km_Marks_first_order, h_o⟩ := hideMK (km_o km)
  obtain ⟨sp_lo, km_Marks_first_last_order, h_lo⟩ := hideMK (km_lo km)
  obtain ⟨sp_ol, km_Marks_first_order_last, h_ol⟩ := hideMK (km_ol km)
  refine okC_def F hc sc_law (fun ds S P E h => ?_) (fun A outer s H E hr => (dss_cons (ds_setF (i := 1) sc_law.nd rfl (by first | exact .inl rfl | exact .inr rfl) (df_cal c_law_bag hr pass00 (da_cons (de_var 0 (pv 0)) da_nil)))
  (dss_cons (ds_for (passes_of rfl) rfl (di_range1 rfl B.range (da_cons de_int da_nil)) (dg_name (pg_name (i := 2) sc_law.nd rfl (by first | exact .inl rfl | exact .inr rfl)))
  (dss_cons (ds_asg (de_tup (da_cons (de_cal c_law_ink hr pass00 (da_cons (de_var 1 (pv 1)) da_nil)) (da_cons (de_cal c_law_of hr pass00 (da_cons (de_var 1 (pv 1)) (da_cons (de_lst (da_cons de_int (da_cons de_int (da_cons (de_op op_pow opd_pow de_int de_int) da_nil)))) da_nil))) da_nil))) (dg_tup (n := 2) rfl (dgs_cons (dg_name (pg_name (i := 3) sc_law.nd rfl (by first | exact .inl rfl | exact .inr rfl))) (dgs_cons (dg_name (pg_name (i := 4) sc_law.nd rfl (by first | exact .inl rfl | exact .inr rfl))) dgs_nil))))
  (dss_cons (ds_setLc (i := 5) (own := [("_law_k", 6)]) rfl sc_law.nd rfl rfl (sw_true rfl rfl rfl (by decide +kernel)) (di_range1 rfl B.range (da_cons (de_cal c_law_pull hr pass00 (da_cons (de_var 1 (pv 1)) (da_cons de_int da_nil))) da_nil)) (blkOk_by (N := N_law) (sc := defScope s_law) (by decide +kernel)) (fun _ _ _ _ _ => (dg_name (pg_name (i := 6) sc_law.nd rfl (by first | exact .inl rfl | exact .inr rfl)))) (fun _ _ _ _ _ => dts_nil) (fun _ _ _ _ _ => (de_tup (da_cons (de_cal c_law_near hr pass00 (da_cons (de_var 1 (pv 1)) (da_cons (de_var 4 (pv 4)) da_nil))) (da_cons (de_cal c_law_near hr pass00 (da_cons (de_var 1 (pv 1)) (da_cons (de_var 4 (pv 4)) da_nil))) (da_cons (de_op op_addA opd_add de_int (de_cal c_law_pull hr pass00 (da_cons (de_var 1 (pv 1)) (da_cons de_int da_nil)))) da_nil))))))
  (dss_cons (ds_set (i := 7) sc_law.nd rfl (by first | exact .inl rfl | exact .inr rfl) (de_cal c_law_sum hr pass00 (da_cons (de_lc (own := [("_law_row", 8)]) rfl sc_law.nd (di_list (de_var 5 (pv 5))) (blkOk_by (N := N_law) (sc := defScope s_law) (by decide +kernel)) (fun _ _ _ _ _ => (dg_name (pg_name (i := 8) sc_law.nd rfl (by first | exact .inl rfl | exact .inr rfl)))) (fun _ _ _ _ _ => dts_nil) (fun _ _ _ _ _ => (de_tup (da_cons (de_slice (de_var 8 (pv 8)) do_none (do_some de_int)) (da_cons (de_ix (de_var 8 (pv 8)) de_int) da_nil))))) (da_cons (de_var 3 (pv 3)) da_nil))))
  (dss_cons (ds_set (i := 9) sc_law.nd rfl (by first | exact .inl rfl | exact .inr rfl) (de_new nw_Marks_1_ink hr (da_cons (de_var 5 (pv 5)) da_nil) (dk_cons (de_var 3 (pv 3)) dk_nil)))
  (dss_cons (ds_set (i := 10) sc_law.nd rfl (by first | exact .inl rfl | exact .inr rfl) (de_op op_addA opd_add (de_lc (own := [("_law_spot", 11)]) rfl sc_law.nd (di_list (de_callB (cr_sortS (d := 2) (by decide)) calld_sorted rfl B.sorted bt_sorted (da_cons (de_callTy (call_list_dT rfl) calld_listDt rfl B.list bt_list (da_cons (de_var 7 (pv 7)) da_nil)) da_nil))) (blkOk_by (N := N_law) (sc := defScope s_law) (by decide +kernel)) (fun _ _ _ _ _ => (dg_name (pg_name (i := 11) sc_law.nd rfl (by first | exact .inl rfl | exact .inr rfl)))) (fun _ _ _ _ _ => dts_nil) (fun _ _ _ _ _ => (de_op op_addA opd_add (de_var 11 (pv 11)) (de_tup (da_cons (de_dget hr.units (de_var 7 (pv 7)) (de_var 11 (pv 11))) da_nil))))) (de_lst (da_cons de_non da_nil))))
  (dss_cons (ds_set (i := 12) sc_law.nd rfl (by first | exact .inl rfl | exact .inr rfl) (de_op op_addA opd_add (de_lc (own := [("_law_spot", 11)]) rfl sc_law.nd (di_list (de_sortLam (k := 2) (j := 11) (q := "law.<locals>.<lambda>") B.sorted (de_callTy (call_list_dT rfl) calld_listDt rfl B.list bt_list (da_cons (de_var 7 (pv 7)) da_nil)) tb_law rfl (hr.mono (by decide)) (LamY.lamP_by (sc := defScope s_law) (by decide +kernel)) sc_law.nd rfl rfl (fun _ _ _ _ _ hl => (de_tup (da_cons (de_ix (de_var 11 (pv 11)) de_int) (da_cons (de_ix (de_var 11 (pv 11)) de_int) da_nil)))))) (blkOk_by (N := N_law) (sc := defScope s_law) (by decide +kernel)) (fun _ _ _ _ _ => (dg_name (pg_name (i := 11) sc_law.nd rfl (by first | exact .inl rfl | exact .inr rfl)))) (fun _ _ _ _ _ => dts_nil) (fun _ _ _ _ _ => (de_op op_addA opd_add (de_var 11 (pv 11)) (de_tup (da_cons (de_dget hr.units (de_var 7 (pv 7)) (de_var 11 (pv 11))) da_nil))))) (de_lst (da_cons de_non da_nil))))
  (dss_cons (ds_set (i := 13) sc_law.nd rfl (by first | exact .inl rfl | exact .inr rfl) (de_lst (da_cons (de_ix (de_var 10 (pv 10)) de_int) (da_cons (de_ix (de_var 10 (pv 10)) (de_callB (call_max2 rfl) calld_max2 rfl B.max bt_max (da_cons de_int (da_cons (de_op op_sub opd_sub (de_callB call_len calld_len rfl B.len bt_len (da_cons (de_var 10 (pv 10)) da_nil)) de_int) da_nil)))) (da_cons (de_ix (de_var 12 (pv 12)) de_int) (da_cons (de_ix (de_var 12 (pv 12)) (de_callB (call_max2 rfl) calld_max2 rfl B.max bt_max (da_cons de_int (da_cons (de_op op_sub opd_sub (de_callB call_len calld_len rfl B.len bt_len (da_cons (de_var 12 (pv 12)) da_nil)) de_int) da_nil)))) da_nil))))))
  (dss_cons (ds_set (i := 14) sc_law.nd rfl (by first | exact .inl rfl | exact .inr rfl) (de_lst (da_cons (de_methK km_Marks_first hr (de_var 9 (pv 9)) dk_nil) (da_cons (de_methK km_Marks_first_last hr (de_var 9 (pv 9)) (dk_cons de_bl dk_nil)) (da_cons (de_methK km_Marks_first_order hr (de_var 9 (pv 9)) (dk_cons de_str dk_nil)) (da_cons (de_methK km_Marks_first_last_order hr (de_var 9 (pv 9)) (dk_cons de_bl (dk_cons de_str dk_nil))) da_nil))))))
  (dss_cons (ds_if (dt_not (dt_tru (de_cal c_law_same hr pass00 (da_cons (de_var 14 (pv 14)) (da_cons (de_var 13 (pv 13)) da_nil))))) (dss_one (ds_ret de_bl)) dss_nil)
  (dss_one (ds_if (dt_not (dt_tru (de_cal c_law_same hr pass00 (da_cons (de_lst (da_cons (de_methK km_Marks_first_order_last hr (de_var 9 (pv 9)) (dk_cons de_str (dk_cons de_bl dk_nil))) (da_cons (de_methK km_Marks_first_last_order hr (de_var 9 (pv 9)) (dk_cons de_bl (dk_cons de_str dk_nil))) da_nil))) (da_cons (de_lst (da_cons (de_ix (de_var 13 (pv 13)) de_int) (da_cons (de_ix (de_var 13 (pv 13)) de_int) da_nil))) da_nil))))) (dss_one (ds_ret de_bl)) dss_nil))))))))))))
  (dss_one (ds_ret (de_cmp op_isN opd_is (de_methK km_Marks_first hr (de_new0 nw_Marks_0 hr dk_nil) dk_nil) de_non)))))) (fun ds S P E hS h => ?_)
  · unfold spLawT at h
    split at h
    · rfl
    · exact h.elim
  · unfold spLawT at h
    split at h
    · rename_i ns
      obtain ⟨hl, rfl, h⟩ := h
      rw [startD_ap]
      refine ws_join (fun ρ' S' => ρ' = some (.scr ns) :: some (.loc 2) :: List.replicate (N_law.length - 2) none ∧ ∃ b, S' = St T1 T2 b ∧ BagOk b) (fun nx hn => ?_) ?_
      · walk_at "dl"
        exact h_bag _ _ _ _ ⟨hl, fun b hb => hn _ _ ⟨rfl, b, rfl, hb⟩⟩
      rintro _ _ ⟨rfl, b, rfl, hb⟩
      refine ws_join (fun ρ' S' => (∃ b, S' = St T1 T2 b ∧ BagOk b) ∧ ∃ o, o.length = 13 ∧ ρ' = some (.scr ns) :: some (.loc 2) :: o) (fun nx hn => ?_) ?_
      · walk_at "dl"
        refine ⟨by decide, for_inv (fun xs ρ S' => (∃ b, S' = St T1 T2 b ∧ BagOk b) ∧ ∃ o, o.length = 13 ∧ ρ = some (.scr ns) :: some (.loc 2) :: o) ?_ ?_ _ _ _ ⟨⟨b, rfl, hb⟩, _, rfl, rfl⟩⟩
        · rintro x xs ρ S' ⟨⟨b, rfl, hb⟩, o, ho, rfl⟩ nx hn
          obtain ⟨o2, o3, o4, o5, o6, o7, o8, o9, o10, o11, o12, o13, o14, rfl⟩ := l13 ho
          rw [wgName_ap]
          refine ws_join (fun ρ' S' => ∃ b z far, S' = St T1 T2 b ∧ BagOk b ∧ isInk (.int z) = true ∧ 0 ≤ z ∧ 0 ≤ far ∧ far ≤ 10 ^ 30 ∧ ρ' = [some (.scr ns), some (.loc 2), some x, some (.int z), some (.int far), o5, o6, o7, o8, o9, o10, o11, o12, o13, o14]) (fun nx hn => ?_) ?_
          · walk_at "dl"
            refine h_ink _ _ _ _ ⟨b, rfl, hb, fun z b1 hz h0 hb1 => ?_⟩
            dsimp only
            refine ⟨by decide, by decide, h_of _ _ _ _ ⟨b1, rfl, hb1, by simp, by simp, fun y b2 hy hb2 => ?_⟩⟩
            obtain ⟨far, rfl, g0, g1⟩ : ∃ far : Int, y = .int far ∧ 0 ≤ far ∧ far ≤ 10 ^ 30 := by
              have q : y = .int 1 ∨ y = .int 3 ∨ y = .int (10 ^ Int.toNat 30) := by simpa using hy
              rcases q with q | q | q
              · exact ⟨_, q, by decide, by decide⟩
              · exact ⟨_, q, by decide, by decide⟩
              · exact ⟨_, q, by decide, by decide⟩
            exact ⟨by decide, True.intro, True.intro, hn _ _ ⟨b2, z, far, rfl, hb2, hz, h0, g0, g1, rfl⟩⟩
          rintro _ _ ⟨b, z, far, rfl, hb, hz, h0, hf0, hf1, rfl⟩
          refine ws_join (fun ρ' S' => ∃ b, ∃ rows : List (Pl × Int), S' = St T1 T2 b ∧ BagOk b ∧ rows.length < 10 ∧ ρ' = [some (.scr ns), some (.loc 2), some x, some (.int z), some (.int far), some (.lst (rows.map rowD)), o6, o7, o8, o9, o10, o11, o12, o13, o14]) (fun nx hn => ?_) ?_
          · walk_at "dl"
            refine h_pull _ _ _ _ ⟨b, rfl, hb, by decide, by decide +kernel, fun n b1 hn0 hn1 hb1 => ?_⟩
            dsimp only
            refine ⟨⟨by omega, by omega⟩, True.intro, lcW_inv (fun acc S' => ∃ b, ∃ rows : List (Pl × Int), acc = rows.map rowD ∧ S' = St T1 T2 b ∧ BagOk b) (fun k acc S ⟨b, rows, e, e2, hb⟩ Q hQ => ?step) _ [] _ ⟨b1, [], rfl, rfl, hb1⟩ (by rw [List.length_nil]; simp [rangeD]; omega) (fun ys S' hy ⟨b, rows, e, e2, hb⟩ => ?fin)⟩
            case step =>
              subst e e2
              walk_at "dl"
              refine h_near _ _ _ _ ⟨b, rfl, hb, hf0, Int.lt_of_le_of_lt hf1 (by decide +kernel), fun z1 b1 _ _ hb1 => ?_⟩
              refine h_near _ _ _ _ ⟨b1, rfl, hb1, hf0, Int.lt_of_le_of_lt hf1 (by decide +kernel), fun z2 b2 _ _ hb2 => ?_⟩
              refine h_pull _ _ _ _ ⟨b2, rfl, hb2, by decide, by decide +kernel, fun z3 b3 _ _ hb3 => ?_⟩
              exact ⟨by decide, hQ _ _ ⟨b3, rows ++ [((z1, z2), 1 + z3)], by rw [List.map_append]; rfl, rfl, hb3⟩⟩
            case fin =>
              subst e e2
              refine hn _ _ ⟨b, rows, rfl, hb, ?_, rfl⟩
              rw [List.length_map, List.length_nil] at hy
              simp [rangeD] at hy
              omega
          clear hb
          rintro _ _ ⟨b, rows, rfl, hb, hlen, rfl⟩
          refine ws_join (fun ρ' S' => S' = St T1 T2 b ∧ ρ' = [some (.scr ns), some (.loc 2), some x, some (.int z), some (.int far), some (.lst (rows.map rowD)), o6, some (.dt (encT (tabI z rows))), o8, o9, o10, o11, o12, o13, o14]) (fun nx hn => ?_) ?_
          · walk_at "dl"
            refine ⟨True.intro, lcW_map pairOf (rows.map rowD) [] (fun y hy Q hq => ?_) (by rw [List.length_nil, List.length_map]; omega) ?_⟩
            · obtain ⟨⟨⟨p, q⟩, c⟩, _, rfl⟩ := List.mem_map.mp hy
              unfold rowD
              simp only [↓wC_ap, ↓wNil_ap, ↓wCons_ap, ↓wLst_ap, ↓wTup_ap, ↓wOp_ap, ↓wB_ap, ↓wUn_ap, ↓wCB_ap, ↓wCall_ap, ↓wCallK_ap, ↓wSl_ap, ↓wPart_ap, ↓wNoPart_ap, ↓wAndT_ap, ↓wOrT_ap, ↓wNotT_ap, ↓wAndV_ap, ↓wOrV_ap, ↓wIf_ap, ↓wTru_ap, ↓wLc_ap, ↓wiSeq_ap, ↓wiRng1_ap, ↓wiRng2_ap, ↓wiZip_ap, ↓wLstRg_ap, ↓wTYes_ap, ↓wsNext_ap, ↓wsSeq_ap, ↓wsRet_ap, ↓wsRetN_ap, ↓wsRetF_ap, ↓wsDrop_ap, ↓wsIf_ap, ↓wsAsg_ap, ↓wsSet_ap, ↓wsSetF_ap, ↓wsPar_ap, ↓wsStore_ap, ↓wsFor_ap, ↓wsBreak_ap, ↓wsCont_ap, ↓wgName_ap, ↓wgNil_ap, ↓wgCons_ap, ↓wgTup_ap, ↓wVar_0, ↓wVar_s, ↓addD, ↓subD, ↓mulD, ↓modD, ↓fdivD, ↓powD, ↓negD, ↓notD, ↓eqD, ↓scalD, ↓inD, ↓isD, ↓ixD, ↓cmpD, ↓leD, ↓geD, ↓gtD, ↓ltD, ↓ordD, ↓lenD, ↓absD, ↓DL.intOfD, ↓listD, ↓allD, ↓isiD, ↓sliceD, ↓truD_non, ↓truD_bl, ↓truD_int, ↓truD_str, ↓truD_lst, ↓truD_tup, List.map_cons, List.map_nil, List.length_cons, List.length_nil, List.replicate, List.cons_append, List.nil_append, List.set_cons_zero, List.set_cons_succ, List.append_nil, List.zip_cons_cons, List.zip_nil_right, List.foldl_cons, List.foldl_nil, Nat.zero_add, Nat.add_zero, Nat.reduceAdd, Nat.reduceSub, Nat.reduceMul, if_true, if_false, Bool.false_eq_true, ite_true, ite_false, v_non, v_bl, v_int, v_str, v_ty, v_cst, v_lst, v_tup, v_dk, v_dt, v_ktp, v_obj, v_scr, startD_ap, wD_nil, wD_cons, wVar_0, wVar_s, ↓is_non_int, ↓is_bl_int, ↓is_int_int, ↓is_str_int, ↓is_lst_int, ↓is_tup_int, ↓is_dk_int, ↓is_non_bool, ↓is_bl_bool, ↓is_int_bool, ↓is_str_bool, ↓is_lst_bool, ↓is_tup_bool, ↓is_dk_bool, ↓is_non_str, ↓is_bl_str, ↓is_int_str, ↓is_str_str, ↓is_lst_str, ↓is_tup_str, ↓is_dk_str, ↓is_non_list, ↓is_bl_list, ↓is_int_list, ↓is_str_list, ↓is_lst_list, ↓is_tup_list, ↓is_dk_list, ↓is_non_tuple, ↓is_bl_tuple, ↓is_int_tuple, ↓is_str_tuple, ↓is_lst_tuple, ↓is_tup_tuple, ↓is_dk_tuple, ↓wsNever_ap, ↓wNever_ap, ↓wFr_ap, ↓wFLst_ap, ↓wFList_ap, ↓wFAdd_ap, ↓wBM_ap, ↓wBM0_ap, ↓wDGet_ap, ↓wDGet2_ap, ↓wsDPut_ap, ↓wNewT_ap, ↓wsRetire_ap, ↓wiKeysT_ap, ↓wDcT_ap, ↓wFld_ap, ↓wsFld_ap, ↓wMake_ap, ↓wMeth_ap, ↓wDictPT_ap, ↓wTruOwn_ap, ↓wFmt_ap, ↓wFs_ap, ↓wiEnum_ap, ↓wJs_nil, ↓wJs_cons, ↓wiEnumA_ap, ↓wNotOwn_ap, ↓wMethX0_ap, ↓wMethF0_ap, ↓wsBMX_ap, ↓wLcF_ap, ↓appendD, ↓popD, ↓entT, ↓dflT, ↓inT, ↓getT, ↓isDt, ↓fldD, ↓recvD, ↓isObjD, ↓isEqR, ↓eqOwnD, ↓inOwnD, ↓lenOwnD, ↓reprOwnD, ↓blP, ↓lenP, ↓strP, ↓truP, ↓lenDt, ↓listDt, ↓tupOf, ↓DL.strOf, ↓fmtD, ↓sortedT, ↓eqDt, ↓rcv, ↓empD, ↓boolOwnD, ↓isCD, ↓isCDof, isK_tup, List.lookup_cons, Option.getD_some, Option.getD_none, Option.isSome_some, Option.isSome_none, ↓cut_2]
              exact ⟨True.intro, by decide, hq⟩
            · refine h_sum _ _ _ _ ⟨rows, .inl ?_, by omega, h0, hn _ _ ⟨rfl, rfl⟩⟩
              rw [List.nil_append, List.map_map]
              rfl
          rintro _ _ ⟨rfl, rfl⟩
          have hTo : TOk (tabI z rows) := tok_of _ _
          have hTl : (tabI z rows).length < 10 := Nat.lt_of_le_of_lt (len_of _ _) hlen
          refine ws_join (fun ρ' S' => S' = St T1 T2 b ∧ ρ' = [some (.scr ns), some (.loc 2), some x, some (.int z), some (.int far), some (.lst (rows.map rowD)), o6, some (.dt (encT (tabI z rows))), o8, some (marksD C z (tabI z rows)), o10, o11, o12, o13, o14]) (fun nx hn => ?_) ?_
          · walk_at "dl"
            exact ⟨True.intro, True.intro, make_marks h_n1 (pure_St hb) (.inl rfl) (by omega) hz h0 (hn _ _ ⟨rfl, rfl⟩)⟩
          rintro _ _ ⟨rfl, rfl⟩
          refine ws_join (fun ρ' S' => S' = St T1 T2 b ∧ ρ' = [some (.scr ns), some (.loc 2), some x, some (.int z), some (.int far), some (.lst (rows.map rowD)), o6, some (.dt (encT (tabI z rows))), o8, some (marksD C z (tabI z rows)), some (.lst (rowsBy id (tabI z rows))), o11, o12, o13, o14]) (fun nx hn => ?_) ?_
          · walk_at "dl"
            refine ⟨⟨by rw [keys_encP, List.length_map]; omega, fun y hy => ?_⟩, fun l' hp hs => ⟨True.intro, ?_⟩⟩
            · rw [keys_encP] at hy
              obtain ⟨e, he, rfl⟩ := List.mem_map.mp hy
              exact ⟨[e.1.1, e.1.2], rfl, rfl⟩
            rw [keys_encP] at hp
            obtain rfl := sort_uniq hp hs
            have hmem : ∀ p ∈ sortK (tabI z rows), (tget (tabI z rows) p).isSome = true := fun p hp => tget_isSome.mpr ((sortK_perm (tabI z rows)).subset hp)
            have hll : (sortK (tabI z rows)).length < 10 := by rw [(sortK_perm (tabI z rows)).length_eq, List.length_map]; exact hTl
            exact rows_lc (by omega) hmem ⟨by decide, by rw [List.length_map]; omega, hn _ _ ⟨rfl, rfl⟩⟩
          rintro _ _ ⟨rfl, rfl⟩
          refine ws_join (fun ρ' S' => S' = St T1 T2 b ∧ ρ' = [some (.scr ns), some (.loc 2), some x, some (.int z), some (.int far), some (.lst (rows.map rowD)), o6, some (.dt (encT (tabI z rows))), o8, some (marksD C z (tabI z rows)), some (.lst (rowsBy id (tabI z rows))), o11, some (.lst (rowsBy (keyP "rows") (tabI z rows))), o13, o14]) (fun nx hn => ?_) ?_
          · simp only [↓wC_ap, ↓wNil_ap, ↓wCons_ap, ↓wLst_ap, ↓wTup_ap, ↓wOp_ap, ↓wB_ap, ↓wUn_ap, ↓wCB_ap, ↓wCall_ap, ↓wCallK_ap, ↓wSl_ap, ↓wPart_ap, ↓wNoPart_ap, ↓wAndT_ap, ↓wOrT_ap, ↓wNotT_ap, ↓wAndV_ap, ↓wOrV_ap, ↓wIf_ap, ↓wTru_ap, ↓wLc_ap, ↓wiSeq_ap, ↓wiRng1_ap, ↓wiRng2_ap, ↓wiZip_ap, ↓wLstRg_ap, ↓wTYes_ap, ↓wsNext_ap, ↓wsSeq_ap, ↓wsRet_ap, ↓wsRetN_ap, ↓wsRetF_ap, ↓wsDrop_ap, ↓wsIf_ap, ↓wsAsg_ap, ↓wsSet_ap, ↓wsSetF_ap, ↓wsPar_ap, ↓wsStore_ap, ↓wsFor_ap, ↓wsBreak_ap, ↓wsCont_ap, ↓wgName_ap, ↓wgNil_ap, ↓wgCons_ap, ↓wgTup_ap, ↓wVar_0, ↓wVar_s, ↓addD, ↓subD, ↓mulD, ↓modD, ↓fdivD, ↓powD, ↓negD, ↓notD, ↓eqD, ↓scalD, ↓inD, ↓isD, ↓ixD, ↓cmpD, ↓leD, ↓geD, ↓gtD, ↓ltD, ↓ordD, ↓lenD, ↓absD, ↓DL.intOfD, ↓listD, ↓allD, ↓isiD, ↓sliceD, ↓truD_non, ↓truD_bl, ↓truD_int, ↓truD_str, ↓truD_lst, ↓truD_tup, List.map_cons, List.map_nil, List.length_cons, List.length_nil, List.replicate, List.cons_append, List.nil_append, List.set_cons_zero, List.set_cons_succ, List.append_nil, List.zip_cons_cons, List.zip_nil_right, List.foldl_cons, List.foldl_nil, Nat.zero_add, Nat.add_zero, Nat.reduceAdd, Nat.reduceSub, Nat.reduceMul, if_true, if_false, Bool.false_eq_true, ite_true, ite_false, v_non, v_bl, v_int, v_str, v_ty, v_cst, v_lst, v_tup, v_dk, v_dt, v_ktp, v_obj, v_scr, startD_ap, wD_nil, wD_cons, wVar_0, wVar_s, ↓is_non_int, ↓is_bl_int, ↓is_int_int, ↓is_str_int, ↓is_lst_int, ↓is_tup_int, ↓is_dk_int, ↓is_non_bool, ↓is_bl_bool, ↓is_int_bool, ↓is_str_bool, ↓is_lst_bool, ↓is_tup_bool, ↓is_dk_bool, ↓is_non_str, ↓is_bl_str, ↓is_int_str, ↓is_str_str, ↓is_lst_str, ↓is_tup_str, ↓is_dk_str, ↓is_non_list, ↓is_bl_list, ↓is_int_list, ↓is_str_list, ↓is_lst_list, ↓is_tup_list, ↓is_dk_list, ↓is_non_tuple, ↓is_bl_tuple, ↓is_int_tuple, ↓is_str_tuple, ↓is_lst_tuple, ↓is_tup_tuple, ↓is_dk_tuple, ↓wsNever_ap, ↓wNever_ap, ↓wFr_ap, ↓wFLst_ap, ↓wFList_ap, ↓wFAdd_ap, ↓wBM_ap, ↓wBM0_ap, ↓wDGet_ap, ↓wDGet2_ap, ↓wsDPut_ap, ↓wNewT_ap, ↓wsRetire_ap, ↓wiKeysT_ap, ↓wDcT_ap, ↓wFld_ap, ↓wsFld_ap, ↓wMake_ap, ↓wMeth_ap, ↓wDictPT_ap, ↓wTruOwn_ap, ↓wFmt_ap, ↓wFs_ap, ↓wiEnum_ap, ↓wJs_nil, ↓wJs_cons, ↓wiEnumA_ap, ↓wNotOwn_ap, ↓wMethX0_ap, ↓wMethF0_ap, ↓wsBMX_ap, ↓wLcF_ap, ↓appendD, ↓popD, ↓entT, ↓dflT, ↓inT, ↓getT, ↓isDt, ↓fldD, ↓recvD, ↓isObjD, ↓isEqR, ↓eqOwnD, ↓inOwnD, ↓lenOwnD, ↓reprOwnD, ↓blP, ↓lenP, ↓strP, ↓truP, ↓lenDt, ↓listDt, ↓tupOf, ↓DL.strOf, ↓fmtD, ↓sortedT, ↓eqDt, ↓rcv, ↓empD, ↓boolOwnD, ↓isCD, ↓isCDof, isK_tup, List.lookup_cons, Option.getD_some, Option.getD_none, Option.isSome_some, Option.isSome_none, ↓wSort_ap]
            refine ⟨⟨0, rfl⟩, ?_⟩
            have e1 : keysT (encT (tabI z rows)) = ((tabI z rows).map (·.1)).map plD := by rw [keys_encP, List.map_map]; rfl
            rw [e1]
            refine krW_map (fun d => plD (keyP "rows" (unP d))) _ [] (fun y hy Q hq => ?_) ?_
            · obtain ⟨⟨p, q⟩, _, rfl⟩ := List.mem_map.mp hy
              unfold plD
              walk_at "dl"
              exact ⟨by decide, hq⟩
            rw [List.nil_append]
            refine srt_pl ?_
            dsimp only
            have hmem : ∀ p ∈ sortBy (keyP "rows") ((tabI z rows).map (·.1)), (tget (tabI z rows) p).isSome = true := fun p hp => tget_isSome.mpr ((sortBy_perm _ _).subset hp)
            have hll : (sortBy (keyP "rows") ((tabI z rows).map (·.1))).length < 10 := by rw [(sortBy_perm _ _).length_eq, List.length_map]; exact hTl
            exact ⟨True.intro, rows_lc (by omega) hmem ⟨by decide, by rw [List.length_map]; omega, hn _ _ ⟨rfl, rfl⟩⟩⟩
          rintro _ _ ⟨rfl, rfl⟩
          refine ws_join (fun ρ' S' => S' = St T1 T2 b ∧ ρ' = [some (.scr ns), some (.loc 2), some x, some (.int z), some (.int far), some (.lst (rows.map rowD)), o6, some (.dt (encT (tabI z rows))), o8, some (marksD C z (tabI z rows)), some (.lst (rowsBy id (tabI z rows))), o11, some (.lst (rowsBy (keyP "rows") (tabI z rows))), some (.lst (endsD (tabI z rows))), o14]) (fun nx hn => ?_) ?_
          · simp only [↓wC_ap, ↓wNil_ap, ↓wCons_ap, ↓wLst_ap, ↓wTup_ap, ↓wOp_ap, ↓wB_ap, ↓wUn_ap, ↓wCB_ap, ↓wCall_ap, ↓wCallK_ap, ↓wSl_ap, ↓wPart_ap, ↓wNoPart_ap, ↓wAndT_ap, ↓wOrT_ap, ↓wNotT_ap, ↓wAndV_ap, ↓wOrV_ap, ↓wIf_ap, ↓wTru_ap, ↓wLc_ap, ↓wiSeq_ap, ↓wiRng1_ap, ↓wiRng2_ap, ↓wiZip_ap, ↓wLstRg_ap, ↓wTYes_ap, ↓wsNext_ap, ↓wsSeq_ap, ↓wsRet_ap, ↓wsRetN_ap, ↓wsRetF_ap, ↓wsDrop_ap, ↓wsIf_ap, ↓wsAsg_ap, ↓wsSet_ap, ↓wsSetF_ap, ↓wsPar_ap, ↓wsStore_ap, ↓wsFor_ap, ↓wsBreak_ap, ↓wsCont_ap, ↓wgName_ap, ↓wgNil_ap, ↓wgCons_ap, ↓wgTup_ap, ↓wVar_0, ↓wVar_s, ↓addD, ↓subD, ↓mulD, ↓modD, ↓fdivD, ↓powD, ↓negD, ↓notD, ↓eqD, ↓scalD, ↓inD, ↓isD, ↓ixD, ↓cmpD, ↓leD, ↓geD, ↓gtD, ↓ltD, ↓ordD, ↓lenD, ↓absD, ↓DL.intOfD, ↓listD, ↓allD, ↓isiD, ↓sliceD, ↓truD_non, ↓truD_bl, ↓truD_int, ↓truD_str, ↓truD_lst, ↓truD_tup, List.map_cons, List.map_nil, List.length_cons, List.length_nil, List.replicate, List.cons_append, List.nil_append, List.set_cons_zero, List.set_cons_succ, List.append_nil, List.zip_cons_cons, List.zip_nil_right, List.foldl_cons, List.foldl_nil, Nat.zero_add, Nat.add_zero, Nat.reduceAdd, Nat.reduceSub, Nat.reduceMul, if_true, if_false, Bool.false_eq_true, ite_true, ite_false, v_non, v_bl, v_int, v_str, v_ty, v_cst, v_lst, v_tup, v_dk, v_dt, v_ktp, v_obj, v_scr, startD_ap, wD_nil, wD_cons, wVar_0, wVar_s, ↓is_non_int, ↓is_bl_int, ↓is_int_int, ↓is_str_int, ↓is_lst_int, ↓is_tup_int, ↓is_dk_int, ↓is_non_bool, ↓is_bl_bool, ↓is_int_bool, ↓is_str_bool, ↓is_lst_bool, ↓is_tup_bool, ↓is_dk_bool, ↓is_non_str, ↓is_bl_str, ↓is_int_str, ↓is_str_str, ↓is_lst_str, ↓is_tup_str, ↓is_dk_str, ↓is_non_list, ↓is_bl_list, ↓is_int_list, ↓is_str_list, ↓is_lst_list, ↓is_tup_list, ↓is_dk_list, ↓is_non_tuple, ↓is_bl_tuple, ↓is_int_tuple, ↓is_str_tuple, ↓is_lst_tuple, ↓is_tup_tuple, ↓is_dk_tuple, ↓wsNever_ap, ↓wNever_ap, ↓wFr_ap, ↓wFLst_ap, ↓wFList_ap, ↓wFAdd_ap, ↓wBM_ap, ↓wBM0_ap, ↓wDGet_ap, ↓wDGet2_ap, ↓wsDPut_ap, ↓wNewT_ap, ↓wsRetire_ap, ↓wiKeysT_ap, ↓wDcT_ap, ↓wFld_ap, ↓wsFld_ap, ↓wMake_ap, ↓wMeth_ap, ↓wDictPT_ap, ↓wTruOwn_ap, ↓wFmt_ap, ↓wFs_ap, ↓wiEnum_ap, ↓wJs_nil, ↓wJs_cons, ↓wiEnumA_ap, ↓wNotOwn_ap, ↓wMethX0_ap, ↓wMethF0_ap, ↓wsBMX_ap, ↓wLcF_ap, ↓appendD, ↓popD, ↓entT, ↓dflT, ↓inT, ↓getT, ↓isDt, ↓fldD, ↓recvD, ↓isObjD, ↓isEqR, ↓eqOwnD, ↓inOwnD, ↓lenOwnD, ↓reprOwnD, ↓blP, ↓lenP, ↓strP, ↓truP, ↓lenDt, ↓listDt, ↓tupOf, ↓DL.strOf, ↓fmtD, ↓sortedT, ↓eqDt, ↓rcv, ↓empD, ↓boolOwnD, ↓isCD, ↓isCDof, isK_tup, List.lookup_cons, Option.getD_some, Option.getD_none, Option.isSome_some, Option.isSome_none, ↓maxD, ↓end_head, ↓end_last]
            refine ⟨by decide, ?_⟩
            have e : [endD id false (tabI z rows), endD id true (tabI z rows), endD (keyP "rows") false (tabI z rows), endD (keyP "rows") true (tabI z rows)] = endsD (tabI z rows) := by
              unfold endsD
              rw [first_cols, first_cols]
              rfl
            rw [e]
            exact hn _ _ ⟨rfl, rfl⟩
          rintro _ _ ⟨rfl, rfl⟩
          refine ws_join (fun ρ' S' => S' = St T1 T2 b ∧ ρ' = [some (.scr ns), some (.loc 2), some x, some (.int z), some (.int far), some (.lst (rows.map rowD)), o6, some (.dt (encT (tabI z rows))), o8, some (marksD C z (tabI z rows)), some (.lst (rowsBy id (tabI z rows))), o11, some (.lst (rowsBy (keyP "rows") (tabI z rows))), some (.lst (endsD (tabI z rows))), some (.lst (endsD (tabI z rows)))]) (fun nx hn => ?_) ?_
          · simp only [↓wC_ap, ↓wNil_ap, ↓wCons_ap, ↓wLst_ap, ↓wTup_ap, ↓wOp_ap, ↓wB_ap, ↓wUn_ap, ↓wCB_ap, ↓wCall_ap, ↓wCallK_ap, ↓wSl_ap, ↓wPart_ap, ↓wNoPart_ap, ↓wAndT_ap, ↓wOrT_ap, ↓wNotT_ap, ↓wAndV_ap, ↓wOrV_ap, ↓wIf_ap, ↓wTru_ap, ↓wLc_ap, ↓wiSeq_ap, ↓wiRng1_ap, ↓wiRng2_ap, ↓wiZip_ap, ↓wLstRg_ap, ↓wTYes_ap, ↓wsNext_ap, ↓wsSeq_ap, ↓wsRet_ap, ↓wsRetN_ap, ↓wsRetF_ap, ↓wsDrop_ap, ↓wsIf_ap, ↓wsAsg_ap, ↓wsSet_ap, ↓wsSetF_ap, ↓wsPar_ap, ↓wsStore_ap, ↓wsFor_ap, ↓wsBreak_ap, ↓wsCont_ap, ↓wgName_ap, ↓wgNil_ap, ↓wgCons_ap, ↓wgTup_ap, ↓wVar_0, ↓wVar_s, ↓addD, ↓subD, ↓mulD, ↓modD, ↓fdivD, ↓powD, ↓negD, ↓notD, ↓eqD, ↓scalD, ↓inD, ↓isD, ↓ixD, ↓cmpD, ↓leD, ↓geD, ↓gtD, ↓ltD, ↓ordD, ↓lenD, ↓absD, ↓DL.intOfD, ↓listD, ↓allD, ↓isiD, ↓sliceD, ↓truD_non, ↓truD_bl, ↓truD_int, ↓truD_str, ↓truD_lst, ↓truD_tup, List.map_cons, List.map_nil, List.length_cons, List.length_nil, List.replicate, List.cons_append, List.nil_append, List.set_cons_zero, List.set_cons_succ, List.append_nil, List.zip_cons_cons, List.zip_nil_right, List.foldl_cons, List.foldl_nil, Nat.zero_add, Nat.add_zero, Nat.reduceAdd, Nat.reduceSub, Nat.reduceMul, if_true, if_false, Bool.false_eq_true, ite_true, ite_false, v_non, v_bl, v_int, v_str, v_ty, v_cst, v_lst, v_tup, v_dk, v_dt, v_ktp, v_obj, v_scr, startD_ap, wD_nil, wD_cons, wVar_0, wVar_s, ↓is_non_int, ↓is_bl_int, ↓is_int_int, ↓is_str_int, ↓is_lst_int, ↓is_tup_int, ↓is_dk_int, ↓is_non_bool, ↓is_bl_bool, ↓is_int_bool, ↓is_str_bool, ↓is_lst_bool, ↓is_tup_bool, ↓is_dk_bool, ↓is_non_str, ↓is_bl_str, ↓is_int_str, ↓is_str_str, ↓is_lst_str, ↓is_tup_str, ↓is_dk_str, ↓is_non_list, ↓is_bl_list, ↓is_int_list, ↓is_str_list, ↓is_lst_list, ↓is_tup_list, ↓is_dk_list, ↓is_non_tuple, ↓is_bl_tuple, ↓is_int_tuple, ↓is_str_tuple, ↓is_lst_tuple, ↓is_tup_tuple, ↓is_dk_tuple, ↓wsNever_ap, ↓wNever_ap, ↓wFr_ap, ↓wFLst_ap, ↓wFList_ap, ↓wFAdd_ap, ↓wBM_ap, ↓wBM0_ap, ↓wDGet_ap, ↓wDGet2_ap, ↓wsDPut_ap, ↓wNewT_ap, ↓wsRetire_ap, ↓wiKeysT_ap, ↓wDcT_ap, ↓wFld_ap, ↓wsFld_ap, ↓wMake_ap, ↓wMeth_ap, ↓wDictPT_ap, ↓wTruOwn_ap, ↓wFmt_ap, ↓wFs_ap, ↓wiEnum_ap, ↓wJs_nil, ↓wJs_cons, ↓wiEnumA_ap, ↓wNotOwn_ap, ↓wMethX0_ap, ↓wMethF0_ap, ↓wsBMX_ap, ↓wLcF_ap, ↓appendD, ↓popD, ↓entT, ↓dflT, ↓inT, ↓getT, ↓isDt, ↓fldD, ↓recvD, ↓isObjD, ↓isEqR, ↓eqOwnD, ↓inOwnD, ↓lenOwnD, ↓reprOwnD, ↓blP, ↓lenP, ↓strP, ↓truP, ↓lenDt, ↓listDt, ↓tupOf, ↓DL.strOf, ↓fmtD, ↓sortedT, ↓eqDt, ↓rcv, ↓empD, ↓boolOwnD, ↓isCD, ↓isCDof, isK_tup, List.lookup_cons, Option.getD_some, Option.getD_none, Option.isSome_some, Option.isSome_none, ↓wMethK_ap]
            refine ⟨⟨rfl, rfl⟩, True.intro, h_0 _ _ _ _ (show sp_first C T2 [marksD C z (tabI z rows), .str "columns", .bl false] _ _ _ from ⟨z, _, rfl, hTo, by omega, .inl rfl, ⟨1, rfl⟩, ?_⟩)⟩
            refine ⟨⟨rfl, rfl⟩, True.intro, h_l _ _ _ _ (show sp_first C T2 [marksD C z (tabI z rows), .str "columns", .bl true] _ _ _ from ⟨z, _, rfl, hTo, by omega, .inl rfl, ⟨1, rfl⟩, ?_⟩)⟩
            refine ⟨⟨rfl, rfl⟩, True.intro, h_o _ _ _ _ (show sp_first C T2 [marksD C z (tabI z rows), .str "rows", .bl false] _ _ _ from ⟨z, _, rfl, hTo, by omega, .inr rfl, ⟨1, rfl⟩, ?_⟩)⟩
            refine ⟨⟨rfl, rfl⟩, True.intro, h_lo _ _ _ _ (show sp_first C T2 [marksD C z (tabI z rows), .str "rows", .bl true] _ _ _ from ⟨z, _, rfl, hTo, by omega, .inr rfl, ⟨1, rfl⟩, ?_⟩)⟩
            exact ⟨by decide, hn _ _ ⟨rfl, rfl⟩⟩
          rintro _ _ ⟨rfl, rfl⟩
          refine ws_join (fun ρ' S' => S' = St T1 T2 b ∧ ρ' = [some (.scr ns), some (.loc 2), some x, some (.int z), some (.int far), some (.lst (rows.map rowD)), o6, some (.dt (encT (tabI z rows))), o8, some (marksD C z (tabI z rows)), some (.lst (rowsBy id (tabI z rows))), o11, some (.lst (rowsBy (keyP "rows") (tabI z rows))), some (.lst (endsD (tabI z rows))), some (.lst (endsD (tabI z rows)))]) (fun nx hn => ?_) ?_
          · walk_at "dl"
            exact h_same _ _ _ _ <| sp_same_rf rfl (deep_ends _) (dep_ends _) (hn _ _ ⟨rfl, rfl⟩)
          rintro _ _ ⟨rfl, rfl⟩
          simp only [↓wC_ap, ↓wNil_ap, ↓wCons_ap, ↓wLst_ap, ↓wTup_ap, ↓wOp_ap, ↓wB_ap, ↓wUn_ap, ↓wCB_ap, ↓wCall_ap, ↓wCallK_ap, ↓wSl_ap, ↓wPart_ap, ↓wNoPart_ap, ↓wAndT_ap, ↓wOrT_ap, ↓wNotT_ap, ↓wAndV_ap, ↓wOrV_ap, ↓wIf_ap, ↓wTru_ap, ↓wLc_ap, ↓wiSeq_ap, ↓wiRng1_ap, ↓wiRng2_ap, ↓wiZip_ap, ↓wLstRg_ap, ↓wTYes_ap, ↓wsNext_ap, ↓wsSeq_ap, ↓wsRet_ap, ↓wsRetN_ap, ↓wsRetF_ap, ↓wsDrop_ap, ↓wsIf_ap, ↓wsAsg_ap, ↓wsSet_ap, ↓wsSetF_ap, ↓wsPar_ap, ↓wsStore_ap, ↓wsFor_ap, ↓wsBreak_ap, ↓wsCont_ap, ↓wgName_ap, ↓wgNil_ap, ↓wgCons_ap, ↓wgTup_ap, ↓wVar_0, ↓wVar_s, ↓addD, ↓subD, ↓mulD, ↓modD, ↓fdivD, ↓powD, ↓negD, ↓notD, ↓eqD, ↓scalD, ↓inD, ↓isD, ↓ixD, ↓cmpD, ↓leD, ↓geD, ↓gtD, ↓ltD, ↓ordD, ↓lenD, ↓absD, ↓DL.intOfD, ↓listD, ↓allD, ↓isiD, ↓sliceD, ↓truD_non, ↓truD_bl, ↓truD_int, ↓truD_str, ↓truD_lst, ↓truD_tup, List.map_cons, List.map_nil, List.length_cons, List.length_nil, List.replicate, List.cons_append, List.nil_append, List.set_cons_zero, List.set_cons_succ, List.append_nil, List.zip_cons_cons, List.zip_nil_right, List.foldl_cons, List.foldl_nil, Nat.zero_add, Nat.add_zero, Nat.reduceAdd, Nat.reduceSub, Nat.reduceMul, if_true, if_false, Bool.false_eq_true, ite_true, ite_false, v_non, v_bl, v_int, v_str, v_ty, v_cst, v_lst, v_tup, v_dk, v_dt, v_ktp, v_obj, v_scr, startD_ap, wD_nil, wD_cons, wVar_0, wVar_s, ↓is_non_int, ↓is_bl_int, ↓is_int_int, ↓is_str_int, ↓is_lst_int, ↓is_tup_int, ↓is_dk_int, ↓is_non_bool, ↓is_bl_bool, ↓is_int_bool, ↓is_str_bool, ↓is_lst_bool, ↓is_tup_bool, ↓is_dk_bool, ↓is_non_str, ↓is_bl_str, ↓is_int_str, ↓is_str_str, ↓is_lst_str, ↓is_tup_str, ↓is_dk_str, ↓is_non_list, ↓is_bl_list, ↓is_int_list, ↓is_str_list, ↓is_lst_list, ↓is_tup_list, ↓is_dk_list, ↓is_non_tuple, ↓is_bl_tuple, ↓is_int_tuple, ↓is_str_tuple, ↓is_lst_tuple, ↓is_tup_tuple, ↓is_dk_tuple, ↓wsNever_ap, ↓wNever_ap, ↓wFr_ap, ↓wFLst_ap, ↓wFList_ap, ↓wFAdd_ap, ↓wBM_ap, ↓wBM0_ap, ↓wDGet_ap, ↓wDGet2_ap, ↓wsDPut_ap, ↓wNewT_ap, ↓wsRetire_ap, ↓wiKeysT_ap, ↓wDcT_ap, ↓wFld_ap, ↓wsFld_ap, ↓wMake_ap, ↓wMeth_ap, ↓wDictPT_ap, ↓wTruOwn_ap, ↓wFmt_ap, ↓wFs_ap, ↓wiEnum_ap, ↓wJs_nil, ↓wJs_cons, ↓wiEnumA_ap, ↓wNotOwn_ap, ↓wMethX0_ap, ↓wMethF0_ap, ↓wsBMX_ap, ↓wLcF_ap, ↓appendD, ↓popD, ↓entT, ↓dflT, ↓inT, ↓getT, ↓isDt, ↓fldD, ↓recvD, ↓isObjD, ↓isEqR, ↓eqOwnD, ↓inOwnD, ↓lenOwnD, ↓reprOwnD, ↓blP, ↓lenP, ↓strP, ↓truP, ↓lenDt, ↓listDt, ↓tupOf, ↓DL.strOf, ↓fmtD, ↓sortedT, ↓eqDt, ↓rcv, ↓empD, ↓boolOwnD, ↓isCD, ↓isCDof, isK_tup, List.lookup_cons, Option.getD_some, Option.getD_none, Option.isSome_some, Option.isSome_none, ↓wMethK_ap]
          refine ⟨⟨rfl, rfl⟩, True.intro, h_ol _ _ _ _ (show sp_first C T2 [marksD C z (tabI z rows), .str "columns", .bl false] _ _ _ from ⟨z, _, rfl, hTo, by omega, .inl rfl, ⟨1, rfl⟩, ?_⟩)⟩
          refine ⟨⟨rfl, rfl⟩, True.intro, h_lo _ _ _ _ (show sp_first C T2 [marksD C z (tabI z rows), .str "rows", .bl false] _ _ _ from ⟨z, _, rfl, hTo, by omega, .inr rfl, ⟨1, rfl⟩, ?_⟩)⟩
          exact ⟨by decide, by decide, h_same _ _ _ _ <| sp_same_rf rfl (deep_two _) (dep_two _) (hn _ _ ⟨⟨b, rfl, hb⟩, _, rfl, rfl⟩)⟩
        · rintro ρ S' ⟨⟨b, rfl, hb⟩, o, ho, rfl⟩
          exact hn _ _ ⟨⟨b, rfl, hb⟩, o, ho, rfl⟩
      rintro _ _ ⟨⟨b, rfl, hb⟩, o, ho, rfl⟩
      simp only [↓wC_ap, ↓wNil_ap, ↓wCons_ap, ↓wLst_ap, ↓wTup_ap, ↓wOp_ap, ↓wB_ap, ↓wUn_ap, ↓wCB_ap, ↓wCall_ap, ↓wCallK_ap, ↓wSl_ap, ↓wPart_ap, ↓wNoPart_ap, ↓wAndT_ap, ↓wOrT_ap, ↓wNotT_ap, ↓wAndV_ap, ↓wOrV_ap, ↓wIf_ap, ↓wTru_ap, ↓wLc_ap, ↓wiSeq_ap, ↓wiRng1_ap, ↓wiRng2_ap, ↓wiZip_ap, ↓wLstRg_ap, ↓wTYes_ap, ↓wsNext_ap, ↓wsSeq_ap, ↓wsRet_ap, ↓wsRetN_ap, ↓wsRetF_ap, ↓wsDrop_ap, ↓wsIf_ap, ↓wsAsg_ap, ↓wsSet_ap, ↓wsSetF_ap, ↓wsPar_ap, ↓wsStore_ap, ↓wsFor_ap, ↓wsBreak_ap, ↓wsCont_ap, ↓wgName_ap, ↓wgNil_ap, ↓wgCons_ap, ↓wgTup_ap, ↓wVar_0, ↓wVar_s, ↓addD, ↓subD, ↓mulD, ↓modD, ↓fdivD, ↓powD, ↓negD, ↓notD, ↓eqD, ↓scalD, ↓inD, ↓isD, ↓ixD, ↓cmpD, ↓leD, ↓geD, ↓gtD, ↓ltD, ↓ordD, ↓lenD, ↓absD, ↓DL.intOfD, ↓listD, ↓allD, ↓isiD, ↓sliceD, ↓truD_non, ↓truD_bl, ↓truD_int, ↓truD_str, ↓truD_lst, ↓truD_tup, List.map_cons, List.map_nil, List.length_cons, List.length_nil, List.replicate, List.cons_append, List.nil_append, List.set_cons_zero, List.set_cons_succ, List.append_nil, List.zip_cons_cons, List.zip_nil_right, List.foldl_cons, List.foldl_nil, Nat.zero_add, Nat.add_zero, Nat.reduceAdd, Nat.reduceSub, Nat.reduceMul, if_true, if_false, Bool.false_eq_true, ite_true, ite_false, v_non, v_bl, v_int, v_str, v_ty, v_cst, v_lst, v_tup, v_dk, v_dt, v_ktp, v_obj, v_scr, startD_ap, wD_nil, wD_cons, wVar_0, wVar_s, ↓is_non_int, ↓is_bl_int, ↓is_int_int, ↓is_str_int, ↓is_lst_int, ↓is_tup_int, ↓is_dk_int, ↓is_non_bool, ↓is_bl_bool, ↓is_int_bool, ↓is_str_bool, ↓is_lst_bool, ↓is_tup_bool, ↓is_dk_bool, ↓is_non_str, ↓is_bl_str, ↓is_int_str, ↓is_str_str, ↓is_lst_str, ↓is_tup_str, ↓is_dk_str, ↓is_non_list, ↓is_bl_list, ↓is_int_list, ↓is_str_list, ↓is_lst_list, ↓is_tup_list, ↓is_dk_list, ↓is_non_tuple, ↓is_bl_tuple, ↓is_int_tuple, ↓is_str_tuple, ↓is_lst_tuple, ↓is_tup_tuple, ↓is_dk_tuple, ↓wsNever_ap, ↓wNever_ap, ↓wFr_ap, ↓wFLst_ap, ↓wFList_ap, ↓wFAdd_ap, ↓wBM_ap, ↓wBM0_ap, ↓wDGet_ap, ↓wDGet2_ap, ↓wsDPut_ap, ↓wNewT_ap, ↓wsRetire_ap, ↓wiKeysT_ap, ↓wDcT_ap, ↓wFld_ap, ↓wsFld_ap, ↓wMake_ap, ↓wMeth_ap, ↓wDictPT_ap, ↓wTruOwn_ap, ↓wFmt_ap, ↓wFs_ap, ↓wiEnum_ap, ↓wJs_nil, ↓wJs_cons, ↓wiEnumA_ap, ↓wNotOwn_ap, ↓wMethX0_ap, ↓wMethF0_ap, ↓wsBMX_ap, ↓wLcF_ap, ↓appendD, ↓popD, ↓entT, ↓dflT, ↓inT, ↓getT, ↓isDt, ↓fldD, ↓recvD, ↓isObjD, ↓isEqR, ↓eqOwnD, ↓inOwnD, ↓lenOwnD, ↓reprOwnD, ↓blP, ↓lenP, ↓strP, ↓truP, ↓lenDt, ↓listDt, ↓tupOf, ↓DL.strOf, ↓fmtD, ↓sortedT, ↓eqDt, ↓rcv, ↓empD, ↓boolOwnD, ↓isCD, ↓isCDof, isK_tup, List.lookup_cons, Option.getD_some, Option.getD_none, Option.isSome_some, Option.isSome_none, ↓wMethK_ap]
      refine ⟨True.intro, True.intro, make_marks h_n0 (pure_St hb) (rows := []) (ink := 0) (.inr (.inr (.inl rfl))) (by decide) (by decide +kernel) (by decide) ?_⟩
      refine ⟨⟨rfl, rfl⟩, True.intro, h_0 _ _ _ _ (show sp_first C T2 [marksD C 0 (tabI 0 []), .str "columns", .bl false] _ _ _ from ⟨0, _, rfl, tok_of _ _, by decide, .inl rfl, ⟨1, rfl⟩, ?_⟩)⟩
      have e0 : firstD "columns" false (tabI 0 []) = .non := by
        unfold firstD
        rw [show (tabI 0 []).map (·.1) = [] from rfl]
        simp [sortBy, endP]
      dsimp only
      rw [e0]
      exact rtT (S := tabsD [(T1, "law.<locals>.<lambda>"), (T2, "Marks.first.<locals>.<lambda>")]) (S' := [.lst b]) rfl rfl h
    · exact h.elim
end
end LW
set_option maxRecDepth 100000
set_option maxHeartbeats 4000000
namespace LW
open PySem PySem.Spec PyProof.Rows L2 DL
def loose : List PySem.Str := (["_wall", "__name__", "InkError", "InvalidInk", "InvalidRow", "InvalidOrder", "Unlike", "ORDERS", "PRIMES", "is_number", "is_ink", "is_place", "need_ink", "need_order", "key_of", "rest"] : List PySem.Str) ++ (["gathered", "need_rows", "Marks", "_law_bag", "_law_pull", "_law_of", "_law_same", "_law_primes", "_law_ink", "_law_near", "_law_shade", "_law_sum"] : List PySem.Str)
abbrev R0 : PySem.W.OpenRow := PySem.W.OpenLaw.row PySem.Challenge.rw_inkfractions_k06_first_and_last_marks
abbrev hk : PySem.W.Hook := He.hookX 6 fa fn [] [("law", none), ("Marks", some "first")] ex
def ob (s : PySem.W.SharedT) : He.AlX := He.obsX 6 fa fn [] [("law", none), ("Marks", some "first")] ex (HandSHeadRun.getT s)
theorem ob_eq (s : PySem.W.SharedT) : ob s = hk.obs s.abs := He.obsX_eq (HandSHeadRun.getT_eq s)
set_option maxHeartbeats 0 in
theorem run (w : World) : HandSHeadRun.RunEq R0 (PySem.W.view R0.prog [30]) hk ob 20000 loose w := by
  intro os
  kernel_rfl
abbrev tf : List He.Defn := [("law", none), ("Marks", some "first")]
def tq (K : PySem.W.Frag) : List (Addr × Str) := [((He.cT K ("law", none)).2, "law.<locals>.<lambda>"), ((He.cT K ("Marks", some "first")).2, "Marks.first.<locals>.<lambda>")]
theorem facts {P : Program} {w : World} {K : PySem.W.Frag} {h : Heap} {mg : Str → Option Value} {f : Addr} (X : K.In h) (G : h.Ns mainGlobals mg) (hfa : mg ("law" : Str) = some (.ref f)) (c : He.SaysX fa fn [] tf ex w h K) :
    ∃ fd : FuncData, (∀ (s : Shared) (v : Value), BindsTo s fd ⟨[v], []⟩ [("_law_script", v)]) ∧ ((tq K).map (·.1)).Nodup ∧ ∀ base : Heap, (∀ p ∈ tf.map (He.cT K), LamX.TabB base mg p.1 p.2) → FnOk P w K mg base CX0 8 f fd ["_law_script"] (toSp K (spLawT (tq K))) := by
  have g_Marks : mg "Marks" = some (.ref (He.ga K "Marks")) := He.glo_ok X G (c.t.d.fact 22 rfl)
  have c_Marks : Cls K (He.ga K "Marks") := He.cls_ok (c.t.d.fact 55 rfl)
  have n_Marks_ink : NoAttr K (He.ga K "Marks") "ink" := He.noat_ok (c.t.d.fact 56 rfl)
  have n_Marks_table : NoAttr K (He.ga K "Marks") "table" := He.noat_ok (c.t.d.fact 57 rfl)
  have M_Marks : Mk K (He.ga K "Marks") (He.ma K (He.ga K "Marks") "__init__") := He.mkr_ok (c.t.d.fact 60 rfl)
  have I__wall : DefIn K mg "_wall" "_wall" s__wall := defIn_of (c.t.d.def_ 0 rfl) (He.glo_ok X G (c.t.d.fact 0 rfl))
  have I_is_number : DefIn K mg "is_number" "is_number" s_is_number := defIn_of (c.t.d.def_ 1 rfl) (He.glo_ok X G (c.t.d.fact 13 rfl))
  have I_is_ink : DefIn K mg "is_ink" "is_ink" s_is_ink := defIn_of (c.t.d.def_ 2 rfl) (He.glo_ok X G (c.t.d.fact 14 rfl))
  have I_is_place : DefIn K mg "is_place" "is_place" s_is_place := defIn_of (c.t.d.def_ 3 rfl) (He.glo_ok X G (c.t.d.fact 15 rfl))
  have I_need_ink : DefIn K mg "need_ink" "need_ink" s_need_ink := defIn_of (c.t.d.def_ 4 rfl) (He.glo_ok X G (c.t.d.fact 16 rfl))
  have I_need_order : DefIn K mg "need_order" "need_order" s_need_order := defIn_of (c.t.d.def_ 5 rfl) (He.glo_ok X G (c.t.d.fact 17 rfl))
  have I_key_of : DefIn K mg "key_of" "key_of" s_key_of := defIn_of (c.t.d.def_ 6 rfl) (He.glo_ok X G (c.t.d.fact 18 rfl))
  have I_rest : DefIn K mg "rest" "rest" s_rest := defIn_of (c.t.d.def_ 7 rfl) (He.glo_ok X G (c.t.d.fact 19 rfl))
  have I_gathered : DefIn K mg "gathered" "gathered" s_gathered := defIn_of (c.t.d.def_ 8 rfl) (He.glo_ok X G (c.t.d.fact 20 rfl))
  have I_need_rows : DefIn K mg "need_rows" "need_rows" s_need_rows := defIn_of (c.t.d.def_ 9 rfl) (He.glo_ok X G (c.t.d.fact 21 rfl))
  have I_Marks_init : MIn K (He.ga K "Marks") "__init__" "__init__" "Marks.__init__" s_Marks_init [He.Dv.v K (.adr (He.dflAt ("Marks", some "__init__") 0))] [("ink", He.Dv.v K (.int 0))] := let ⟨fd, F⟩ := c.t.d.def_ 10 rfl; ⟨_, fd, F, c_Marks, He.meth_ok (c.t.d.fact 58 rfl)⟩
  have I_Marks_first : MInC K (He.ga K "Marks") "first" "first" "Marks.first" s_Marks_first [] [("order", He.Dv.v K (.str "columns")), ("last", He.Dv.v K (.bl false))] (He.codeOf K ("Marks", some "first")) := let ⟨fd, F⟩ := c.t.d.def_ 11 rfl; ⟨_, fd, F, c_Marks, He.meth_ok (c.t.d.fact 59 rfl), codeIs_of⟩
  have I_law_bag : DefIn K mg "_law_bag" "_law_bag" s_law_bag := defIn_of (c.t.d.def_ 12 rfl) (He.glo_ok X G (c.t.d.fact 24 rfl))
  have I_law_pull : DefIn K mg "_law_pull" "_law_pull" s_law_pull := defIn_of (c.t.d.def_ 13 rfl) (He.glo_ok X G (c.t.d.fact 25 rfl))
  have I_law_of : DefIn K mg "_law_of" "_law_of" s_law_of := defIn_of (c.t.d.def_ 14 rfl) (He.glo_ok X G (c.t.d.fact 26 rfl))
  have I_law_same : DefIn K mg "_law_same" "_law_same" s_law_same := defIn_of (c.t.d.def_ 15 rfl) (He.glo_ok X G (c.t.d.fact 27 rfl))
  have I_law_primes : DefIn K mg "_law_primes" "_law_primes" s_law_primes := defIn_of (c.t.d.def_ 16 rfl) (He.glo_ok X G (c.t.d.fact 28 rfl))
  have I_law_ink : DefIn K mg "_law_ink" "_law_ink" s_law_ink := defIn_of (c.t.d.def_ 17 rfl) (He.glo_ok X G (c.t.d.fact 29 rfl))
  have I_law_near : DefIn K mg "_law_near" "_law_near" s_law_near := defIn_of (c.t.d.def_ 18 rfl) (He.glo_ok X G (c.t.d.fact 30 rfl))
  have I_law_shade : DefIn K mg "_law_shade" "_law_shade" s_law_shade := defIn_of (c.t.d.def_ 19 rfl) (He.glo_ok X G (c.t.d.fact 31 rfl))
  have I_law_sum : DefIn K mg "_law_sum" "_law_sum" s_law_sum := defIn_of (c.t.d.def_ 20 rfl) (He.glo_ok X G (c.t.d.fact 32 rfl))
  have I_law : DefIn K mg "law" "law" s_law := defIn_of (c.t.d.def_ 21 rfl) (He.glo_ok X G (c.t.d.fact 33 rfl))
  have ex_0 : (He.tupB K "ORDERS" [.str "columns", .str "rows"]) = true := (He.ba (He.ba (He.ba c.more).1).1).1
  have ex_1 : (He.tupB K "PRIMES" [.int 2, .int 3, .int 5, .int 7, .int 11, .int 13, .int 17, .int 19, .int 23, .int 29, .int 31, .int 37, .int 41, .int 43, .int 47, .int 53, .int 59, .int 61, .int 67, .int 71, .int 73, .int 79, .int 83, .int 89, .int 97]) = true := (He.ba (He.ba (He.ba c.more).1).1).2
  have ex_2 : (eTupB K (He.dflAt ("Marks", some "__init__") 0 K)) = true := (He.ba (He.ba c.more).1).2
  have ex_3 : (decide ([(He.cT K ("law", none)).2, (He.cT K ("Marks", some "first")).2].Nodup)) = true := (He.ba c.more).2
  have B : Bn mg := ⟨He.free_ok X G (c.t.d.fact 34 rfl), He.free_ok X G (c.t.d.fact 35 rfl), He.free_ok X G (c.t.d.fact 36 rfl), He.free_ok X G (c.t.d.fact 37 rfl), He.free_ok X G (c.t.d.fact 38 rfl), He.free_ok X G (c.t.d.fact 39 rfl), He.free_ok X G (c.t.d.fact 40 rfl), He.free_ok X G (c.t.d.fact 41 rfl), He.free_ok X G (c.t.d.fact 42 rfl), He.free_ok X G (c.t.d.fact 43 rfl), He.free_ok X G (c.t.d.fact 44 rfl), He.free_ok X G (c.t.d.fact 45 rfl), He.free_ok X G (c.t.d.fact 46 rfl), He.free_ok X G (c.t.d.fact 47 rfl), He.free_ok X G (c.t.d.fact 48 rfl), He.free_ok X G (c.t.d.fact 49 rfl), He.free_ok X G (c.t.d.fact 50 rfl), He.free_ok X G (c.t.d.fact 51 rfl), He.free_ok X G (c.t.d.fact 52 rfl), He.free_ok X G (c.t.d.fact 53 rfl), He.free_ok X G (c.t.d.fact 54 rfl)⟩
  have g_ORDERS : GTup K mg "ORDERS" [.str "columns", .str "rows"] := gtup_of (He.ba (He.ba (He.ba c.more).1).1).1 (He.glo_ok X G (c.t.d.fact 11 rfl)) rfl
  have g_PRIMES : GTup K mg "PRIMES" [.int 2, .int 3, .int 5, .int 7, .int 11, .int 13, .int 17, .int 19, .int 23, .int 29, .int 31, .int 37, .int 41, .int 43, .int 47, .int 53, .int 59, .int 61, .int 67, .int 71, .int 73, .int 79, .int 83, .int 89, .int 97] := gtup_of (He.ba (He.ba (He.ba c.more).1).1).2 (He.glo_ok X G (c.t.d.fact 12 rfl)) rfl
  obtain ⟨fd, F⟩ := c.t.d.def_ 21 rfl
  have e : mg ("law" : Str) = some (.ref (He.fAd K ("law", none))) := He.glo_ok X G (c.t.d.fact 33 rfl)
  cases hfa.symm.trans e
  have b := FunD.bindsA (ps := ["_law_script"]) F fun _ _ _ _ _ _ us hl => match us, hl with | [_], _ => rfl
  refine ⟨fd, fun s v => b s [v] rfl, of_decide_eq_true ex_3, fun base tb => ?_⟩
  have c_is_number := cal_is_number (P := P) (w := w) (base := base) B I_is_number
  have c_is_ink := cal_is_ink B I_is_ink c_is_number g_PRIMES
  have c_need_ink := cal_need_ink I_need_ink c_is_ink
  have c_rest := cal_rest (P := P) (w := w) (base := base) I_rest
  have c_gathered := cal_gathered B I_gathered c_rest
  have c_need_rows := cal_need_rows B I_need_rows c_is_number
  have c_init := mt_init c_Marks n_Marks_ink n_Marks_table I_Marks_init c_need_ink c_need_rows c_gathered
  have c_pull := cal_pull (P := P) (w := w) (base := base) B I_law_pull
  have c_of := cal_of B I_law_of c_pull
  have c_primes := cal_primes (P := P) (w := w) (base := base) I_law_primes
  have c_first := mt_first (P := P) (w := w) B (tb (He.cT K ("Marks", some "first")) (by simp [tf])) c_Marks n_Marks_table I_Marks_first (cal_need_order B I_need_order g_ORDERS) (cal_key_of I_key_of)
  exact law_hw B (tb (He.cT K ("law", none)) (by simp [tf])) (cal_bag B I_law_bag) c_pull (cal_near B I_law_near c_pull) c_of (cal_same B I_law_same 3) (cal_law_ink B I_law_ink c_of c_primes) (cal_law_sum B I_law_sum (cal_law_shade B I_law_shade))
    (new_1 M_Marks g_Marks c_init) (new_0 M_Marks g_Marks c_init (eTupB_ok ex_2)) c_first F codeIs_of
end LW
open PySem PySem.W PySem.Calls PyProof.Rows
theorem PySem.Challenge.cw_inkfractions_k06_first_and_last_marks_holds : PySem.Challenge.rw_inkfractions_k06_first_and_last_marks.Holds := by
  w_on; o_law
  refine HandSHeadRun.head_any (r := OpenLaw.row PySem.Challenge.rw_inkfractions_k06_first_and_last_marks) (q := view (OpenLaw.row PySem.Challenge.rw_inkfractions_k06_first_and_last_marks).prog [30]) (H := LW.hk) (ob := LW.ob) (M := 20000) (loose := LW.loose) (d := HandSHeadRun.topDef (OpenLaw.row PySem.Challenge.rw_inkfractions_k06_first_and_last_marks).prog 30) (kwd := []) LW.ob_eq
    (by kernel_rfl) (fun s => by kernel_rfl) LW.run (by kernel_rfl) (by kernel_rfl) (by kernel_rfl) (by rfl) (by first | assumption | decide +kernel) (by decide +kernel) ⟨rfl, rfl, rfl, rfl, rfl, by decide +kernel⟩ ?hw ?hc
  case hw => w_witness2
  case hc =>
    refine LamX.walk_ofTsE (l := PySem.Challenge.rw_inkfractions_k06_first_and_last_marks) (n := 63) (k := 8) (x := "_law_script") (CX := fun _ => L2.CX0) rfl (by decide) (by kernel_rfl) ⟨rfl, by decide, by decide⟩ ?F (fun _ _ _ _ _ z => z)
    intro w mg fa h Y G hmg0
    obtain ⟨K, KX, c⟩ := Y
    have hmg : mg ("law" : PySem.Str) = some (.ref fa) := by
      have e : (HandSHeadRun.topDef (OpenLaw.row PySem.Challenge.rw_inkfractions_k06_first_and_last_marks).prog 30).name = ("law" : PySem.Str) := by kernel_rfl
      rw [← e]
      exact hmg0
    obtain ⟨fd, hb, hnd, hF⟩ := LW.facts (P := (PySem.Challenge.rw_inkfractions_k06_first_and_last_marks).prog) (w := w) KX G hmg c
    refine ⟨K, KX, fd, LW.tf.map (He.cT K), DL.toSp K (DL.spLawT (LW.tq K)), fun p hp => ?_, fun p hp => ?_, fun p hp => ?_, hb, fun H a ns hl _ hH hS => DL.law_spT hnd (fun t ht => ?_) hl hS, fun base _ _ tb => hF base tb⟩
    · obtain ⟨q, hq, rfl⟩ := List.mem_map.mp hp
      exact c.empty q hq
    · obtain ⟨q, hq, rfl⟩ := List.mem_map.mp hp
      exact c.out q hq
    · obtain ⟨q, hq, rfl⟩ := List.mem_map.mp hp
      exact codeHd_of_K KX (c.hd q hq)
    · rcases List.mem_cons.mp ht with e | ht
      · rw [e]; exact hH _ (by simp [LW.tf])
      · rw [List.mem_singleton.mp ht]; exact hH _ (by simp [LW.tf])
