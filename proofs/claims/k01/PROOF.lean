import PyProof.Rows.All
import Wide.All
import OpenK.AllK
import Wide.FinOn
import HandS.ForMost
import HandS.ForExc
import HandS.Wide
import HandS.IsInst
import HandS.Defaults
import HandS.TupAny
import HandS.TupLe
import HandS.Conv
import HandS.CallSlots
import HandS.Style
import HandS.Zip
import HandS.Iter
import HandS.Head0
import HandS.Head1
import HandS.Head2
import HandS.HeadEnd
import HandS.HeadHook1
import HandS.HeadHook2
import HandS.HeadHook3
import HandS.HeadHook4
import PySem.Challenge.RW_inkfractions_k01_inks_places_edges
set_option Elab.async false
set_option linter.all false
set_option Elab.async false
set_option maxRecDepth 100000
set_option maxHeartbeats 2000000
/-! DL: data as trees over the hand layer. R: a value of the abstract heap stands for a tree; mutable objects are cells of a store, named by loc. -/
namespace DL
open PySem PySem.Spec PyProof.Rows L2
inductive D where
  | non | bl (b : Bool) | int (i : Int) | str (s : Str) | ty (n : String) | cst (a : Addr) | loc (i : Nat) | scr (ns : List Int)
  | lst (ds : List D) | tup (ds : List D) | dct (kvs : List (D × D)) | obj (C : Addr) (fs : List (Str × D))
abbrev Sto := List D
abbrev Loc := List (Option D)
def keyD : Key → D
  | .inl i => .int i
  | .inr s => .str s
/-- a list of the written part -/
def SqLK (K : PySem.W.Frag) (a : Addr) (xs : List V) : Prop :=
  ∃ (o : Obj) (its : Array Value) (n : Nat), K.lookup a = some o ∧ o.cls = .type "list" ∧ o.dict = none ∧ o.data = .seq its n ∧ its.size ≤ sizeLine ∧ Vals xs its.toList
/-- a tuple of the written part -/
def SqTK (K : PySem.W.Frag) (a : Addr) (xs : List V) : Prop :=
  ∃ (o : Obj) (its : Array Value) (n : Nat), K.lookup a = some o ∧ o.cls = .type "tuple" ∧ o.data = .seq its n ∧ its.size ≤ sizeLine ∧ Vals xs its.toList
section
variable (K : PySem.W.Frag) (M : Addr → Prop) (mu : List Addr) (H : Hp)
mutual
def R : D → V → Prop
  | .non, v => v = .non
  | .bl b, v => v = .bl b
  | .int i, v => v = .int i
  | .str s, v => v = .str s
  | .ty n, v => v = .ty n
  | .cst a, v => v = .ref a
  | .loc i, v => ∃ a, v = .ref a ∧ mu[i]? = some a
  | .scr ns, v => ∃ a, v = .ref a ∧ ((¬ M a ∧ ∃ o, H a = some (.frz o (.lst (ns.map V.int)))) ∨ SqLK K a (ns.map V.int))
  | .lst ds, v => ∃ a vs, v = .ref a ∧ ¬ M a ∧ H a = some (.lst vs) ∧ Rs ds vs
  | .tup ds, v => ∃ a vs, v = .ref a ∧ ((¬ M a ∧ H a = some (.tup vs)) ∨ SqTK K a vs) ∧ Rs ds vs
  | .dct kvs, v => ∃ a, v = .ref a ∧ ¬ M a ∧ ((∃ es : List (Key × V), H a = some (.dK es) ∧ es.map (fun e => keyD e.1) = kvs.map (·.1) ∧ Rkv kvs (es.map (·.2))) ∨
      (∃ es : List (List Key × V), H a = some (.dT es) ∧ es.map (fun e => D.tup (e.1.map keyD)) = kvs.map (·.1) ∧ Rkv kvs (es.map (·.2))))
  | .obj C fs, v => ∃ a dx gs, v = .ref a ∧ ¬ M a ∧ H a = some (.ins C dx gs) ∧ gs.map (·.1) = fs.map (·.1) ∧ Rfs fs (gs.map (·.2))
def Rs : List D → List V → Prop
  | [], vs => vs = []
  | d :: ds, vs => ∃ v r, vs = v :: r ∧ R d v ∧ Rs ds r
def Rkv : List (D × D) → List V → Prop
  | [], vs => vs = []
  | (_, d) :: ds, vs => ∃ v r, vs = v :: r ∧ R d v ∧ Rkv ds r
def Rfs : List (Str × D) → List V → Prop
  | [], vs => vs = []
  | (_, d) :: ds, vs => ∃ v r, vs = v :: r ∧ R d v ∧ Rfs ds r
end
/-- what stands at a cell's address -/
def Cl : D → Addr → Prop
  | .lst ds, a => ∃ vs, H a = some (.lst vs) ∧ Rs K M mu H ds vs
  | .dct kvs, a => (∃ es : List (Key × V), H a = some (.dK es) ∧ es.map (fun e => keyD e.1) = kvs.map (·.1) ∧ Rkv K M mu H kvs (es.map (·.2))) ∨
      (∃ es : List (List Key × V), H a = some (.dT es) ∧ es.map (fun e => D.tup (e.1.map keyD)) = kvs.map (·.1) ∧ Rkv K M mu H kvs (es.map (·.2)))
  | .obj C fs, a => ∃ dx gs, H a = some (.ins C dx gs) ∧ gs.map (·.1) = fs.map (·.1) ∧ Rfs K M mu H fs (gs.map (·.2))
  | .non, _ => True
  | _, _ => False
structure Wok (S : Sto) : Prop where
  len : S.length = mu.length
  sub : ∀ a ∈ mu, M a
  nd : mu.Nodup
  tr : ∀ a, M a → H a ≠ none
  at_ : ∀ (i : Nat) a d, mu[i]? = some a → S[i]? = some d → Cl K M mu H d a
structure Env (ρ : Loc) (σ : L2.St) : Prop where
  len : ρ.length = σ.length
  get : ∀ (i : Nat) d, ρ[i]? = some (some d) → ∃ v, σ[i]? = some (some v) ∧ R K M mu H d v
end
/-- all but the cells is kept -/
def Keep (mu : List Addr) (H H' : Hp) : Prop := ∀ b o, H b = some o → b ∉ mu → H' b = some o
theorem Keep.refl (mu : List Addr) (H : Hp) : Keep mu H H := fun _ _ h _ => h
theorem Keep.trans {mu : List Addr} {H H1 H2 : Hp} (a : Keep mu H H1) (b : Keep mu H1 H2) : Keep mu H H2 := fun c o h n => b c o (a c o h n) n
theorem Keep.same {mu : List Addr} {H H1 : Hp} (a : Same H H1) : Keep mu H H1 := fun c o h _ => a c o h
/-- what trees lean on -/
structure Ext0 (M : Addr → Prop) (mu : List Addr) (H : Hp) (M' : Addr → Prop) (mu' : List Addr) (H' : Hp) : Prop where
  keepM : ∀ b o, H b = some o → ¬ M b → H' b = some o
  pre : ∃ l, mu' = mu ++ l
  dn : ∀ a, M' a → M a ∨ H a = none
/-- the world has grown -/
structure Ext (M : Addr → Prop) (mu : List Addr) (H : Hp) (M' : Addr → Prop) (mu' : List Addr) (H' : Hp) : Prop extends Ext0 M mu H M' mu' H' where
  keep : Keep mu H H'
  new : ∀ a ∈ mu', a ∈ mu ∨ H a = none
  up : ∀ a, M a → M' a
  sub : ∀ a ∈ mu, M a
theorem Ext.of {M : Addr → Prop} {mu : List Addr} {H H' : Hp} (s : ∀ a ∈ mu, M a) (k : Keep mu H H') : Ext M mu H M mu H' := ⟨⟨fun b o h n => k b o h (fun z => n (s b z)), ⟨[], by simp⟩, fun _ h => .inl h⟩, k, fun _ h => .inl h, fun _ h => h, s⟩
theorem Ext.refl {M : Addr → Prop} {mu : List Addr} {H : Hp} (s : ∀ a ∈ mu, M a) : Ext M mu H M mu H := .of s (.refl _ _)
theorem Ext.back {M M' : Addr → Prop} {mu mu' : List Addr} {H H' : Hp} (e : Ext M mu H M' mu' H') {a : Addr} (h : H' a = none) (n : a ∉ mu) : H a = none := by
  cases q : H a with
  | none => rfl
  | some o => rw [e.keep a o q n] at h; cases h
theorem Ext.trans {M M1 M2 : Addr → Prop} {mu mu1 mu2 : List Addr} {H H1 H2 : Hp} (a : Ext M mu H M1 mu1 H1) (b : Ext M1 mu1 H1 M2 mu2 H2) : Ext M mu H M2 mu2 H2 := by
  have kp : Keep mu H H2 := fun c o h n => b.keep c o (a.keep c o h n) fun z => by
    rcases a.new c z with q | q
    · exact n q
    · rw [h] at q; cases q
  refine ⟨⟨fun c o h n => kp c o h fun z => n (a.sub c z), ?_, fun c h => ?_⟩, kp, fun c hc => ?_, fun c h => b.up c (a.up c h), a.sub⟩
  · obtain ⟨l, rfl⟩ := a.pre
    obtain ⟨l', rfl⟩ := b.pre
    exact ⟨l ++ l', by rw [List.append_assoc]⟩
  · rcases b.dn c h with q | q
    · exact a.dn c q
    · by_cases n : c ∈ mu
      · exact .inl (a.sub c n)
      · exact .inr (a.back q n)
  · rcases b.new c hc with q | q
    · exact a.new c q
    · by_cases n : c ∈ mu
      · exact .inl n
      · exact .inr (a.back q n)
section
variable {K : PySem.W.Frag} {M M' : Addr → Prop} {mu mu' : List Addr} {H H' : Hp}
theorem Ext0.okM (e : Ext0 M mu H M' mu' H') {a : Addr} {o : HO} (n : ¬ M a) (h : H a = some o) : ¬ M' a ∧ H' a = some o :=
  ⟨fun z => (e.dn a z).elim n fun q => (by rw [h] at q; cases q), e.keepM a o h n⟩
theorem Ext0.at_ (e : Ext0 M mu H M' mu' H') {i : Nat} {a : Addr} (h : mu[i]? = some a) : mu'[i]? = some a := by
  obtain ⟨l, rfl⟩ := e.pre
  rw [List.getElem?_append_left (List.getElem?_eq_some_iff.mp h).1]
  exact h
mutual
theorem R.mono (e : Ext0 M mu H M' mu' H') : ∀ (d : D) (v : V), R K M mu H d v → R K M' mu' H' d v
  | .non, v, h => h
  | .bl b, v, h => h
  | .int i, v, h => h
  | .str s, v, h => h
  | .ty n, v, h => h
  | .cst a, v, h => h
  | .loc i, v, ⟨a, h1, h2⟩ => ⟨a, h1, e.at_ h2⟩
  | .scr ns, v, ⟨a, h1, h2⟩ => ⟨a, h1, h2.imp (fun ⟨m, o, q⟩ => ⟨(e.okM m q).1, o, (e.okM m q).2⟩) id⟩
  | .lst ds, v, ⟨a, vs, h1, h2, h3, h4⟩ => ⟨a, vs, h1, (e.okM h2 h3).1, (e.okM h2 h3).2, Rs.mono e ds vs h4⟩
  | .tup ds, v, ⟨a, vs, h1, h2, h4⟩ => ⟨a, vs, h1, h2.imp (fun h => e.okM h.1 h.2) id, Rs.mono e ds vs h4⟩
  | .dct kvs, v, ⟨a, h1, h2, h3⟩ => ⟨a, h1, h3.elim (fun ⟨_, q, _⟩ => (e.okM h2 q).1) (fun ⟨_, q, _⟩ => (e.okM h2 q).1),
      h3.imp (fun ⟨es, q1, q2, q3⟩ => ⟨es, (e.okM h2 q1).2, q2, Rkv.mono e kvs _ q3⟩) (fun ⟨es, q1, q2, q3⟩ => ⟨es, (e.okM h2 q1).2, q2, Rkv.mono e kvs _ q3⟩)⟩
  | .obj C fs, v, ⟨a, dx, gs, h1, h2, h3, h4, h5⟩ => ⟨a, dx, gs, h1, (e.okM h2 h3).1, (e.okM h2 h3).2, h4, Rfs.mono e fs _ h5⟩
theorem Rs.mono (e : Ext0 M mu H M' mu' H') : ∀ (ds : List D) (vs : List V), Rs K M mu H ds vs → Rs K M' mu' H' ds vs
  | [], vs, h => h
  | d :: ds, vs, ⟨v, r, h1, h2, h3⟩ => ⟨v, r, h1, R.mono e d v h2, Rs.mono e ds r h3⟩
theorem Rkv.mono (e : Ext0 M mu H M' mu' H') : ∀ (ds : List (D × D)) (vs : List V), Rkv K M mu H ds vs → Rkv K M' mu' H' ds vs
  | [], vs, h => h
  | (_, d) :: ds, vs, ⟨v, r, h1, h2, h3⟩ => ⟨v, r, h1, R.mono e d v h2, Rkv.mono e ds r h3⟩
theorem Rfs.mono (e : Ext0 M mu H M' mu' H') : ∀ (ds : List (Str × D)) (vs : List V), Rfs K M mu H ds vs → Rfs K M' mu' H' ds vs
  | [], vs, h => h
  | (_, d) :: ds, vs, ⟨v, r, h1, h2, h3⟩ => ⟨v, r, h1, R.mono e d v h2, Rfs.mono e ds r h3⟩
end
theorem Env.mono (e : Ext0 M mu H M' mu' H') {ρ : Loc} {σ : L2.St} (h : Env K M mu H ρ σ) : Env K M' mu' H' ρ σ := ⟨h.len, fun i d q => by
  obtain ⟨v, h1, h2⟩ := h.get i d q
  exact ⟨v, h1, R.mono e d v h2⟩⟩
end
end DL
set_option maxRecDepth 100000
set_option maxHeartbeats 2000000
namespace DL
open PySem PySem.Spec PyProof.Rows L2
abbrev Ex := Addr → List (Str × D) → Sto → Prop
abbrev DK := D → Sto → Prop
abbrev DW := Loc → Sto → DK → Ex → Prop
abbrev DWA := Loc → Sto → (List D → Sto → Prop) → Ex → Prop
abbrev DWT := Loc → Sto → (Bool → Sto → Prop) → Ex → Prop
section
variable (K : PySem.W.Frag) (M : Addr → Prop) (mu : List Addr) (H : Hp)
/-- an exception as a tree: its class, its fields -/
def XR (C : Value) (d : Option Addr) (c : Addr) (fs : List (Str × D)) : Prop :=
  C = .ref c ∧ ∃ a gs, d = some a ∧ ¬ M a ∧ H a = some (.xd gs) ∧ gs.map (·.1) = fs.map (·.1) ∧ Rfs K M mu H fs (gs.map (·.2))
def Nrm (P : DK) (Q : VK) : Prop := ∀ v H' d S', Keep mu H H' → Wok K M mu H' S' → R K M mu H' d v → P d S' → Q v H'
def NrmA (P : List D → Sto → Prop) (Q : List V → Hp → Prop) : Prop := ∀ v H' d S', Keep mu H H' → Wok K M mu H' S' → Rs K M mu H' d v → P d S' → Q v H'
def NrmT (P : Bool → Sto → Prop) (Q : Bool → Hp → Prop) : Prop := ∀ b H' S', Keep mu H H' → Wok K M mu H' S' → P b S' → Q b H'
def Exc (E : Ex) (W : Value → Option Addr → Hp → Prop) : Prop := ∀ C d H' c fs S', Keep mu H H' → Wok K M mu H' S' → XR K M mu H' C d c fs → E c fs S' → W C d H'
end
structure Rd (K : PySem.W.Frag) (W : WX) (t : TE) (w : DW) : Prop where
  run : ∀ (M : Addr → Prop) (mu : List Addr) (σ : L2.St) (ρ : Loc) (S : Sto) (H : Hp) (P : DK) (E : Ex) (Q : VK), Wok K M mu H S → Env K M mu H ρ σ → w ρ S P E → Nrm K M mu H P Q → Exc K M mu H E (fun C d H' => W C d σ H') → t σ H Q
structure RdA (K : PySem.W.Frag) (W : WX) (t : TA) (w : DWA) : Prop where
  run : ∀ (M : Addr → Prop) (mu : List Addr) (σ : L2.St) (ρ : Loc) (S : Sto) (H : Hp) (P : List D → Sto → Prop) (E : Ex) (Q : List V → Hp → Prop), Wok K M mu H S → Env K M mu H ρ σ → w ρ S P E → NrmA K M mu H P Q → Exc K M mu H E (fun C d H' => W C d σ H') → t σ H Q
structure RdT (K : PySem.W.Frag) (W : WX) (t : TT) (w : DWT) : Prop where
  run : ∀ (M : Addr → Prop) (mu : List Addr) (σ : L2.St) (ρ : Loc) (S : Sto) (H : Hp) (P : Bool → Sto → Prop) (E : Ex) (Q : Bool → Hp → Prop), Wok K M mu H S → Env K M mu H ρ σ → w ρ S P E → NrmT K M mu H P Q → Exc K M mu H E (fun C d H' => W C d σ H') → t σ H Q
structure DE (X : Cx) (W : WX) (e : Expr) (w : DW) : Prop where
  ex : ∃ t, PE X e t ∧ Rd X.K W t w
structure DA (X : Cx) (W : WX) (es : List Expr) (w : DWA) : Prop where
  ex : ∃ t, PA X es t ∧ RdA X.K W t w
structure DT (X : Cx) (W : WX) (e : Expr) (w : DWT) : Prop where
  ex : ∃ t, PT X e t ∧ RdT X.K W t w
structure DTW (X : Cx) (W : WX) (e : Expr) (w : DWT) : Prop where
  ex : ∃ t, PW X e t ∧ RdT X.K W t w
section
variable {K : PySem.W.Frag} {M : Addr → Prop} {mu : List Addr} {H H' : Hp} {S : Sto}
theorem Wok.ext (w : Wok K M mu H S) (k : Keep mu H H') : Ext M mu H M mu H' := .of w.sub k
theorem R.keep (w : Wok K M mu H S) (k : Keep mu H H') {d : D} {v : V} (r : R K M mu H d v) : R K M mu H' d v := R.mono (w.ext k).toExt0 d v r
theorem Rs.keep (w : Wok K M mu H S) (k : Keep mu H H') {d : List D} {v : List V} (r : Rs K M mu H d v) : Rs K M mu H' d v := Rs.mono (w.ext k).toExt0 d v r
theorem Env.keep (w : Wok K M mu H S) (k : Keep mu H H') {ρ : Loc} {σ : L2.St} (r : Env K M mu H ρ σ) : Env K M mu H' ρ σ := r.mono (w.ext k).toExt0
theorem Nrm.mono {P : DK} {Q : VK} (k : Keep mu H H') (n : Nrm K M mu H P Q) : Nrm K M mu H' P Q := fun v H2 d S' k2 => n v H2 d S' (k.trans k2)
theorem NrmA.mono {P : List D → Sto → Prop} {Q : List V → Hp → Prop} (k : Keep mu H H') (n : NrmA K M mu H P Q) : NrmA K M mu H' P Q := fun v H2 d S' k2 => n v H2 d S' (k.trans k2)
theorem NrmT.mono {P : Bool → Sto → Prop} {Q : Bool → Hp → Prop} (k : Keep mu H H') (n : NrmT K M mu H P Q) : NrmT K M mu H' P Q := fun b H2 S' k2 => n b H2 S' (k.trans k2)
theorem Exc.mono {E : Ex} {W : Value → Option Addr → Hp → Prop} (k : Keep mu H H') (n : Exc K M mu H E W) : Exc K M mu H' E W := fun C d H2 c fs S' k2 => n C d H2 c fs S' (k.trans k2)
theorem Rs.len : ∀ {ds : List D} {vs : List V}, Rs K M mu H ds vs → ds.length = vs.length
  | [], _, h => by rw [show _ = [] from h]; rfl
  | _ :: ds, _, ⟨v, r, e, _, t⟩ => by rw [e, List.length_cons, List.length_cons, Rs.len t]
theorem Rs.app : ∀ {ds es : List D} {vs us : List V}, Rs K M mu H ds vs → Rs K M mu H es us → Rs K M mu H (ds ++ es) (vs ++ us)
  | [], _, _, _, h, q => by rw [show _ = [] from h]; exact q
  | _ :: ds, _, _, _, ⟨v, r, e, a, t⟩, q => ⟨v, r ++ _, by rw [e]; rfl, a, Rs.app t q⟩
theorem Rs.get : ∀ {ds : List D} {vs : List V} {i : Nat} {d : D}, Rs K M mu H ds vs → ds[i]? = some d → ∃ v, vs[i]? = some v ∧ R K M mu H d v
  | [], _, _, _, _, h => by simp at h
  | x :: ds, _, 0, d, ⟨v, r, e, a, t⟩, h => by
    have h' : x = d := by simpa using h
    subst h'
    exact ⟨v, by rw [e]; rfl, a⟩
  | _ :: ds, _, i + 1, d, ⟨v, r, e, a, t⟩, h => by
    obtain ⟨u, h1, h2⟩ := Rs.get (i := i) (d := d) t (by simpa using h)
    exact ⟨u, by rw [e]; simpa using h1, h2⟩
theorem Rs.getV : ∀ {ds : List D} {vs : List V} {i : Nat} {v : V}, Rs K M mu H ds vs → vs[i]? = some v → ∃ d, ds[i]? = some d ∧ R K M mu H d v
  | [], _, i, _, e, h => by rw [show _ = [] from e] at h; simp at h
  | x :: ds, _, 0, v, ⟨u, r, e, a, t⟩, h => by
    rw [e] at h
    have h' : u = v := by simpa using h
    subst h'
    exact ⟨x, rfl, a⟩
  | _ :: ds, _, i + 1, v, ⟨u, r, e, a, t⟩, h => by
    rw [e] at h
    obtain ⟨d, h1, h2⟩ := Rs.getV (i := i) (v := v) t (by simpa using h)
    exact ⟨d, by simpa using h1, h2⟩
theorem Rs.take : ∀ {ds : List D} {vs : List V} (n : Nat), Rs K M mu H ds vs → Rs K M mu H (ds.take n) (vs.take n)
  | _, _, 0, _ => by simp only [List.take_zero]; rfl
  | [], _, n + 1, e => by rw [show _ = [] from e]; exact rfl
  | x :: ds, _, n + 1, ⟨u, r, e, a, t⟩ => ⟨u, r.take n, by rw [e]; rfl, a, Rs.take n t⟩
theorem Rs.drop : ∀ {ds : List D} {vs : List V} (n : Nat), Rs K M mu H ds vs → Rs K M mu H (ds.drop n) (vs.drop n)
  | _, _, 0, h => h
  | [], _, n + 1, e => by rw [show _ = [] from e]; exact rfl
  | x :: ds, _, n + 1, ⟨u, r, e, a, t⟩ => by rw [e]; exact Rs.drop n t
theorem Rs.set {d : D} {v : V} (hr : R K M mu H d v) : ∀ {ds : List D} {vs : List V} (n : Nat), Rs K M mu H ds vs → Rs K M mu H (ds.set n d) (vs.set n v)
  | [], _, n, e => by rw [show _ = [] from e]; exact rfl
  | x :: ds, _, 0, ⟨u, r, e, a, t⟩ => ⟨v, r, by rw [e]; rfl, hr, t⟩
  | x :: ds, _, n + 1, ⟨u, r, e, a, t⟩ => ⟨u, r.set n v, by rw [e]; rfl, a, Rs.set hr n t⟩
theorem Cl.keep (w : Wok K M mu H S) (k : Keep mu H H') {d : D} {a : Addr} (q : H' a = H a) (h : Cl K M mu H d a) : Cl K M mu H' d a := by
  have e := (w.ext k).toExt0
  cases d with
  | lst ds => obtain ⟨vs, h1, h2⟩ := h; exact ⟨vs, q.trans h1, Rs.mono e _ _ h2⟩
  | dct kvs =>
    rcases h with ⟨es, h1, h2, h3⟩ | ⟨es, h1, h2, h3⟩
    · exact .inl ⟨es, q.trans h1, h2, Rkv.mono e _ _ h3⟩
    · exact .inr ⟨es, q.trans h1, h2, Rkv.mono e _ _ h3⟩
  | obj C fs => obtain ⟨dx, gs, h1, h2, h3⟩ := h; exact ⟨dx, gs, q.trans h1, h2, Rfs.mono e _ _ h3⟩
  | _ => exact h
theorem Wok.alloc (w : Wok K M mu H S) {p : Addr} (hp : H p = none) (o : HO) : Wok K M mu (upd H p o) S ∧ Keep mu H (upd H p o) ∧ ¬ M p := by
  have k : Keep mu H (upd H p o) := fun b q h _ => by rw [upd_ne (ne_of_none h hp)]; exact h
  refine ⟨⟨w.len, w.sub, w.nd, fun a h => ?_, fun i a d h1 h2 => ?_⟩, k, fun h => w.tr p h hp⟩
  · by_cases e : a = p
    · rw [e, upd_same]; simp
    · rw [upd_ne e]; exact w.tr a h
  · have c := w.at_ i a d h1 h2
    have n : a ≠ p := fun e => w.tr a (w.sub a (List.mem_of_getElem? h1)) (by rw [e]; exact hp)
    exact c.keep w k (upd_ne n)
/-- a new list, a new tuple -/
theorem newL (w : Wok K M mu H S) {p : Addr} (hp : H p = none) {ds : List D} {vs : List V} (r : Rs K M mu H ds vs) : R K M mu (upd H p (.lst vs)) (.lst ds) (.ref p) :=
  let ⟨_, k, n⟩ := w.alloc hp (.lst vs)
  ⟨p, vs, rfl, n, upd_same, Rs.mono (w.ext k).toExt0 _ _ r⟩
theorem newT (w : Wok K M mu H S) {p : Addr} (hp : H p = none) {ds : List D} {vs : List V} (r : Rs K M mu H ds vs) : R K M mu (upd H p (.tup vs)) (.tup ds) (.ref p) :=
  let ⟨_, k, n⟩ := w.alloc hp (.tup vs)
  ⟨p, vs, rfl, .inl ⟨n, upd_same⟩, Rs.mono (w.ext k).toExt0 _ _ r⟩
/-- what a tree is worth: a cell's content -/
def cont (c z : D) : D := match c with
  | .lst ds => .lst ds
  | .dct ds => .dct ds
  | .obj C ds => .obj C ds
  | _ => z
def val (S : Sto) : D → D
  | .loc i => cont (S.getD i .non) (.loc i)
  | d => d
theorem val_loc {S : Sto} {i : Nat} {c : D} (h : val S (.loc i) = c) (n : c ≠ .loc i) : S[i]? = some c := by
  have h' : cont (S.getD i .non) (.loc i) = c := h
  rw [List.getD_eq_getElem?_getD] at h'
  cases e : S[i]? with
  | none => rw [e] at h'; exact absurd h'.symm n
  | some x =>
    rw [e] at h'
    cases x with
    | lst _ => exact congrArg some h'
    | dct _ => exact congrArg some h'
    | obj _ _ => exact congrArg some h'
    | _ => exact absurd h'.symm n
theorem val_ne_non {S : Sto} {i : Nat} : val S (.loc i) ≠ .non := fun h => by
  have h' : cont (S.getD i .non) (.loc i) = .non := h
  cases q : S.getD i .non <;> rw [q] at h' <;> simp [cont] at h'
theorem seq_lst (w : Wok K M mu H S) {x : D} {v : V} {ds : List D} (r : R K M mu H x v) (e : val S x = .lst ds) : ∃ a vs, v = .ref a ∧ H a = some (.lst vs) ∧ Rs K M mu H ds vs := by
  cases x with
  | loc i =>
    obtain ⟨a, h1, h2⟩ := r
    obtain ⟨vs, h3, h4⟩ : Cl K M mu H (.lst ds) a := w.at_ i a _ h2 (val_loc e (by simp))
    exact ⟨a, vs, h1, h3, h4⟩
  | lst es =>
    have e' : es = ds := by simpa [val] using e
    subst e'
    obtain ⟨a, vs, h1, _, h3, h4⟩ := r
    exact ⟨a, vs, h1, h3, h4⟩
  | _ => simp [val] at e
theorem SqTK.to {a : Addr} {xs : List V} (h : SqTK K a xs) : SqT K H a xs := .inr h
theorem seq_tup (w : Wok K M mu H S) {x : D} {v : V} {ds : List D} (r : R K M mu H x v) (e : val S x = .tup ds) : ∃ a vs, v = .ref a ∧ SqT K H a vs ∧ Rs K M mu H ds vs := by
  cases x with
  | loc i =>
    obtain ⟨a, h1, h2⟩ := r
    exact (show False from w.at_ i a _ h2 (val_loc e (by simp))).elim
  | tup es =>
    have e' : es = ds := by simpa [val] using e
    subst e'
    obtain ⟨a, vs, h1, h3, h4⟩ := r
    exact ⟨a, vs, h1, h3.elim (fun q => SqT.of q.2) (fun q => q.to), h4⟩
  | _ => simp [val] at e
end
end DL
set_option maxRecDepth 100000
set_option maxHeartbeats 2000000
namespace DL
open PySem PySem.Spec PyProof.Rows L2
/-! ### names, constants -/
def wVar (i : Nat) : DW := fun ρ S P _ => match ρ.getD i none with
  | some d => P d S
  | none => False
def wC (d : D) : DW := fun _ S P _ => P d S
section
variable {X : Cx} {W : WX} {e a b c : Expr} {es : List Expr} {wa wb wc : DW} {w : DWA} {pos : Pos}
theorem de_of {t : TE} {w : DW} (h : PE X e t) (r : Rd X.K W t w) : DE X W e w := ⟨t, h, r⟩
theorem de_var (i : Nat) (h : PE X e (tVar i)) : DE X W e (wVar i) := ⟨_, h, ⟨fun M mu σ ρ S H P E Q ok en hw n _ => by
  unfold wVar at hw
  rw [List.getD_eq_getElem?_getD] at hw
  cases q : ρ[i]? with
  | none => rw [q] at hw; exact hw.elim
  | some o =>
    cases o with
    | none => rw [q] at hw; exact hw.elim
    | some d =>
      rw [q] at hw
      obtain ⟨v, h1, h2⟩ := en.get i d q
      exact ⟨v, h1, n v H d S (.refl _ _) ok h2 hw⟩⟩⟩
theorem de_tC {v : V} {d : D} (hr : ∀ M mu H, R X.K M mu H d v) (h : PE X e (tC v)) : DE X W e (wC d) := ⟨_, h, ⟨fun M mu σ ρ S H P E Q ok en hw n _ => n v H d S (.refl _ _) ok (hr M mu H) hw⟩⟩
theorem de_int {i : Int} {j : Nat} : DE X W (.Constant (.int i) j pos) (wC (.int i)) := de_tC (fun _ _ _ => rfl) pe_int
theorem de_str {s : Str} {j : Nat} : DE X W (.Constant (.str s) j pos) (wC (.str s)) := de_tC (fun _ _ _ => rfl) pe_str
theorem de_bl {i : Bool} {j : Nat} : DE X W (.Constant (.bool i) j pos) (wC (.bl i)) := de_tC (fun _ _ _ => rfl) pe_bl
theorem de_non {j : Nat} : DE X W (.Constant .none j pos) (wC .non) := de_tC (fun _ _ _ => rfl) pe_non
/-- a global that stands for d whatever the heap is -/
theorem de_glob {x : Str} {v : V} {u : Value} {d : D} (hg : Gl X x) (hm : X.mg x = some u) (r : RelV v u) (hr : ∀ M mu H, R X.K M mu H d v) (hd : (x == ("__debug__" : Str)) = false := by decide) : DE X W (.Name x pos) (wC d) := de_tC hr (pe_glob hg hm r hd)
/-- a built-in type as a value -/
theorem de_ty {x : Str} {n : String} (hg : Gl X x) (hm : X.mg x = none) (hv : bootBuiltins x = some (.type n)) (hn : x ≠ "__name__" := by decide) (hd : (x == ("__debug__" : Str)) = false := by decide) : DE X W (.Name x pos) (wC (.ty n)) :=
  de_tC (fun _ _ _ => rfl) (pe_bltn (v := .ty n) hg hm hv rfl hn hd)
/-! ### two in a row -/
def wSeq {α β : Type} (wa : Loc → Sto → (α → Sto → Prop) → Ex → Prop) (k : α → Loc → Sto → (β → Sto → Prop) → Ex → Prop) : Loc → Sto → (β → Sto → Prop) → Ex → Prop := fun ρ S P E => wa ρ S (fun x S1 => k x ρ S1 P E) E
/-! ### argument lists, displays -/
def wNil : DWA := fun _ S P _ => P [] S
def wCons (wa : DW) (w : DWA) : DWA := fun ρ S P E => wa ρ S (fun x S1 => w ρ S1 (fun xs S2 => P (x :: xs) S2) E) E
theorem da_nil : DA X W [] wNil := ⟨_, pa_nil, ⟨fun M mu σ ρ S H P E Q ok en hw n _ => n [] H [] S (.refl _ _) ok rfl hw⟩⟩
theorem da_cons (ha : DE X W e wa) (hs : DA X W es w) (h : starEach (e :: es) X.env = (false, eval e X.env) :: starEach es X.env := by rfl) : DA X W (e :: es) (wCons wa w) := by
  obtain ⟨ta, pa, ra⟩ := ha.ex
  obtain ⟨ts, ps, rs⟩ := hs.ex
  refine ⟨_, pa_cons pa ps h, ⟨fun M mu σ ρ S H P E Q ok en hw n x => ?_⟩⟩
  refine ra.run M mu σ ρ S H _ E _ ok en hw (fun v H1 d S1 k1 ok1 r1 h1 => ?_) x
  refine rs.run M mu σ ρ S1 H1 _ E _ ok1 (en.keep ok k1) h1 (fun vs H2 ds S2 k2 ok2 r2 h2 => ?_) (x.mono k1)
  exact n (v :: vs) H2 (d :: ds) S2 (k1.trans k2) ok2 ⟨v, vs, rfl, r1.keep ok1 k2, r2⟩ h2
def wLst (w : DWA) : DW := fun ρ S P E => w ρ S (fun ds S1 => ds.length ≤ 1000000 ∧ P (.lst ds) S1) E
def wTup (w : DWA) : DW := fun ρ S P E => w ρ S (fun ds S1 => ds.length ≤ 1000000 ∧ P (.tup ds) S1) E
theorem line_of {n : Nat} (h : n ≤ 1000000) : n ≤ sizeLine := by rw [sizeLine_eq]; omega
theorem de_lst (hs : DA X W es w) : DE X W (.List es pos) (wLst w) := by
  obtain ⟨ts, ps, rs⟩ := hs.ex
  refine ⟨_, pe_lst ps, ⟨fun M mu σ ρ S H P E Q ok en hw n x => ?_⟩⟩
  refine rs.run M mu σ ρ S H _ E _ ok en hw (fun vs H1 ds S1 k1 ok1 r1 h1 => ?_) x
  refine ⟨by rw [← r1.len]; exact line_of h1.1, fun p hp => ?_⟩
  obtain ⟨ok2, k2, _⟩ := ok1.alloc hp (.lst vs)
  exact n _ _ _ S1 (k1.trans k2) ok2 (newL ok1 hp r1) h1.2
theorem de_tup {k : Nat} (hs : DA X W es w) : DE X W (.Tuple es k pos) (wTup w) := by
  obtain ⟨ts, ps, rs⟩ := hs.ex
  refine ⟨_, pe_tup ps, ⟨fun M mu σ ρ S H P E Q ok en hw n x => ?_⟩⟩
  refine rs.run M mu σ ρ S H _ E _ ok en hw (fun vs H1 ds S1 k1 ok1 r1 h1 => ?_) x
  refine ⟨by rw [← r1.len]; exact line_of h1.1, fun p hp => ?_⟩
  obtain ⟨ok2, k2, _⟩ := ok1.alloc hp (.tup vs)
  exact n _ _ _ S1 (k1.trans k2) ok2 (newT ok1 hp r1) h1.2
/-! ### operators by values -/
abbrev DF2 := D → D → Sto → DK → Prop
def OpD (K : PySem.W.Frag) (r : R2) (f : DF2) : Prop := ∀ (M : Addr → Prop) (mu : List Addr) (H : Hp) (S : Sto) (x y : D) (v u : V) (P : DK) (Q : VK), Wok K M mu H S → R K M mu H x v → R K M mu H y u → f x y S P → Nrm K M mu H P Q → r v u H Q
def wOp (f : DF2) (wa wb : DW) : DW := fun ρ S P E => wa ρ S (fun x S1 => wb ρ S1 (fun y S2 => f x y S2 P) E) E
theorem rd_op {r : R2} {f : DF2} {K : PySem.W.Frag} {ta tb : TE} (hf : OpD K r f) (ra : Rd K W ta wa) (rb : Rd K W tb wb) : Rd K W (tOp r ta tb) (wOp f wa wb) := by
  refine ⟨fun M mu σ ρ S H P E Q ok en hw n x => ?_⟩
  refine ra.run M mu σ ρ S H _ E _ ok en hw (fun v H1 d S1 k1 ok1 r1 h1 => ?_) x
  refine rb.run M mu σ ρ S1 H1 _ E _ ok1 (en.keep ok k1) h1 (fun u H2 d2 S2 k2 ok2 r2 h2 => ?_) (x.mono k1)
  exact hf M mu H2 S2 d d2 v u P Q ok2 (r1.keep ok1 k2) r2 h2 (n.mono (k1.trans k2))
theorem de_op {op : Operator} {r : R2} {f : DF2} (ho : OpR X (binaryOp op) r) (hf : OpD X.K r f) (ha : DE X W a wa) (hb : DE X W b wb) : DE X W (.BinOp a op b pos) (wOp f wa wb) := by
  obtain ⟨ta, pa, ra⟩ := ha.ex
  obtain ⟨tb, pb, rb⟩ := hb.ex
  exact ⟨_, pe_op ho pa pb, rd_op hf ra rb⟩
theorem de_cmp {op : CmpOp} {r : R2} {f : DF2} (ho : OpR X (compareOp op) r) (hf : OpD X.K r f) (ha : DE X W a wa) (hb : DE X W b wb) (hm : behindInMarks op b = false := by first | exact nomark _ | rfl) : DE X W (.Compare a [op] [b] pos) (wOp f wa wb) := by
  obtain ⟨ta, pa, ra⟩ := ha.ex
  obtain ⟨tb, pb, rb⟩ := hb.ex
  exact ⟨_, pe_cmpR ho pa pb hm, rd_op hf ra rb⟩
/-- a value that is a bool, as a test -/
def wB (w : DW) : DWT := fun ρ S P E => w ρ S (fun x S1 => match x with
  | .bl k => P k S1
  | _ => False) E
theorem rd_test {K : PySem.W.Frag} {t : TE} {w : DW} (r : Rd K W t w) : RdT K W (tTest t) (wB w) := by
  refine ⟨fun M mu σ ρ S H P E Q ok en hw n x => ?_⟩
  refine r.run M mu σ ρ S H _ E _ ok en hw (fun v H1 d S1 k1 ok1 r1 h1 => ?_) x
  cases d with
  | bl k => exact ⟨k, r1, n k H1 S1 k1 ok1 h1⟩
  | _ => exact h1.elim
theorem dt_cmp {op : CmpOp} {r : R2} {f : DF2} (ho : OpR X (compareOp op) r) (hf : OpD X.K r f) (ha : DE X W a wa) (hb : DE X W b wb) (hm : behindInMarks op b = false := by first | exact nomark _ | rfl) : DT X W (.Compare a [op] [b] pos) (wB (wOp f wa wb)) := by
  obtain ⟨ta, pa, ra⟩ := ha.ex
  obtain ⟨tb, pb, rb⟩ := hb.ex
  exact ⟨_, pt_cmpR ho pa pb hm, rd_test (rd_op hf ra rb)⟩
theorem de_chain {op op' : CmpOp} {r r' : R2} {f f' : DF2} (ho : OpR X (compareOp op) r) (ho' : OpR X (compareOp op') r') (hf : OpD X.K r f) (hf' : OpD X.K r' f') (ha : DE X W a wa) (hb : DE X W b wb) (hc : DE X W c wc)
    (hm : lastMarks [op, op'] [b, c] = false := by with_unfolding_all rfl) : DE X W (.Compare a [op, op'] [b, c] pos)
      (fun ρ S P E => wa ρ S (fun x S1 => wb ρ S1 (fun y S2 => f x y S2 (fun z S3 => match z with
        | .bl k => if k = true then wc ρ S3 (fun u S4 => f' y u S4 P) E else P (.bl false) S3
        | _ => False)) E) E) := by
  obtain ⟨ta, pa, ra⟩ := ha.ex
  obtain ⟨tb, pb, rb⟩ := hb.ex
  obtain ⟨tc, pc, rc⟩ := hc.ex
  refine ⟨_, pe_chain ho ho' pa pb pc hm, ⟨fun M mu σ ρ S H P E Q ok en hw n x => ?_⟩⟩
  refine ra.run M mu σ ρ S H _ E _ ok en hw (fun v H1 d S1 k1 ok1 r1 h1 => ?_) x
  refine rb.run M mu σ ρ S1 H1 _ E _ ok1 (en.keep ok k1) h1 (fun u H2 d2 S2 k2 ok2 r2 h2 => ?_) (x.mono k1)
  refine hf M mu H2 S2 d d2 v u _ _ ok2 (r1.keep ok1 k2) r2 h2 (fun z H3 d3 S3 k3 ok3 r3 h3 => ?_)
  cases d3 with
  | bl k =>
    refine ⟨k, r3, ?_⟩
    cases k with
    | true =>
      have h3 : wc ρ S3 (fun u S4 => f' d2 u S4 P) E := h3
      rw [if_pos rfl]
      refine rc.run M mu σ ρ S3 H3 _ E _ ok3 ((en.keep ok k1).keep ok1 (k2.trans k3)) h3 (fun u' H4 d4 S4 k4 ok4 r4 h4 => ?_) (x.mono (k1.trans (k2.trans k3)))
      exact hf' M mu H4 S4 d2 d4 u u' P Q ok4 (r2.keep ok2 (k3.trans k4)) r4 h4 (n.mono (k1.trans (k2.trans (k3.trans k4))))
    | false =>
      have h3 : P (.bl false) S3 := h3
      rw [if_neg Bool.false_ne_true]
      exact n _ H3 (.bl false) S3 (k1.trans (k2.trans k3)) ok3 rfl h3
  | _ => exact h3.elim
theorem dt_chain {op op' : CmpOp} {r r' : R2} {f f' : DF2} (ho : OpR X (compareOp op) r) (ho' : OpR X (compareOp op') r') (hf : OpD X.K r f) (hf' : OpD X.K r' f') (ha : DE X W a wa) (hb : DE X W b wb) (hc : DE X W c wc)
    (hm : lastMarks [op, op'] [b, c] = false := by with_unfolding_all rfl) : DT X W (.Compare a [op, op'] [b, c] pos)
      (wB (fun ρ S P E => wa ρ S (fun x S1 => wb ρ S1 (fun y S2 => f x y S2 (fun z S3 => match z with
        | .bl k => if k = true then wc ρ S3 (fun u S4 => f' y u S4 P) E else P (.bl false) S3
        | _ => False)) E) E)) := by
  obtain ⟨ta, pa, ra⟩ := ha.ex
  obtain ⟨tb, pb, rb⟩ := hb.ex
  obtain ⟨tc, pc, rc⟩ := hc.ex
  refine ⟨_, pt_chain ho ho' pa pb pc hm, rd_test ⟨fun M mu σ ρ S H P E Q ok en hw n x => ?_⟩⟩
  refine ra.run M mu σ ρ S H _ E _ ok en hw (fun v H1 d S1 k1 ok1 r1 h1 => ?_) x
  refine rb.run M mu σ ρ S1 H1 _ E _ ok1 (en.keep ok k1) h1 (fun u H2 d2 S2 k2 ok2 r2 h2 => ?_) (x.mono k1)
  refine hf M mu H2 S2 d d2 v u _ _ ok2 (r1.keep ok1 k2) r2 h2 (fun z H3 d3 S3 k3 ok3 r3 h3 => ?_)
  cases d3 with
  | bl k =>
    refine ⟨k, r3, ?_⟩
    cases k with
    | true =>
      have h3 : wc ρ S3 (fun u S4 => f' d2 u S4 P) E := h3
      rw [if_pos rfl]
      refine rc.run M mu σ ρ S3 H3 _ E _ ok3 ((en.keep ok k1).keep ok1 (k2.trans k3)) h3 (fun u' H4 d4 S4 k4 ok4 r4 h4 => ?_) (x.mono (k1.trans (k2.trans k3)))
      exact hf' M mu H4 S4 d2 d4 u u' P Q ok4 (r2.keep ok2 (k3.trans k4)) r4 h4 (n.mono (k1.trans (k2.trans (k3.trans k4))))
    | false =>
      have h3 : P (.bl false) S3 := h3
      rw [if_neg Bool.false_ne_true]
      exact n _ H3 (.bl false) S3 (k1.trans (k2.trans k3)) ok3 rfl h3
  | _ => exact h3.elim
/-- one-place operators -/
def wUn (f : D → Sto → DK → Prop) (wa : DW) : DW := fun ρ S P E => wa ρ S (fun x S1 => f x S1 P) E
def negD (x : D) (S : Sto) (P : DK) : Prop := match x with
  | .int i => P (.int (-i)) S
  | _ => False
theorem de_neg (ha : DE X W a wa) : DE X W (.UnaryOp .USub a pos) (wUn negD wa) := by
  obtain ⟨ta, pa, ra⟩ := ha.ex
  refine ⟨_, pe_un un_neg pa, ⟨fun M mu σ ρ S H P E Q ok en hw n x => ?_⟩⟩
  refine ra.run M mu σ ρ S H _ E _ ok en hw (fun v H1 d S1 k1 ok1 r1 h1 => ?_) x
  cases d with
  | int i => exact ⟨i, r1, n _ H1 (.int (-i)) S1 k1 ok1 rfl h1⟩
  | _ => exact h1.elim
end
/-! ### int operators -/
section
variable {K : PySem.W.Frag}
def intD (C : Int → Int → Prop) (g : Int → Int → D) : DF2 := fun x y S P => match x, y with
  | .int i, .int j => C i j ∧ P (g i j) S
  | _, _ => False
theorem opd_I {C : Int → Int → Prop} {g : Int → Int → V} {g' : Int → Int → D} (hg : ∀ i j M mu H, R K M mu H (g' i j) (g i j)) : OpD K (rI C g) (intD C g') := by
  intro M mu H S x y v u P Q ok rx ry h n
  cases x with
  | int i =>
    cases y with
    | int j => exact ⟨i, j, rx, ry, h.1, n _ H _ S (.refl _ _) ok (hg i j M mu H) h.2⟩
    | _ => exact h.elim
  | _ => exact h.elim
def cmpD (g : Int → Int → Bool) : DF2 := fun x y S P => match x, y with
  | .int i, .int j => P (.bl (g i j)) S
  | _, _ => False
theorem opd_B {g : Int → Int → Bool} : OpD K (rI0 fun i j => .bl (g i j)) (cmpD g) := by
  intro M mu H S x y v u P Q ok rx ry h n
  cases x with
  | int i =>
    cases y with
    | int j => exact ⟨i, j, rx, ry, n _ H (.bl (g i j)) S (.refl _ _) ok rfl h⟩
    | _ => exact h.elim
  | _ => exact h.elim
/-- plus: ints, texts, lists, tuples -/
def rAddA (K : PySem.W.Frag) : R2 := fun x y H Q => (rI0 (fun i j => .int (i + j)) x y H Q ∨ (∃ i j, x = V.str i ∧ y = V.str j ∧ i.length + j.length ≤ sizeLine ∧ Q (.str (i ++ j)) H)) ∨ (rCat x y H Q ∨ rCatA K x y H Q)
theorem op_addA {X : Cx} : OpR X (binaryOp .Add) (rAddA X.K) := (OpR.or (OpR.or op_add op_add_str) (OpR.or op_cat op_catA))
def addD : DF2 := fun x y S P => match val S x, val S y with
  | .int i, .int j => P (.int (i + j)) S
  | .str a, .str b => a.length + b.length ≤ 1000000 ∧ P (.str (a ++ b)) S
  | .lst a, .lst b => a.length + b.length ≤ 1000000 ∧ P (.lst (a ++ b)) S
  | .tup a, .tup b => a.length + b.length ≤ 1000000 ∧ P (.tup (a ++ b)) S
  | _, _ => False
theorem val_int {M : Addr → Prop} {mu : List Addr} {H : Hp} {S : Sto} (w : Wok K M mu H S) {x : D} {v : V} {i : Int} (r : R K M mu H x v) (e : val S x = .int i) : v = .int i := by
  cases x with
  | loc j =>
    obtain ⟨a, h1, h2⟩ := r
    exact (show False from w.at_ j a _ h2 (val_loc e (by simp))).elim
  | int j =>
    have e' : j = i := by simpa [val] using e
    subst e'
    exact r
  | _ => simp [val] at e
theorem val_str {M : Addr → Prop} {mu : List Addr} {H : Hp} {S : Sto} (w : Wok K M mu H S) {x : D} {v : V} {i : Str} (r : R K M mu H x v) (e : val S x = .str i) : v = .str i := by
  cases x with
  | loc j =>
    obtain ⟨a, h1, h2⟩ := r
    exact (show False from w.at_ j a _ h2 (val_loc e (by simp))).elim
  | str j =>
    have e' : j = i := by simpa [val] using e
    subst e'
    exact r
  | _ => simp [val] at e
theorem opd_add : OpD K (rAddA K) addD := by
  intro M mu H S x y v u P Q ok rx ry h n
  unfold addD at h
  cases e1 : val S x with
  | int i =>
    cases e2 : val S y with
    | int j => rw [e1, e2] at h; exact .inl (.inl ⟨i, j, val_int ok rx e1, val_int ok ry e2, n _ H (.int (i + j)) S (.refl _ _) ok rfl h⟩)
    | _ => rw [e1, e2] at h; exact h.elim
  | str i =>
    cases e2 : val S y with
    | str j => rw [e1, e2] at h; exact .inl (.inr ⟨i, j, val_str ok rx e1, val_str ok ry e2, line_of h.1, n _ H (.str (i ++ j)) S (.refl _ _) ok rfl h.2⟩)
    | _ => rw [e1, e2] at h; exact h.elim
  | lst ds =>
    cases e2 : val S y with
    | lst es =>
      rw [e1, e2] at h
      obtain ⟨a, vs, rfl, ha, ra⟩ := seq_lst ok rx e1
      obtain ⟨b, us, rfl, hb, rb⟩ := seq_lst ok ry e2
      refine .inr (.inl ⟨a, b, vs, us, rfl, rfl, ha, hb, by rw [← ra.len, ← rb.len]; exact line_of h.1, fun p hp => ?_⟩)
      obtain ⟨ok2, k2, _⟩ := ok.alloc hp (.lst (vs ++ us))
      exact n _ _ _ S k2 ok2 (newL ok hp (ra.app rb)) h.2
    | _ => rw [e1, e2] at h; exact h.elim
  | tup ds =>
    cases e2 : val S y with
    | tup es =>
      rw [e1, e2] at h
      obtain ⟨a, vs, rfl, ha, ra⟩ := seq_tup ok rx e1
      obtain ⟨b, us, rfl, hb, rb⟩ := seq_tup ok ry e2
      have fin : ∀ p, H p = none → Q (.ref p) (upd H p (.tup (vs ++ us))) := fun p hp => by
        obtain ⟨ok2, k2, _⟩ := ok.alloc hp (.tup (vs ++ us))
        exact n _ _ _ S k2 ok2 (newT ok hp (ra.app rb)) h.2
      have as_ : ∀ {z : D} {q : Addr}, val S z = .tup (ds ++ es) → R K M mu H z (.ref q) → Q (.ref q) H := fun {z q} e r => by
        cases z with
        | tup l =>
          have e' : l = ds ++ es := by simpa [val] using e
          subst e'
          exact n _ H _ S (.refl _ _) ok r h.2
        | loc j =>
          obtain ⟨a, h1, h2⟩ := r
          exact (show False from ok.at_ j a _ h2 (val_loc e (by simp))).elim
        | _ => simp [val] at e
      refine .inr (.inr ⟨a, b, vs, us, rfl, rfl, ha, hb, by rw [← ra.len, ← rb.len]; exact line_of h.1, fun z => ?_, fun _ z => ?_, fun _ _ => fin⟩)
      · have : ds = [] := by
          have := ra.len
          rw [z] at this
          exact List.length_eq_zero_iff.mp this
        subst this
        exact as_ (z := y) e2 ry
      · have : es = [] := by
          have := rb.len
          rw [z] at this
          exact List.length_eq_zero_iff.mp this
        subst this
        exact as_ (z := x) (by rw [e1, List.append_nil]) rx
    | _ => rw [e1, e2] at h; exact h.elim
  | _ => rw [e1] at h; exact h.elim
/-- times: ints; a list a number of times -/
def MulOk (i j : Int) : Prop := i.natAbs < 2 ^ 64 ∨ j.natAbs < 2 ^ 64 ∨ (i.natAbs < 10 ^ 3000 ∧ j.natAbs < 10 ^ 3000)
def rMulA : R2 := fun x y H Q => (rI CMulW (fun i j => .int (i * j)) x y H Q ∨ rI CMul (fun i j => .int (i * j)) x y H Q) ∨ rRep x y H Q
theorem op_mulA {X : Cx} : OpR X (binaryOp .Mult) rMulA := OpR.or (OpR.or op_mulW op_mul) op_rep
def mulD : DF2 := fun x y S P => match val S x, y with
  | .int i, .int j => MulOk i j ∧ P (.int (i * j)) S
  | .lst ds, .int k => (k ≤ 1000000 ∧ -1000000 ≤ k ∧ ds.length * k.toNat ≤ 1000000) ∧ P (.lst (List.replicate k.toNat ds).flatten) S
  | _, _ => False
theorem MulOk.wide {i j : Int} (h : i.natAbs < 10 ^ 3000 ∧ j.natAbs < 10 ^ 3000) : CMulW i j :=
  wide_mul (a := 10000) (b := 10000) (Nat.lt_of_lt_of_le h.1 (by decide +kernel)) (Nat.lt_of_lt_of_le h.2 (by decide +kernel)) (by decide) (by decide) (by decide)
theorem Rs.rep {M : Addr → Prop} {mu : List Addr} {H : Hp} {ds : List D} {vs : List V} (r : Rs K M mu H ds vs) : ∀ k : Nat, Rs K M mu H (List.replicate k ds).flatten (List.replicate k vs).flatten
  | 0 => rfl
  | k + 1 => by
    rw [List.replicate_succ, List.replicate_succ, List.flatten_cons, List.flatten_cons]
    exact r.app (Rs.rep r k)
theorem opd_mul : OpD K rMulA mulD := by
  intro M mu H S x y v u P Q ok rx ry h n
  unfold mulD at h
  cases e1 : val S x with
  | int i =>
    cases y with
    | int j =>
      rw [e1] at h
      have fin := n _ H (.int (i * j)) S (.refl _ _) ok rfl h.2
      rcases h.1 with q | q | q
      · exact .inl (.inr ⟨i, j, val_int ok rx e1, ry, .inl (by omega), fin⟩)
      · exact .inl (.inr ⟨i, j, val_int ok rx e1, ry, .inr (by omega), fin⟩)
      · exact .inl (.inl ⟨i, j, val_int ok rx e1, ry, MulOk.wide q, fin⟩)
    | _ => rw [e1] at h; exact h.elim
  | lst ds =>
    cases y with
    | int k =>
      rw [e1] at h
      obtain ⟨a, vs, rfl, ha, ra⟩ := seq_lst ok rx e1
      refine .inr ⟨a, k, vs, rfl, ry, ha, by omega, by omega, by rw [← ra.len]; exact line_of h.1.2.2, fun p hp => ?_⟩
      obtain ⟨ok2, k2, _⟩ := ok.alloc hp (.lst (List.replicate k.toNat vs).flatten)
      exact n _ _ _ S k2 ok2 (newL ok hp (ra.rep _)) h.2
    | _ => rw [e1] at h; exact h.elim
  | _ => rw [e1] at h; exact h.elim
end
end DL
set_option maxRecDepth 100000
set_option maxHeartbeats 2000000
namespace DL
open PySem PySem.Spec PyProof.Rows L2
/-! ### trees as the library's data -/
mutual
def toPy : D → Option PyData
  | .non => some .none
  | .bl b => some (.bool b)
  | .int i => some (.int i)
  | .str s => some (.str s)
  | .lst ds => (toPys ds).map .list
  | .tup ds => (toPys ds).map .tuple
  | _ => none
def toPys : List D → Option (List PyData)
  | [] => some []
  | d :: ds => match toPy d, toPys ds with
    | some p, some ps => some (p :: ps)
    | _, _ => none
end
section
variable {K : PySem.W.Frag} {M : Addr → Prop} {mu : List Addr} {H : Hp} {S : Sto}
mutual
theorem R.dp : ∀ (d : D) (v : V) (p : PyData), R K M mu H d v → toPy d = some p → Dp K H v p
  | .non, v, p, r, e => by obtain rfl : v = .non := r; obtain rfl : PyData.none = p := Option.some.inj e; exact .non
  | .bl b, v, p, r, e => by obtain rfl : v = .bl b := r; obtain rfl : PyData.bool b = p := Option.some.inj e; exact .bl b
  | .int b, v, p, r, e => by obtain rfl : v = .int b := r; obtain rfl : PyData.int b = p := Option.some.inj e; exact .int b
  | .str b, v, p, r, e => by obtain rfl : v = .str b := r; obtain rfl : PyData.str b = p := Option.some.inj e; exact .str b
  | .lst ds, v, p, r, e => by
    obtain ⟨a, vs, rfl, _, h3, h4⟩ := r
    obtain ⟨ps, h5, rfl⟩ := Option.map_eq_some_iff.mp (show (toPys ds).map PyData.list = some p from e)
    exact .lst (SqL.of h3) (Rs.dp ds vs ps h4 h5)
  | .tup ds, v, p, r, e => by
    obtain ⟨a, vs, rfl, h3, h4⟩ := r
    obtain ⟨ps, h5, rfl⟩ := Option.map_eq_some_iff.mp (show (toPys ds).map PyData.tuple = some p from e)
    exact .tup (h3.elim (fun q => SqT.of q.2) (fun q => q.to)) (Rs.dp ds vs ps h4 h5)
  | .ty _, _, _, _, e => by simp [toPy] at e
  | .cst _, _, _, _, e => by simp [toPy] at e
  | .loc _, _, _, _, e => by simp [toPy] at e
  | .scr _, _, _, _, e => by simp [toPy] at e
  | .dct _, _, _, _, e => by simp [toPy] at e
  | .obj _ _, _, _, _, e => by simp [toPy] at e
theorem Rs.dp : ∀ (ds : List D) (vs : List V) (ps : List PyData), Rs K M mu H ds vs → toPys ds = some ps → DpAll K H vs ps
  | [], vs, ps, r, e => by obtain rfl : vs = [] := r; obtain rfl : ([] : List PyData) = ps := Option.some.inj e; exact .nil
  | d :: ds, vs, ps, r, e => by
    obtain ⟨v, rr, rfl, h1, h2⟩ := r
    have e' : (match toPy d, toPys ds with
      | some p, some ps => some (p :: ps)
      | _, _ => none) = some ps := by rw [← e]; rfl
    cases e1 : toPy d with
    | none => rw [e1] at e'; cases e'
    | some p =>
      cases e2 : toPys ds with
      | none => rw [e1, e2] at e'; cases e'
      | some qs =>
        rw [e1, e2] at e'
        obtain rfl : p :: qs = ps := Option.some.inj e'
        exact .cons (R.dp d v p h1 e1) (Rs.dp ds rr qs h2 e2)
end
theorem val_dp (w : Wok K M mu H S) {x : D} {v : V} {p : PyData} (r : R K M mu H x v) (e : toPy (val S x) = some p) : Dp K H v p := by
  cases x with
  | loc i =>
    obtain ⟨a, rfl, h2⟩ := r
    cases q : val S (.loc i) with
    | lst ds =>
      rw [q] at e
      obtain ⟨vs, h3, h4⟩ : Cl K M mu H (.lst ds) a := w.at_ i a _ h2 (val_loc q (by simp))
      obtain ⟨ps, h5, rfl⟩ := Option.map_eq_some_iff.mp (show (toPys ds).map PyData.list = some p from e)
      exact .lst (SqL.of h3) (Rs.dp ds vs ps h4 h5)
    | loc _ => rw [q] at e; simp [toPy] at e
    | dct _ => rw [q] at e; simp [toPy] at e
    | obj _ _ => rw [q] at e; simp [toPy] at e
    | ty _ => rw [q] at e; simp [toPy] at e
    | cst _ => rw [q] at e; simp [toPy] at e
    | scr _ => rw [q] at e; simp [toPy] at e
    | non => exact absurd q val_ne_non
    | _ => exact (show False from w.at_ i a _ h2 (val_loc q (by simp))).elim
  | _ => exact R.dp _ v p r e
/-! ### equality -/
def scalD : D → D → Option Bool
  | .non, .non => some true
  | .int i, .int j => some (decide (i = j))
  | .str i, .str j => some (decide (i = j))
  | .bl i, .bl j => some (decide (i = j))
  | .non, .int _ => some false | .int _, .non => some false | .non, .bl _ => some false | .bl _, .non => some false | .non, .str _ => some false | .str _, .non => some false
  | .int _, .str _ => some false | .str _, .int _ => some false | .bl _, .str _ => some false | .str _, .bl _ => some false
  | _, _ => none
theorem scalD_ok {x y : D} {v u : V} {b : Bool} (rx : R K M mu H x v) (ry : R K M mu H y u) (e : scalD x y = some b) : scal v u = true ∧ decide (v = u) = b := by
  cases x with
  | non =>
    obtain rfl : v = .non := rx
    cases y with
    | non => obtain rfl : u = .non := ry; cases e; exact ⟨rfl, by simp⟩
    | int j => obtain rfl : u = .int j := ry; cases e; exact ⟨rfl, by simp⟩
    | bl j => obtain rfl : u = .bl j := ry; cases e; exact ⟨rfl, by simp⟩
    | str j => obtain rfl : u = .str j := ry; cases e; exact ⟨rfl, by simp⟩
    | _ => cases e
  | int i =>
    obtain rfl : v = .int i := rx
    cases y with
    | non => obtain rfl : u = .non := ry; cases e; exact ⟨rfl, by simp⟩
    | int j => obtain rfl : u = .int j := ry; cases e; exact ⟨rfl, by simp⟩
    | str j => obtain rfl : u = .str j := ry; cases e; exact ⟨rfl, by simp⟩
    | _ => cases e
  | bl i =>
    obtain rfl : v = .bl i := rx
    cases y with
    | non => obtain rfl : u = .non := ry; cases e; exact ⟨rfl, by simp⟩
    | bl j => obtain rfl : u = .bl j := ry; cases e; exact ⟨rfl, by simp⟩
    | str j => obtain rfl : u = .str j := ry; cases e; exact ⟨rfl, by simp⟩
    | _ => cases e
  | str i =>
    obtain rfl : v = .str i := rx
    cases y with
    | non => obtain rfl : u = .non := ry; cases e; exact ⟨rfl, by simp⟩
    | int j => obtain rfl : u = .int j := ry; cases e; exact ⟨rfl, by simp⟩
    | bl j => obtain rfl : u = .bl j := ry; cases e; exact ⟨rfl, by simp⟩
    | str j => obtain rfl : u = .str j := ry; cases e; exact ⟨rfl, by simp⟩
    | _ => cases e
  | _ => cases y <;> cases e
def eqD (neg : Bool) : DF2 := fun x y S P => match scalD x y with
  | some b => P (.bl (if neg then !b else b)) S
  | none => match toPy (val S x), toPy (val S y) with
    | some p, some q => SeqAt.shaped p = true ∧ SeqAt.shaped q = true ∧ P (.bl (if neg then !PyData.eqv p q else PyData.eqv p q)) S
    | _, _ => False
theorem opd_eq : OpD K (fun x y H Q => rEq x y H Q ∨ rEqD K x y H Q) (eqD false) := by
  intro M mu H S x y v u P Q ok rx ry h n
  unfold eqD at h
  cases e0 : scalD x y with
  | some b =>
    rw [e0] at h
    obtain ⟨h1, h2⟩ := scalD_ok rx ry e0
    exact .inl ⟨h1, by rw [h2]; exact n _ H (.bl b) S (.refl _ _) ok rfl h⟩
  | none =>
    rw [e0] at h
    cases e1 : toPy (val S x) with
    | none => simp only [e1] at h
    | some p =>
      cases e2 : toPy (val S y) with
      | none => simp only [e1, e2] at h
      | some q =>
        simp only [e1, e2] at h
        exact .inr ⟨p, q, val_dp ok rx e1, val_dp ok ry e2, h.1, h.2.1, n _ H (.bl (PyData.eqv p q)) S (.refl _ _) ok rfl h.2.2⟩
theorem opd_ne : OpD K (fun x y H Q => rNe x y H Q ∨ rNeD K x y H Q) (eqD true) := by
  intro M mu H S x y v u P Q ok rx ry h n
  unfold eqD at h
  cases e0 : scalD x y with
  | some b =>
    rw [e0] at h
    obtain ⟨h1, h2⟩ := scalD_ok rx ry e0
    exact .inl ⟨h1, by rw [h2]; exact n _ H (.bl (!b)) S (.refl _ _) ok rfl h⟩
  | none =>
    rw [e0] at h
    cases e1 : toPy (val S x) with
    | none => simp only [e1] at h
    | some p =>
      cases e2 : toPy (val S y) with
      | none => simp only [e1, e2] at h
      | some q =>
        simp only [e1, e2] at h
        exact .inr ⟨p, q, val_dp ok rx e1, val_dp ok ry e2, h.1, h.2.1, n _ H (.bl (!PyData.eqv p q)) S (.refl _ _) ok rfl h.2.2⟩
/-! ### in -/
def toV : D → Option V
  | .non => some .non
  | .bl b => some (.bl b)
  | .int i => some (.int i)
  | .str s => some (.str s)
  | _ => none
theorem toV_ok {d : D} {v u : V} (r : R K M mu H d v) (e : toV d = some u) : v = u ∧ flatV u = true := by
  cases d with
  | non => obtain rfl : V.non = u := Option.some.inj e; exact ⟨r, rfl⟩
  | bl _ => obtain rfl : V.bl _ = u := Option.some.inj e; exact ⟨r, rfl⟩
  | int _ => obtain rfl : V.int _ = u := Option.some.inj e; exact ⟨r, rfl⟩
  | str _ => obtain rfl : V.str _ = u := Option.some.inj e; exact ⟨r, rfl⟩
  | _ => exact absurd e (by simp [toV])
def toVs : List D → Option (List V)
  | [] => some []
  | d :: ds => match toV d, toVs ds with
    | some v, some vs => some (v :: vs)
    | _, _ => none
theorem toVs_ok : ∀ {ds : List D} {vs us : List V}, Rs K M mu H ds vs → toVs ds = some us → vs = us ∧ us.all flatV = true
  | [], vs, us, r, e => by obtain rfl : vs = [] := r; obtain rfl : ([] : List V) = us := Option.some.inj e; exact ⟨rfl, rfl⟩
  | d :: ds, vs, us, r, e => by
    obtain ⟨v, rr, rfl, h1, h2⟩ := r
    have e' : (match toV d, toVs ds with
      | some v, some vs => some (v :: vs)
      | _, _ => none) = some us := by rw [← e]; rfl
    cases e1 : toV d with
    | none => rw [e1] at e'; cases e'
    | some p =>
      cases e2 : toVs ds with
      | none => rw [e1, e2] at e'; cases e'
      | some qs =>
        rw [e1, e2] at e'
        obtain rfl : p :: qs = us := Option.some.inj e'
        obtain ⟨a1, a2⟩ := toV_ok h1 e1
        obtain ⟨b1, b2⟩ := toVs_ok h2 e2
        exact ⟨by rw [a1, b1], by rw [List.all_cons, a2, b2]; rfl⟩
def inD (neg : Bool) : DF2 := fun x y S P => match toV x, val S y with
  | some v, .lst ds => (match toVs ds with
    | some vs => P (.bl (if neg then !inV v vs else inV v vs)) S
    | none => False)
  | some v, .tup ds => (match toVs ds with
    | some vs => P (.bl (if neg then !inV v vs else inV v vs)) S
    | none => False)
  | _, _ => False
theorem opd_in {neg : Bool} : OpD K (rIn K neg) (inD neg) := by
  intro M mu H S x y v u P Q ok rx ry h n
  unfold inD at h
  cases e1 : toV x with
  | none => rw [e1] at h; exact h.elim
  | some x' =>
    rw [e1] at h
    obtain ⟨rfl, fx⟩ := toV_ok rx e1
    cases e2 : val S y with
    | lst ds =>
      rw [e2] at h
      obtain ⟨a, vs, rfl, ha, ra⟩ := seq_lst ok ry e2
      cases e3 : toVs ds with
      | none => simp only [e3] at h
      | some us =>
        simp only [e3] at h
        obtain ⟨rfl, fs⟩ := toVs_ok ra e3
        exact ⟨a, _, rfl, .inl (SqL.of ha), fx, fs, n _ H (.bl _) S (.refl _ _) ok rfl h⟩
    | tup ds =>
      rw [e2] at h
      obtain ⟨a, vs, rfl, ha, ra⟩ := seq_tup ok ry e2
      cases e3 : toVs ds with
      | none => simp only [e3] at h
      | some us =>
        simp only [e3] at h
        obtain ⟨rfl, fs⟩ := toVs_ok ra e3
        exact ⟨a, _, rfl, .inr ha, fx, fs, n _ H (.bl _) S (.refl _ _) ok rfl h⟩
    | _ => rw [e2] at h; exact h.elim
/-! ### is None -/
def isNonD : D → Bool
  | .non => true
  | _ => false
theorem isNon_ok {d : D} {v : V} (r : R K M mu H d v) : decide (v = .non) = isNonD d := by
  cases d with
  | non => obtain rfl : v = .non := r; rfl
  | bl _ => obtain rfl : v = .bl _ := r; rfl
  | int _ => obtain rfl : v = .int _ := r; rfl
  | str _ => obtain rfl : v = .str _ := r; rfl
  | ty _ => obtain rfl : v = .ty _ := r; rfl
  | cst _ => obtain rfl : v = .ref _ := r; rfl
  | loc _ => obtain ⟨a, rfl, _⟩ := r; rfl
  | scr _ => obtain ⟨a, rfl, _⟩ := r; rfl
  | lst _ => obtain ⟨a, vs, rfl, _⟩ := r; rfl
  | tup _ => obtain ⟨a, vs, rfl, _⟩ := r; rfl
  | dct _ => obtain ⟨a, rfl, _⟩ := r; rfl
  | obj _ _ => obtain ⟨a, dx, gs, rfl, _⟩ := r; rfl
def isD (neg : Bool) : DF2 := fun x y S P => match y with
  | .non => P (.bl (if neg then !isNonD x else isNonD x)) S
  | _ => False
theorem opd_is : OpD K (fun x y H Q => y = .non ∧ Q (.bl (decide (x = .non))) H) (isD false) := by
  intro M mu H S x y v u P Q ok rx ry h n
  cases y with
  | non => exact ⟨ry, n _ H (.bl (isNonD x)) S (.refl _ _) ok (by rw [isNon_ok rx]; rfl) h⟩
  | _ => exact h.elim
theorem opd_isnot : OpD K (fun x y H Q => y = .non ∧ Q (.bl (!decide (x = .non))) H) (isD true) := by
  intro M mu H S x y v u P Q ok rx ry h n
  cases y with
  | non => exact ⟨ry, n _ H (.bl (!isNonD x)) S (.refl _ _) ok (by rw [isNon_ok rx]; rfl) h⟩
  | _ => exact h.elim
/-! ### subscripts, slices -/
def ixD : DF2 := fun x y S P => match val S x, y with
  | .lst ds, .int i => (match atI ds i with
    | some d => P d S
    | none => False)
  | .tup ds, .int i => (match atI ds i with
    | some d => P d S
    | none => False)
  | .str s, .int i => s.length ≤ 1000000 ∧ (match atI s.cps.toList i with
    | some c => P (.str ⟨#[c]⟩) S
    | none => False)
  | _, _ => False
theorem Rs.at_ {ds : List D} {vs : List V} (r : Rs K M mu H ds vs) {i : Int} {d : D} (h : atI ds i = some d) : ∃ v, atI vs i = some v ∧ R K M mu H d v := by
  unfold atI at h ⊢
  rw [← r.len]
  cases e : ixN ds.length i with
  | none => rw [e] at h; cases h
  | some j => rw [e] at h; exact r.get (i := j) h
theorem opd_ix : OpD K (rIx K) ixD := by
  intro M mu H S x y v u P Q ok rx ry h n
  unfold ixD at h
  cases y with
  | int i =>
    cases e1 : val S x with
    | lst ds =>
      simp only [e1] at h
      obtain ⟨a, vs, rfl, ha, ra⟩ := seq_lst ok rx e1
      cases e2 : atI ds i with
      | none => simp only [e2] at h
      | some d =>
        simp only [e2] at h
        obtain ⟨w, h1, h2⟩ := ra.at_ e2
        exact .inl ⟨a, vs, i, w, rfl, ry, SqL.of ha, h1, n w H d S (.refl _ _) ok h2 h⟩
    | tup ds =>
      simp only [e1] at h
      obtain ⟨a, vs, rfl, ha, ra⟩ := seq_tup ok rx e1
      cases e2 : atI ds i with
      | none => simp only [e2] at h
      | some d =>
        simp only [e2] at h
        obtain ⟨w, h1, h2⟩ := ra.at_ e2
        exact .inr (.inl ⟨a, vs, i, w, rfl, ry, ha, h1, n w H d S (.refl _ _) ok h2 h⟩)
    | str s =>
      simp only [e1] at h
      cases e2 : atI s.cps.toList i with
      | none => simp only [e2] at h; exact h.2.elim
      | some c =>
        simp only [e2] at h
        exact .inr (.inr ⟨s, i, c, val_str ok rx e1, ry, line_of h.1, e2, n _ H (.str ⟨#[c]⟩) S (.refl _ _) ok rfl h.2⟩)
    | _ => simp only [e1] at h
  | _ => cases e1 : val S x <;> simp only [e1] at h
end
section
variable {X : Cx} {W : WX} {e a b c : Expr} {es rest : List Expr} {wa wb wc : DW} {w : DWA} {ta tb tc : DWT} {pos : Pos}
theorem de_ix (ha : DE X W a wa) (hb : DE X W b wb) (hs : PlainIx b := by exact fun _ _ => rfl) : DE X W (.Subscript a b pos) (wOp ixD wa wb) := by
  obtain ⟨_, pa, ra⟩ := ha.ex
  obtain ⟨_, pb, rb⟩ := hb.ex
  exact ⟨_, pe_ix ix_seq pa pb hs, rd_op opd_ix ra rb⟩
theorem de_eq (hu : X.A.units + 64 < cLine) (ha : DE X W a wa) (hb : DE X W b wb) : DE X W (.Compare a [.Eq] [b] pos) (wOp (eqD false) wa wb) := de_cmp (OpR.or op_eq (op_eqD hu)) opd_eq ha hb
theorem de_ne (hu : X.A.units + 64 < cLine) (ha : DE X W a wa) (hb : DE X W b wb) : DE X W (.Compare a [.NotEq] [b] pos) (wOp (eqD true) wa wb) := de_cmp (OpR.or op_ne (op_neD hu)) opd_ne ha hb
theorem dt_eq (hu : X.A.units + 64 < cLine) (ha : DE X W a wa) (hb : DE X W b wb) : DT X W (.Compare a [.Eq] [b] pos) (wB (wOp (eqD false) wa wb)) := dt_cmp (OpR.or op_eq (op_eqD hu)) opd_eq ha hb
theorem dt_ne (hu : X.A.units + 64 < cLine) (ha : DE X W a wa) (hb : DE X W b wb) : DT X W (.Compare a [.NotEq] [b] pos) (wB (wOp (eqD true) wa wb)) := dt_cmp (OpR.or op_ne (op_neD hu)) opd_ne ha hb
/-! ### slices -/
abbrev DWO := Loc → Sto → (Option Int → Sto → Prop) → Ex → Prop
structure DO (X : Cx) (W : WX) (e : Option Expr) (w : DWO) : Prop where
  ex : ∃ t, PO X e t ∧ ∀ (M : Addr → Prop) (mu : List Addr) (σ : L2.St) (ρ : Loc) (S : Sto) (H : Hp) (P : Option Int → Sto → Prop) (E : Ex) (Q : Option Int → Hp → Prop), Wok X.K M mu H S → Env X.K M mu H ρ σ → w ρ S P E →
    (∀ o H' S', Keep mu H H' → Wok X.K M mu H' S' → P o S' → Q o H') → Exc X.K M mu H E (fun C d H' => W C d σ H') → t σ H Q
def wNoPart : DWO := fun _ S P _ => P none S
def wPart (w : DW) : DWO := fun ρ S P E => w ρ S (fun x S1 => match x with
  | .int i => P (some i) S1
  | _ => False) E
theorem do_none : DO X W none wNoPart := ⟨_, po_none, fun M mu σ ρ S H P E Q ok en hw n x => n none H S (.refl _ _) ok hw⟩
theorem do_some (h : DE X W e wa) : DO X W (some e) (wPart wa) := by
  obtain ⟨_, pa, ra⟩ := h.ex
  refine ⟨_, po_some pa, fun M mu σ ρ S H P E Q ok en hw n x => ?_⟩
  refine ra.run M mu σ ρ S H _ E _ ok en hw (fun v H1 d S1 k1 ok1 r1 h1 => ?_) x
  cases d with
  | int i => exact ⟨i, r1, n _ H1 S1 k1 ok1 h1⟩
  | _ => exact h1.elim
def cutD (ds : List D) (lo hi : Option Int) : List D := (ds.drop (HT.sIx ds.length 0 lo)).take (HT.sIx ds.length ds.length hi - HT.sIx ds.length 0 lo)
def sliceD (x : D) (lo hi : Option Int) (S : Sto) (P : DK) : Prop := match val S x with
  | .lst ds => P (.lst (cutD ds lo hi)) S
  | .tup ds => P (.tup (cutD ds lo hi)) S
  | .str s => s.length ≤ 1000000 ∧ P (.str (cutS s lo hi)) S
  | .scr ns => P (.lst (cutD (ns.map D.int) lo hi)) S
  | _ => False
def wSl (wa : DW) (wl wh : DWO) : DW := fun ρ S P E => wa ρ S (fun x S1 => wl ρ S1 (fun l S2 => wh ρ S2 (fun u S3 => sliceD x l u S3 P) E) E) E
theorem Rs.cut {K : PySem.W.Frag} {M : Addr → Prop} {mu : List Addr} {H : Hp} {ds : List D} {vs : List V} (r : Rs K M mu H ds vs) (lo hi : Option Int) : Rs K M mu H (cutD ds lo hi) (cutV vs lo hi) := by
  unfold cutD cutV
  rw [← r.len]
  exact (r.drop _).take _
theorem rs_ints {K : PySem.W.Frag} {M : Addr → Prop} {mu : List Addr} {H : Hp} : ∀ ns : List Int, Rs K M mu H (ns.map D.int) (ns.map V.int)
  | [] => rfl
  | n :: ns => ⟨_, _, rfl, rfl, rs_ints ns⟩
theorem seq_scr {K : PySem.W.Frag} {M : Addr → Prop} {mu : List Addr} {H : Hp} {S : Sto} (w : Wok K M mu H S) {x : D} {v : V} {ns : List Int} (r : R K M mu H x v) (e : val S x = .scr ns) : ∃ a, v = .ref a ∧ SqL K H a (ns.map V.int) := by
  cases x with
  | loc i =>
    obtain ⟨a, h1, h2⟩ := r
    exact (show False from w.at_ i a _ h2 (val_loc e (by simp))).elim
  | scr ms =>
    obtain rfl : ms = ns := by simpa [val] using e
    obtain ⟨a, h1, h2⟩ := r
    exact ⟨a, h1, h2.elim (fun ⟨_, o, q⟩ => .inl (.inr ⟨o, q⟩)) fun q => .inr q⟩
  | _ => simp [val] at e
theorem de_slice {l u : Option Expr} {wl wu : DWO} {p2 : Pos} (ha : DE X W a wa) (hl : DO X W l wl) (hu : DO X W u wu) : DE X W (.Subscript a (.Slice l u none p2) pos) (wSl wa wl wu) := by
  obtain ⟨_, pa, ra⟩ := ha.ex
  obtain ⟨_, pl, rl⟩ := hl.ex
  obtain ⟨_, pu, ru⟩ := hu.ex
  refine ⟨_, pe_slice (SlR.or sl_list (SlR.or sl_tupA sl_str)) pa pl pu, ⟨fun M mu σ ρ S H P E Q ok en hw n x => ?_⟩⟩
  refine ra.run M mu σ ρ S H _ E _ ok en hw (fun v H1 d S1 k1 ok1 r1 h1 => ?_) x
  refine rl M mu σ ρ S1 H1 _ E _ ok1 (en.keep ok k1) h1 (fun lo H2 S2 k2 ok2 h2 => ?_) (x.mono k1)
  refine ru M mu σ ρ S2 H2 _ E _ ok2 ((en.keep ok k1).keep ok1 k2) h2 (fun hi H3 S3 k3 ok3 h3 => ?_) (x.mono (k1.trans k2))
  have r3 := r1.keep ok1 (k2.trans k3)
  have kk := k1.trans (k2.trans k3)
  unfold sliceD at h3
  cases e1 : val S3 d with
  | lst ds =>
    simp only [e1] at h3
    obtain ⟨p, vs, rfl, hp, rp⟩ := seq_lst ok3 r3 e1
    refine .inl ⟨p, vs, rfl, SqL.of hp, fun q hq => ?_⟩
    obtain ⟨ok4, k4, _⟩ := ok3.alloc hq (.lst (cutV vs lo hi))
    exact n _ _ _ S3 (kk.trans k4) ok4 (newL ok3 hq (rp.cut lo hi)) h3
  | tup ds =>
    simp only [e1] at h3
    obtain ⟨p, vs, rfl, hp, rp⟩ := seq_tup ok3 r3 e1
    refine .inr (.inl ⟨p, vs, rfl, hp, fun q => ?_, fun _ q hq => ?_⟩)
    · have ec : cutD ds lo hi = ds := by
        unfold cutD
        rw [rp.len, q.1, q.2, List.drop_zero, Nat.sub_zero, ← rp.len, List.take_length]
      rw [ec] at h3
      have rr : R X.K M mu H3 (.tup ds) (.ref p) := by
        cases d with
        | tup l =>
          obtain rfl : l = ds := by simpa [val] using e1
          exact r3
        | loc j =>
          obtain ⟨a, h1, h2⟩ := r3
          exact (show False from ok3.at_ j a _ h2 (val_loc e1 (by simp))).elim
        | _ => simp [val] at e1
      exact n _ H3 _ S3 kk ok3 rr h3
    · obtain ⟨ok4, k4, _⟩ := ok3.alloc hq (.tup (cutV vs lo hi))
      exact n _ _ _ S3 (kk.trans k4) ok4 (newT ok3 hq (rp.cut lo hi)) h3
  | str s =>
    simp only [e1] at h3
    exact .inr (.inr ⟨s, val_str ok3 r3 e1, line_of h3.1, n _ H3 (.str _) S3 kk ok3 rfl h3.2⟩)
  | scr ns =>
    simp only [e1] at h3
    obtain ⟨p, rfl, hp⟩ := seq_scr ok3 r3 e1
    refine .inl ⟨p, _, rfl, hp, fun q hq => ?_⟩
    obtain ⟨ok4, k4, _⟩ := ok3.alloc hq (.lst (cutV (ns.map V.int) lo hi))
    exact n _ _ _ S3 (kk.trans k4) ok4 (newL ok3 hq ((rs_ints ns).cut lo hi)) h3
  | _ => simp only [e1] at h3
/-! ### and, or, not, if -/
def wAndT (a b : DWT) : DWT := fun ρ S P E => a ρ S (fun k S1 => if k = true then b ρ S1 P E else P false S1) E
def wOrT (a b : DWT) : DWT := fun ρ S P E => a ρ S (fun k S1 => if k = true then P true S1 else b ρ S1 P E) E
def wNotT (a : DWT) : DWT := fun ρ S P E => a ρ S (fun k S1 => P (!k) S1) E
theorem rd_and {K : PySem.W.Frag} {t1 t2 : TT} (r1 : RdT K W t1 ta) (r2 : RdT K W t2 tb) : RdT K W (tAnd t1 t2) (wAndT ta tb) := by
  refine ⟨fun M mu σ ρ S H P E Q ok en hw n x => ?_⟩
  refine r1.run M mu σ ρ S H _ E _ ok en hw (fun k H1 S1 k1 ok1 h1 => ?_) x
  cases k with
  | true => rw [if_pos rfl] at h1 ⊢; exact r2.run M mu σ ρ S1 H1 P E Q ok1 (en.keep ok k1) h1 (n.mono k1) (x.mono k1)
  | false => rw [if_neg Bool.false_ne_true] at h1 ⊢; exact n _ H1 S1 k1 ok1 h1
theorem rd_or {K : PySem.W.Frag} {t1 t2 : TT} (r1 : RdT K W t1 ta) (r2 : RdT K W t2 tb) : RdT K W (tOr t1 t2) (wOrT ta tb) := by
  refine ⟨fun M mu σ ρ S H P E Q ok en hw n x => ?_⟩
  refine r1.run M mu σ ρ S H _ E _ ok en hw (fun k H1 S1 k1 ok1 h1 => ?_) x
  cases k with
  | false => rw [if_neg Bool.false_ne_true] at h1 ⊢; exact r2.run M mu σ ρ S1 H1 P E Q ok1 (en.keep ok k1) h1 (n.mono k1) (x.mono k1)
  | true => rw [if_pos rfl] at h1 ⊢; exact n _ H1 S1 k1 ok1 h1
theorem dw_and1 (h : DT X W a ta) : DTW X W (.BoolOp .And [a] pos) ta := let ⟨_, p, r⟩ := h.ex; ⟨_, pw_and1 p, r⟩
theorem dw_or1 (h : DT X W a ta) : DTW X W (.BoolOp .Or [a] pos) ta := let ⟨_, p, r⟩ := h.ex; ⟨_, pw_or1 p, r⟩
theorem dw_and (h : DT X W a ta) (h2 : DTW X W (.BoolOp .And (b :: rest) pos) tb) : DTW X W (.BoolOp .And (a :: b :: rest) pos) (wAndT ta tb) :=
  let ⟨_, p, r⟩ := h.ex; let ⟨_, p2, r2⟩ := h2.ex; ⟨_, pw_and p p2, rd_and r r2⟩
theorem dw_or (h : DT X W a ta) (h2 : DTW X W (.BoolOp .Or (b :: rest) pos) tb) : DTW X W (.BoolOp .Or (a :: b :: rest) pos) (wOrT ta tb) :=
  let ⟨_, p, r⟩ := h.ex; let ⟨_, p2, r2⟩ := h2.ex; ⟨_, pw_or p p2, rd_or r r2⟩
theorem dt_w (h : DTW X W a ta) : DT X W a ta := let ⟨_, p, r⟩ := h.ex; ⟨_, p.pt, r⟩
theorem dt_not (h : DT X W a ta) : DT X W (.UnaryOp .Not a pos) (wNotT ta) := by
  obtain ⟨_, p, r⟩ := h.ex
  exact ⟨_, pt_not p, ⟨fun M mu σ ρ S H P E Q ok en hw n x => r.run M mu σ ρ S H _ E _ ok en hw (fun k H1 S1 k1 ok1 h1 => n _ H1 S1 k1 ok1 h1) x⟩⟩
def wAndV (a b : DW) : DW := fun ρ S P E => a ρ S (fun x S1 => match x with
  | .bl k => if k = true then b ρ S1 P E else P (.bl false) S1
  | _ => False) E
def wOrV (a b : DW) : DW := fun ρ S P E => a ρ S (fun x S1 => match x with
  | .bl k => if k = true then P (.bl true) S1 else b ρ S1 P E
  | _ => False) E
def notD (x : D) (S : Sto) (P : DK) : Prop := match x with
  | .bl k => P (.bl (!k)) S
  | _ => False
theorem de_one {op} (h : DE X W a wa) : DE X W (.BoolOp op [a] pos) wa := let ⟨_, p, r⟩ := h.ex; ⟨_, pe_one p, r⟩
theorem de_and (h : DE X W a wa) (h2 : DE X W (.BoolOp .And (b :: rest) pos) wb) : DE X W (.BoolOp .And (a :: b :: rest) pos) (wAndV wa wb) := by
  obtain ⟨_, p, r⟩ := h.ex
  obtain ⟨_, p2, r2⟩ := h2.ex
  refine ⟨_, pe_and p p2, ⟨fun M mu σ ρ S H P E Q ok en hw n x => ?_⟩⟩
  refine r.run M mu σ ρ S H _ E _ ok en hw (fun v H1 d S1 k1 ok1 r1 h1 => ?_) x
  cases d with
  | bl k =>
    refine ⟨k, r1, ?_⟩
    cases k with
    | true => rw [if_pos rfl]; exact r2.run M mu σ ρ S1 H1 P E Q ok1 (en.keep ok k1) h1 (n.mono k1) (x.mono k1)
    | false => rw [if_neg Bool.false_ne_true]; exact n _ H1 (.bl false) S1 k1 ok1 rfl h1
  | _ => exact h1.elim
theorem de_or (h : DE X W a wa) (h2 : DE X W (.BoolOp .Or (b :: rest) pos) wb) : DE X W (.BoolOp .Or (a :: b :: rest) pos) (wOrV wa wb) := by
  obtain ⟨_, p, r⟩ := h.ex
  obtain ⟨_, p2, r2⟩ := h2.ex
  refine ⟨_, pe_or p p2, ⟨fun M mu σ ρ S H P E Q ok en hw n x => ?_⟩⟩
  refine r.run M mu σ ρ S H _ E _ ok en hw (fun v H1 d S1 k1 ok1 r1 h1 => ?_) x
  cases d with
  | bl k =>
    refine ⟨k, r1, ?_⟩
    cases k with
    | false => rw [if_neg Bool.false_ne_true]; exact r2.run M mu σ ρ S1 H1 P E Q ok1 (en.keep ok k1) h1 (n.mono k1) (x.mono k1)
    | true => rw [if_pos rfl]; exact n _ H1 (.bl true) S1 k1 ok1 rfl h1
  | _ => exact h1.elim
theorem de_not (h : DE X W a wa) : DE X W (.UnaryOp .Not a pos) (wUn notD wa) := by
  obtain ⟨_, p, r⟩ := h.ex
  refine ⟨_, pe_not p, ⟨fun M mu σ ρ S H P E Q ok en hw n x => ?_⟩⟩
  refine r.run M mu σ ρ S H _ E _ ok en hw (fun v H1 d S1 k1 ok1 r1 h1 => ?_) x
  cases d with
  | bl k => exact ⟨k, r1, n _ H1 (.bl (!k)) S1 k1 ok1 rfl h1⟩
  | _ => exact h1.elim
def wIf (t : DWT) (a b : DW) : DW := fun ρ S P E => t ρ S (fun k S1 => if k = true then a ρ S1 P E else b ρ S1 P E) E
theorem de_if (ht : DT X W c tc) (ha : DE X W a wa) (hb : DE X W b wb) : DE X W (.IfExp c a b pos) (wIf tc wa wb) := by
  obtain ⟨_, p, r⟩ := ht.ex
  obtain ⟨_, p1, r1⟩ := ha.ex
  obtain ⟨_, p2, r2⟩ := hb.ex
  refine ⟨_, pe_ifExp p p1 p2, ⟨fun M mu σ ρ S H P E Q ok en hw n x => ?_⟩⟩
  refine r.run M mu σ ρ S H _ E _ ok en hw (fun k H1 S1 k1 ok1 h1 => ?_) x
  cases k with
  | true => rw [if_pos rfl] at h1 ⊢; exact r1.run M mu σ ρ S1 H1 P E Q ok1 (en.keep ok k1) h1 (n.mono k1) (x.mono k1)
  | false => rw [if_neg Bool.false_ne_true] at h1 ⊢; exact r2.run M mu σ ρ S1 H1 P E Q ok1 (en.keep ok k1) h1 (n.mono k1) (x.mono k1)
/-! ### truth -/
def truD (x : D) (S : Sto) (P : Bool → Sto → Prop) : Prop := match val S x with
  | .non => P false S
  | .bl k => P k S
  | .int i => P (i != 0) S
  | .str s => s.length ≤ 1000000 ∧ P ((s.length : Int) != 0) S
  | .lst ds => P (!ds.isEmpty) S
  | .tup ds => P (!ds.isEmpty) S
  | _ => False
def wTru (w : DW) : DWT := fun ρ S P E => w ρ S (fun x S1 => truD x S1 P) E
theorem Rs.emp {K : PySem.W.Frag} {M : Addr → Prop} {mu : List Addr} {H : Hp} {ds : List D} {vs : List V} (r : Rs K M mu H ds vs) : vs.isEmpty = ds.isEmpty := by
  have := r.len
  cases ds <;> cases vs <;> simp_all
theorem val_non {K : PySem.W.Frag} {M : Addr → Prop} {mu : List Addr} {H : Hp} {S : Sto} {x : D} {v : V} (r : R K M mu H x v) (e : val S x = .non) : v = .non := by
  cases x with
  | loc j => exact absurd e val_ne_non
  | non => exact r
  | _ => simp [val] at e
theorem val_bl {K : PySem.W.Frag} {M : Addr → Prop} {mu : List Addr} {H : Hp} {S : Sto} (w : Wok K M mu H S) {x : D} {v : V} {i : Bool} (r : R K M mu H x v) (e : val S x = .bl i) : v = .bl i := by
  cases x with
  | loc j =>
    obtain ⟨a, h1, h2⟩ := r
    exact (show False from w.at_ j a _ h2 (val_loc e (by simp))).elim
  | bl j =>
    have e' : j = i := by simpa [val] using e
    subst e'
    exact r
  | _ => simp [val] at e
theorem dt_tru (h : DE X W a wa) (he : ∀ whole, isTrue a X.env whole = (do let v ← whole; standAt a.pos; holding [v] (truthy v)) := by intro _; rfl) : DT X W a (wTru wa) := by
  obtain ⟨_, p, r⟩ := h.ex
  refine ⟨_, pt_truth p he, ⟨fun M mu σ ρ S H P E Q ok en hw n x => ?_⟩⟩
  refine r.run M mu σ ρ S H _ E _ ok en hw (fun v H1 d S1 k1 ok1 r1 h1 => ?_) x
  unfold truD at h1
  cases e1 : val S1 d with
  | non => simp only [e1] at h1; obtain rfl := val_non r1 e1; exact ⟨false, rfl, n _ H1 S1 k1 ok1 h1⟩
  | bl k => simp only [e1] at h1; obtain rfl := val_bl ok1 r1 e1; exact ⟨k, rfl, n _ H1 S1 k1 ok1 h1⟩
  | int i => simp only [e1] at h1; obtain rfl := val_int ok1 r1 e1; exact ⟨_, rfl, n _ H1 S1 k1 ok1 h1⟩
  | str s => simp only [e1] at h1; obtain rfl := val_str ok1 r1 e1; exact ⟨_, ⟨line_of h1.1, rfl⟩, n _ H1 S1 k1 ok1 h1.2⟩
  | lst ds => simp only [e1] at h1; obtain ⟨q, vs, rfl, hp, rp⟩ := seq_lst ok1 r1 e1; exact ⟨_, .inl ⟨vs, SqL.of hp, by rw [rp.emp]⟩, n _ H1 S1 k1 ok1 h1⟩
  | tup ds => simp only [e1] at h1; obtain ⟨q, vs, rfl, hp, rp⟩ := seq_tup ok1 r1 e1; exact ⟨_, .inr (.inl ⟨vs, hp, by rw [rp.emp]⟩), n _ H1 S1 k1 ok1 h1⟩
  | _ => simp only [e1] at h1
end
end DL
set_option maxRecDepth 100000
set_option maxHeartbeats 2000000
namespace DL
open PySem PySem.Spec PyProof.Rows L2
/-! ### built-ins by their values -/
abbrev DFn := List D → Sto → DK → Prop
def CallD (K : PySem.W.Frag) (r : List V → Hp → VK → Prop) (f : DFn) : Prop := ∀ (M : Addr → Prop) (mu : List Addr) (H : Hp) (S : Sto) (xs : List D) (vs : List V) (P : DK) (Q : VK), Wok K M mu H S → Rs K M mu H xs vs → f xs S P → Nrm K M mu H P Q → r vs H Q
def wCB (f : DFn) (w : DWA) : DW := fun ρ S P E => w ρ S (fun xs S1 => f xs S1 P) E
theorem rd_cb {K : PySem.W.Frag} {W : WX} {r : List V → Hp → VK → Prop} {f : DFn} {t : TA} {w : DWA} (hf : CallD K r f) (ra : RdA K W t w) : Rd K W (tCB r t) (wCB f w) := by
  refine ⟨fun M mu σ ρ S H P E Q ok en hw n x => ?_⟩
  refine ra.run M mu σ ρ S H _ E _ ok en hw (fun vs H1 ds S1 k1 ok1 r1 h1 => ?_) x
  exact hf M mu H1 S1 ds vs P Q ok1 r1 h1 (n.mono k1)
section
variable {X : Cx} {W : WX} {x : Str} {p pos : Pos} {e : Expr} {es : List Expr} {w : DWA} {id T : String} {r : List V → Hp → VK → Prop} {f : DFn}
theorem de_callB (hc : CallR X (.builtin id) r) (hf : CallD X.K r f) (hg : Gl X x) (hm : X.mg x = none) (hv : bootBuiltins x = some (.builtin id)) (ha : DA X W (e :: es) w) (hn : x ≠ "__name__" := by decide) (hdb : (x == ("__debug__" : Str)) = false := by decide)
    (he : starEach (e :: es) X.env = (false, eval e X.env) :: starEach es X.env := by rfl) (hpl : (backTo pos (starEach es X.env)).any (·.1) = false := by rfl) : DE X W (.Call (.Name x p) (e :: es) [] pos) (wCB f w) :=
  let ⟨_, pa, ra⟩ := ha.ex; ⟨_, pe_callB hc hg hm hv pa hn hdb he hpl, rd_cb hf ra⟩
theorem de_callTy (hc : CallR X (.type T) r) (hf : CallD X.K r f) (hg : Gl X x) (hm : X.mg x = none) (hv : bootBuiltins x = some (.type T)) (ha : DA X W (e :: es) w) (hn : x ≠ "__name__" := by decide) (hdb : (x == ("__debug__" : Str)) = false := by decide)
    (he : starEach (e :: es) X.env = (false, eval e X.env) :: starEach es X.env := by rfl) (hpl : (backTo pos (starEach es X.env)).any (·.1) = false := by rfl) : DE X W (.Call (.Name x p) (e :: es) [] pos) (wCB f w) :=
  let ⟨_, pa, ra⟩ := ha.ex; ⟨_, pe_callTy hc hg hm hv pa hn hdb he hpl, rd_cb hf ra⟩
end
section
variable {K : PySem.W.Frag}
/-- len -/
def lenD : DFn := fun xs S P => match xs with
  | [x] => (match val S x with
    | .lst ds => P (.int ds.length) S
    | .tup ds => P (.int ds.length) S
    | .str s => s.length ≤ 1000000 ∧ P (.int s.length) S
    | _ => False)
  | _ => False
theorem Rs.one {M : Addr → Prop} {mu : List Addr} {H : Hp} {d : D} {vs : List V} (r : Rs K M mu H [d] vs) : ∃ v, vs = [v] ∧ R K M mu H d v := by
  obtain ⟨v, r, rfl, h1, h2⟩ := r
  obtain rfl : r = [] := h2
  exact ⟨v, rfl, h1⟩
theorem Rs.two {M : Addr → Prop} {mu : List Addr} {H : Hp} {d e : D} {vs : List V} (r : Rs K M mu H [d, e] vs) : ∃ v u, vs = [v, u] ∧ R K M mu H d v ∧ R K M mu H e u := by
  obtain ⟨v, r, rfl, h1, h2⟩ := r
  obtain ⟨u, rfl, h3⟩ := Rs.one h2
  exact ⟨v, u, rfl, h1, h3⟩
theorem calld_len : CallD K (fun xs H Q => ∃ x n, xs = [x] ∧ LenV K x H n ∧ Q (.int n) H) lenD := by
  intro M mu H S xs vs P Q ok r h n
  match xs, r, h with
  | [x], r, h =>
    obtain ⟨v, rfl, r1⟩ := r.one
    unfold lenD at h
    cases e1 : val S x with
    | lst ds =>
      simp only [e1] at h
      obtain ⟨a, us, rfl, ha, ra⟩ := seq_lst ok r1 e1
      exact ⟨_, us.length, rfl, .inl ⟨us, SqL.of ha, rfl⟩, n _ H (.int ds.length) S (.refl _ _) ok (by rw [ra.len]; rfl) h⟩
    | tup ds =>
      simp only [e1] at h
      obtain ⟨a, us, rfl, ha, ra⟩ := seq_tup ok r1 e1
      exact ⟨_, us.length, rfl, .inr ⟨us, ha, rfl⟩, n _ H (.int ds.length) S (.refl _ _) ok (by rw [ra.len]; rfl) h⟩
    | str s =>
      simp only [e1] at h
      obtain rfl := val_str ok r1 e1
      exact ⟨_, s.length, rfl, ⟨line_of h.1, rfl⟩, n _ H (.int s.length) S (.refl _ _) ok rfl h.2⟩
    | _ => simp only [e1] at h
  | [], _, h => exact h.elim
  | _ :: _ :: _, _, h => exact h.elim
/-- abs -/
def absD : DFn := fun xs S P => match xs with
  | [.int i] => P (.int (if i < 0 then -i else i)) S
  | _ => False
theorem calld_abs : CallD K (fun xs H Q => ∃ i, xs = [V.int i] ∧ Q (.int (if i < 0 then -i else i)) H) absD := by
  intro M mu H S xs vs P Q ok r h n
  unfold absD at h
  split at h
  · rename_i i
    obtain ⟨v, rfl, r1⟩ := r.one
    obtain rfl : v = .int i := r1
    exact ⟨i, rfl, n _ H (.int (if i < 0 then -i else i)) S (.refl _ _) ok rfl h⟩
  · exact h.elim
/-- int -/
def intOfD : DFn := fun xs S P => match xs with
  | [.int i] => P (.int i) S
  | [.bl k] => P (.int (if k then 1 else 0)) S
  | _ => False
theorem calld_int : CallD K (fun xs H Q => (∃ i, xs = [V.int i] ∧ Q (.int i) H) ∨ ∃ k, xs = [V.bl k] ∧ Q (.int (if k then 1 else 0)) H) intOfD := by
  intro M mu H S xs vs P Q ok r h n
  unfold intOfD at h
  split at h
  · rename_i i
    obtain ⟨v, rfl, r1⟩ := r.one
    obtain rfl : v = .int i := r1
    exact .inl ⟨i, rfl, n _ H (.int i) S (.refl _ _) ok rfl h⟩
  · rename_i k
    obtain ⟨v, rfl, r1⟩ := r.one
    obtain rfl : v = .bl k := r1
    exact .inr ⟨k, rfl, n _ H (.int (if k then 1 else 0)) S (.refl _ _) ok rfl h⟩
  · exact h.elim
/-- list(x), tuple(x) of a list or tuple -/
def listD : DFn := fun xs S P => match xs with
  | [x] => (match val S x with
    | .lst ds => P (.lst ds) S
    | .tup ds => P (.lst ds) S
    | _ => False)
  | _ => False
theorem calld_list : CallD K (fun xs H Q => ∃ p ys, xs = [V.ref p] ∧ (SqL K H p ys ∨ SqT K H p ys) ∧ ∀ l, H l = none → Q (.ref l) (upd H l (.lst ys))) listD := by
  intro M mu H S xs vs P Q ok r h n
  match xs, r, h with
  | [x], r, h =>
    obtain ⟨v, rfl, r1⟩ := r.one
    unfold listD at h
    cases e1 : val S x with
    | lst ds =>
      simp only [e1] at h
      obtain ⟨a, us, rfl, ha, ra⟩ := seq_lst ok r1 e1
      refine ⟨a, us, rfl, .inl (SqL.of ha), fun l hl => ?_⟩
      obtain ⟨ok2, k2, _⟩ := ok.alloc hl (.lst us)
      exact n _ _ _ S k2 ok2 (newL ok hl ra) h
    | tup ds =>
      simp only [e1] at h
      obtain ⟨a, us, rfl, ha, ra⟩ := seq_tup ok r1 e1
      refine ⟨a, us, rfl, .inr ha, fun l hl => ?_⟩
      obtain ⟨ok2, k2, _⟩ := ok.alloc hl (.lst us)
      exact n _ _ _ S k2 ok2 (newL ok hl ra) h
    | _ => simp only [e1] at h
  | [], _, h => exact h.elim
  | _ :: _ :: _, _, h => exact h.elim
/-- all, any of bools -/
def blsD : List D → Option (List Bool)
  | [] => some []
  | .bl b :: ds => (blsD ds).map (b :: ·)
  | _ :: _ => none
theorem bls_ok {M : Addr → Prop} {mu : List Addr} {H : Hp} : ∀ {ds : List D} {vs : List V} {bs : List Bool}, Rs K M mu H ds vs → blsD ds = some bs → vs = bs.map V.bl
  | [], vs, bs, r, e => by obtain rfl : vs = [] := r; obtain rfl : ([] : List Bool) = bs := Option.some.inj e; rfl
  | d :: ds, vs, bs, r, e => by
    obtain ⟨v, rr, rfl, h1, h2⟩ := r
    cases d with
    | bl b =>
      obtain ⟨cs, e1, rfl⟩ := Option.map_eq_some_iff.mp (show (blsD ds).map (b :: ·) = some bs from e)
      obtain rfl : v = .bl b := h1
      rw [bls_ok h2 e1]
      rfl
    | _ => simp [blsD] at e
def allD (any : Bool) : DFn := fun xs S P => match xs with
  | [x] => (match val S x with
    | .lst ds => (match blsD ds with
      | some bs => P (.bl (if any then bs.any id else bs.all id)) S
      | none => False)
    | _ => False)
  | _ => False
theorem calld_all : CallD K (rAll K) (allD false) := by
  intro M mu H S xs vs P Q ok r h n
  match xs, r, h with
  | [x], r, h =>
    obtain ⟨v, rfl, r1⟩ := r.one
    unfold allD at h
    cases e1 : val S x with
    | lst ds =>
      simp only [e1] at h
      obtain ⟨a, us, rfl, ha, ra⟩ := seq_lst ok r1 e1
      cases e2 : blsD ds with
      | none => simp only [e2] at h
      | some bs =>
        simp only [e2] at h
        rw [bls_ok ra e2] at ha
        exact ⟨a, bs, rfl, SqL.of ha, n _ H (.bl (bs.all id)) S (.refl _ _) ok rfl h⟩
    | _ => simp only [e1] at h
  | [], _, h => exact h.elim
  | _ :: _ :: _, _, h => exact h.elim
theorem calld_any : CallD K (rAny K) (allD true) := by
  intro M mu H S xs vs P Q ok r h n
  match xs, r, h with
  | [x], r, h =>
    obtain ⟨v, rfl, r1⟩ := r.one
    unfold allD at h
    cases e1 : val S x with
    | lst ds =>
      simp only [e1] at h
      obtain ⟨a, us, rfl, ha, ra⟩ := seq_lst ok r1 e1
      cases e2 : blsD ds with
      | none => simp only [e2] at h
      | some bs =>
        simp only [e2] at h
        rw [bls_ok ra e2] at ha
        exact ⟨a, bs, rfl, SqL.of ha, n _ H (.bl (bs.any id)) S (.refl _ _) ok rfl h⟩
    | _ => simp only [e1] at h
  | [], _, h => exact h.elim
  | _ :: _ :: _, _, h => exact h.elim
/-- isinstance against built-in types -/
def isiN (d : D) (T : String) : Option Bool :=
  if T = "int" then (match d with
    | .int _ | .bl _ => some true
    | .non | .str _ | .lst _ | .tup _ | .dct _ => some false
    | _ => none)
  else if T = "bool" then (match d with
    | .bl _ => some true
    | .non | .int _ | .str _ | .lst _ | .tup _ | .dct _ => some false
    | _ => none)
  else if T = "str" then (match d with
    | .str _ => some true
    | .non | .int _ | .bl _ | .lst _ | .tup _ | .dct _ => some false
    | _ => none)
  else if T = "list" then (match d with
    | .lst _ => some true
    | .non | .int _ | .bl _ | .str _ | .tup _ | .dct _ => some false
    | _ => none)
  else if T = "tuple" then (match d with
    | .tup _ => some true
    | .non | .int _ | .bl _ | .str _ | .lst _ | .dct _ => some false
    | _ => none)
  else none
def tyN : D → Option String
  | .non => some "NoneType" | .bl _ => some "bool" | .int _ => some "int" | .str _ => some "str" | .lst _ => some "list" | .tup _ => some "tuple" | .dct _ => some "dict" | _ => none
theorem ty_of {M : Addr → Prop} {mu : List Addr} {H : Hp} {S : Sto} (ok : Wok K M mu H S) {d : D} {v : V} {n : String} (r : R K M mu H d v)
    (e : tyN (val S d) = some n) : TyX K H v (.type n) := by
  cases e1 : val S d with
  | non => rw [e1] at e; cases e; obtain rfl := val_non r e1; exact .base .non
  | bl b => rw [e1] at e; cases e; obtain rfl := val_bl ok r e1; exact .base (.bl b)
  | int b => rw [e1] at e; cases e; obtain rfl := val_int ok r e1; exact .base (.int b)
  | str b => rw [e1] at e; cases e; obtain rfl := val_str ok r e1; exact .base (.str b)
  | lst ds => rw [e1] at e; cases e; obtain ⟨a, vs, rfl, h, _⟩ := seq_lst ok r e1; exact .base (.lst h)
  | tup ds =>
    rw [e1] at e; cases e
    obtain ⟨a, vs, rfl, h, _⟩ := seq_tup ok r e1
    rcases h with (h | ⟨o, h⟩) | ⟨o, its, m, h1, h2, h3⟩
    · exact .base (.tup h)
    · exact .fTuple h
    · exact .kTuple h1 h2
  | dct ds =>
    rw [e1] at e; cases e
    cases d with
    | loc i =>
      obtain ⟨a, rfl, h2⟩ := r
      rcases (show Cl K M mu H (.dct ds) a from ok.at_ i a _ h2 (val_loc e1 (by simp))) with ⟨es, q, _⟩ | ⟨es, q, _⟩
      · exact .base (.dK q)
      · exact .base (.dT q)
    | dct _ =>
      obtain ⟨a, rfl, _, ⟨es, q, _⟩ | ⟨es, q, _⟩⟩ := r
      · exact .base (.dK q)
      · exact .base (.dT q)
    | _ => simp [val] at e1
  | _ => rw [e1] at e; cases e
theorem isiN_ok {M : Addr → Prop} {mu : List Addr} {H : Hp} {S : Sto} (ok : Wok K M mu H S) {d : D} {v : V} {T : String} {b : Bool} (r : R K M mu H d v) (e : isiN (val S d) T = some b) : ∃ n, tyN (val S d) = some n ∧ TyX K H v (.type n) ∧ PySem.W.kitOne K (.type n) (.type T) = some b := by
  have go : ∀ n, tyN (val S d) = some n → kitB n T = some b → ∃ n, tyN (val S d) = some n ∧ TyX K H v (.type n) ∧ PySem.W.kitOne K (.type n) (.type T) = some b := fun n h1 h2 => ⟨n, h1, ty_of ok r h1, kit_ty h2⟩
  unfold isiN at e
  split at e
  · rename_i hT; subst hT
    cases q : val S d <;> rw [q] at e go <;> first | (cases e; done) | (cases e; exact go _ rfl (by decide +kernel))
  · split at e
    · rename_i hT; subst hT
      cases q : val S d <;> rw [q] at e go <;> first | (cases e; done) | (cases e; exact go _ rfl (by decide +kernel))
    · split at e
      · rename_i hT; subst hT
        cases q : val S d <;> rw [q] at e go <;> first | (cases e; done) | (cases e; exact go _ rfl (by decide +kernel))
      · split at e
        · rename_i hT; subst hT
          cases q : val S d <;> rw [q] at e go <;> first | (cases e; done) | (cases e; exact go _ rfl (by decide +kernel))
        · split at e
          · rename_i hT; subst hT
            cases q : val S d <;> rw [q] at e go <;> first | (cases e; done) | (cases e; exact go _ rfl (by decide +kernel))
          · cases e
/-- one of two types -/
def isiD : DFn := fun xs S P => match xs with
  | [d, .ty T] => (match isiN (val S d) T with
    | some b => P (.bl b) S
    | none => False)
  | [d, .tup [.ty T, .ty U]] => (match isiN (val S d) T, isiN (val S d) U with
    | some b, some c => P (.bl (b || c)) S
    | _, _ => False)
  | _ => False
theorem calld_isi : CallD K (fun xs H Q => rIsi K xs H Q ∨ (rIsiT K xs H Q ∨ rIsiK K xs H Q)) isiD := by
  intro M mu H S xs vs P Q ok r h n
  unfold isiD at h
  split at h
  · rename_i d T
    obtain ⟨v, u, rfl, r1, r2⟩ := r.two
    obtain rfl : u = .ty T := r2
    cases e : isiN (val S d) T with
    | none => simp only [e] at h
    | some b =>
      simp only [e] at h
      obtain ⟨t, _, h1, h2⟩ := isiN_ok ok r1 e
      exact .inl ⟨v, .ty T, .type t, .type T, b, rfl, .ty T, h1, h2, n _ H (.bl b) S (.refl _ _) ok rfl h⟩
  · rename_i d T U
    obtain ⟨v, u, rfl, r1, a, ws, rfl, hk, hs⟩ := r.two
    obtain ⟨c1, c2, rfl, q1, q2⟩ := Rs.two hs
    obtain rfl : c1 = .ty T := q1
    obtain rfl : c2 = .ty U := q2
    cases e : isiN (val S d) T with
    | none => simp only [e] at h
    | some b =>
      cases e' : isiN (val S d) U with
      | none => simp only [e, e'] at h
      | some c =>
        simp only [e, e'] at h
        obtain ⟨t, h0, h1, h2⟩ := isiN_ok ok r1 e
        obtain ⟨t', h0', h1', h2'⟩ := isiN_ok ok r1 e'
        obtain rfl : t = t' := Option.some.inj (h0.symm.trans h0')
        have ka : PySem.W.kitAny K (.type t) [.type T, .type U] = some (b || c) := by
          refine kitAny_cons h2 (fun hb => ?_) (fun hb => by rw [hb]; rfl)
          subst hb
          exact kitAny_cons h2' (fun hc => by rw [hc]; exact kitAny_nil) (fun hc => by rw [hc]; rfl)
        have fin : Q (.bl (b || c)) H := n _ H (.bl (b || c)) S (.refl _ _) ok rfl h
        rcases hk with hk | ⟨o, its, m, k1, k2, k3, k4, k5⟩
        · exact .inr (.inl ⟨v, a, [.ty T, .ty U], .type t, [.type T, .type U], b || c, rfl, hk.2, .cons (.ty T) (.cons (.ty U) .nil), h1, ka, fin⟩)
        · obtain ⟨oc, od, dt, sl⟩ := o
          simp only at k2 k3
          subst k2 k3
          have e3 := ClsV.all (cs := [.ty T, .ty U]) (us := [.type T, .type U]) (.cons (.ty T) (.cons (.ty U) .nil)) k5
          have e4 : its = #[.type T, .type U] := by
            rw [← Array.toArray_toList (xs := its), e3]
          subst e4
          exact .inr (.inr ⟨v, a, od, [.type T, .type U], m, sl, .type t, b || c, rfl, k1, h1, ka, fin⟩)
  · exact h.elim
end
end DL
set_option maxRecDepth 100000
set_option maxHeartbeats 2000000
namespace DL
open PySem PySem.Spec PyProof.Rows L2
/-! ### a def's promise over trees -/
abbrev DSp := List D → Sto → DK → Ex → Prop
def toSp (K : PySem.W.Frag) (sp : DSp) : Sp := fun vs H Q E => ∃ (M : Addr → Prop) (mu : List Addr) (S : Sto) (ds : List D) (P : DK) (Ex : Ex), Wok K M mu H S ∧ Rs K M mu H ds vs ∧ sp ds S P Ex ∧ Nrm K M mu H P Q ∧ Exc K M mu H Ex (fun C d H' => E C d H')
def wCall (sp : DSp) (dd : List D) (w : DWA) : DW := fun ρ S P E => w ρ S (fun ds S1 => sp (ds ++ dd) S1 P E) E
section
variable {X : Cx} {W : WX} {CX : CXT} {k : Nat} {f : Addr} {fd : FuncData} {ps : List Str} {sp : DSp} {dvs : List V} {dd : List D} {ds : List Value} {x : Str} {p pos : Pos} {e : Expr} {es : List Expr} {w : DWA}
theorem rd_call {ta : TA} (rd : ∀ M mu H, Rs X.K M mu H dd dvs) (ra : RdA X.K W ta w) : Rd X.K W (tCallSD (toSp X.K sp) dvs (WE W) ta) (wCall sp dd w) := by
  refine ⟨fun M mu σ ρ S H P E Q ok en hw n x => ?_⟩
  refine ra.run M mu σ ρ S H _ E _ ok en hw (fun vs H1 ds S1 k1 ok1 r1 h1 => ?_) x
  exact ⟨M, mu, S1, ds ++ dd, P, E, ok1, r1.app (rd _ _ _), h1, n.mono k1, x.mono k1⟩
theorem de_call (F : FnOk X.prog X.w X.K X.mg X.base CX k f fd ps (toSp X.K sp)) (hr : Room k X.A) (hg : Gl X x) (hm : X.mg x = some (.ref f)) (hk : PySem.W.keepIn X.K (.ref f) = true) (hb : Binds X.K fd ps ds) (hd : Vals dvs ds) (rd : ∀ M mu H, Rs X.K M mu H dd dvs) (hx : ∀ σ, PassesAt CX X σ (WE W σ))
    (ha : DA X W (e :: es) w) (hdb : (x == ("__debug__" : Str)) = false := by decide) (he : starEach (e :: es) X.env = (false, eval e X.env) :: starEach es X.env := by rfl) (hpl : (backTo pos (starEach es X.env)).any (·.1) = false := by rfl) :
    DE X W (.Call (.Name x p) (e :: es) [] pos) (wCall sp dd w) :=
  let ⟨_, pa, ra⟩ := ha.ex; ⟨_, pe_callSD F hr hg hm hk hb hd hx pa hdb he hpl, rd_call rd ra⟩
theorem pe_call0SD {sp : Sp} {E : L2.St → XK} (F : FnOk X.prog X.w X.K X.mg X.base CX k f fd ps sp) (hr : Room k X.A) (hg : Gl X x) (hm : X.mg x = some (.ref f)) (hk : PySem.W.keepIn X.K (.ref f) = true) (hb : Binds X.K fd ps ds) (hd : Vals dvs ds) (hx : ∀ σ, PassesAt CX X σ (E σ))
    (hdb : (x == ("__debug__" : Str)) = false := by decide) : PE X (.Call (.Name x p) [] [] pos) (tCallSD sp dvs E tNil) := by
  refine ⟨fun pins s σ H Q I h => ?_⟩
  refine wpAny_Call_Name_kw (ld_glob I hg hm ?_ hdb)
  exact PySem.W.callWith_K0 I.kIn hk (run_fnSD (us := []) F hr hb hd (hx σ) I .nil h)
theorem de_call0 (F : FnOk X.prog X.w X.K X.mg X.base CX k f fd ps (toSp X.K sp)) (hr : Room k X.A) (hg : Gl X x) (hm : X.mg x = some (.ref f)) (hk : PySem.W.keepIn X.K (.ref f) = true) (hb : Binds X.K fd ps ds) (hd : Vals dvs ds) (rd : ∀ M mu H, Rs X.K M mu H dd dvs) (hx : ∀ σ, PassesAt CX X σ (WE W σ))
    (hdb : (x == ("__debug__" : Str)) = false := by decide) : DE X W (.Call (.Name x p) [] [] pos) (wCall sp dd wNil) :=
  ⟨_, pe_call0SD F hr hg hm hk hb hd hx hdb, rd_call (w := wNil) rd ⟨fun M mu σ ρ S H P E Q ok en hw n x => n [] H [] S (.refl _ _) ok rfl hw⟩⟩
/-- what never raises passes everywhere -/
theorem pass00 : ∀ σ, PassesAt CX0 X σ (WE W σ) := fun _ _ _ _ _ _ _ h => h.elim
/-- keywords: the names' values behind the positional ones -/
theorem run_fnkSD {ks : List Str} {g : List Value → List Value → List Value} {gV : List V → List V → List V} {sp : Sp} {E : L2.St → XK} {pins : List (Addr × Obj)} {σ : L2.St} {H : Hp} {s : Shared} {Q : VK} {us ws : List Value} {vs zs : List V} (F : FnOk X.prog X.w X.K X.mg X.base CX k f fd ps sp) (hr : Room k X.A)
    (hb : KBinds X.K fd ps ks g gV) (hx : PassesAt CX X σ (E σ)) (I : Inv X pins σ H s) (r : Vals vs us) (rz : Vals zs ws) (h : sp (gV vs zs) H Q (E σ)) : wpAny (model X.prog X.w) X.A (call (.ref f) us (ks.zip ws)) (EP X pins σ Q) X.xe s := by
  have r2 := hb.rel r rz
  have hl : (g us ws).length = ps.length := by rw [← r2.length]; exact F.len _ _ _ _ h
  refine wpAny_call (codeAny_mono (F.run X.A X.stack s H ⟨us, ks.zip ws⟩ (g us ws) (gV vs zs) Q (E σ) hr I.env0 (hb.to s us ws I.kIn hl) r2 h) fun r s' hq => ?_)
  cases r with
  | error e => exact hx pins H s e s' I hq
  | ok fl =>
    cases fl with
    | ret u => exact I.after hq
    | next => exact False.elim hq
    | brk => exact False.elim hq
    | cont => exact False.elim hq
end
/-! ### targets -/
def wD (ρ : Loc) : List Nat → Loc
  | [] => ρ
  | v :: vs => (wD ρ vs).set v none
section
variable {K : PySem.W.Frag} {M : Addr → Prop} {mu : List Addr} {H : Hp} {S : Sto} {ρ : Loc} {σ : L2.St}
theorem Env.set (en : Env K M mu H ρ σ) {i : Nat} {d : D} {v : V} (r : R K M mu H d v) : Env K M mu H (ρ.set i (some d)) (σ.set i (some v)) := by
  refine ⟨by simp [en.len], fun j d' h => ?_⟩
  by_cases e : i = j
  · subst e
    by_cases hi : i < ρ.length
    · rw [List.getElem?_set_self hi] at h
      cases h
      exact ⟨v, by rw [List.getElem?_set_self (by rw [← en.len]; exact hi)], r⟩
    · rw [List.getElem?_eq_none (by simp; omega)] at h
      cases h
  · rw [List.getElem?_set_ne e] at h
    obtain ⟨u, h1, h2⟩ := en.get j d' h
    exact ⟨u, by rw [List.getElem?_set_ne e]; exact h1, h2⟩
theorem Env.wipe (en : Env K M mu H ρ σ) : ∀ vs : List Nat, Env K M mu H (wD ρ vs) (wipe σ vs)
  | [] => en
  | v :: vs => by
    have ih := Env.wipe en vs
    refine ⟨by show ((wD ρ vs).set v none).length = ((L2.wipe σ vs).set v none).length; simp [ih.len], fun j d' h => ?_⟩
    have h' : ((wD ρ vs).set v none)[j]? = some (some d') := h
    by_cases e : v = j
    · subst e
      by_cases hi : v < (wD ρ vs).length
      · rw [List.getElem?_set_self hi] at h'; cases h'
      · rw [List.getElem?_eq_none (by simp; omega)] at h'; cases h'
    · rw [List.getElem?_set_ne e] at h'
      obtain ⟨u, h1, h2⟩ := ih.get j d' h'
      exact ⟨u, by show ((L2.wipe σ vs).set v none)[j]? = _; rw [List.getElem?_set_ne e]; exact h1, h2⟩
end
theorem wipe_get (σ : L2.St) : ∀ (vs : List Nat) (i : Nat), (wipe σ vs)[i]? = if i ∈ vs then σ[i]?.map (fun _ => none) else σ[i]?
  | [], i => by simp [wipe]
  | v :: vs, i => by
    show ((wipe σ vs).set v none)[i]? = _
    by_cases e : v = i
    · subst e
      rw [if_pos (by simp)]
      by_cases hi : v < σ.length
      · rw [List.getElem?_set_self (by rw [wipe_length]; exact hi), List.getElem?_eq_getElem hi]; rfl
      · rw [List.getElem?_eq_none (by simp [wipe_length]; omega), List.getElem?_eq_none (by omega)]; rfl
    · rw [List.getElem?_set_ne e, wipe_get σ vs i]
      have : (i ∈ v :: vs) ↔ i ∈ vs := by simp [Ne.symm e]
      by_cases h : i ∈ vs
      · rw [if_pos h, if_pos (this.mpr h)]
      · rw [if_neg h, if_neg (fun q => h (this.mp q))]
theorem wipe_set {σ : L2.St} {vs : List Nat} {i : Nat} {x : Option V} (h : i ∈ vs) : wipe (σ.set i x) vs = wipe σ vs := by
  apply List.ext_getElem?
  intro j
  rw [wipe_get, wipe_get]
  by_cases hj : j ∈ vs
  · rw [if_pos hj, if_pos hj]
    by_cases e : i = j
    · subst e
      by_cases hi : i < σ.length
      · rw [List.getElem?_set_self hi, List.getElem?_eq_getElem hi]; rfl
      · rw [List.getElem?_eq_none (by simp; omega), List.getElem?_eq_none (by omega)]
    · rw [List.getElem?_set_ne e]
  · rw [if_neg hj, if_neg hj, List.getElem?_set_ne (fun e => hj (by rw [← e]; exact h))]
theorem wipe_wipe {σ : L2.St} {vs : List Nat} : wipe (wipe σ vs) vs = wipe σ vs := by
  apply List.ext_getElem?
  intro j
  rw [wipe_get, wipe_get]
  by_cases hj : j ∈ vs
  · simp only [if_pos hj]; cases σ[j]? <;> rfl
  · rw [if_neg hj]
abbrev DWG := D → Sto → Loc → (Loc → Prop) → Prop
/-- what a target asks and does, at the slots is -/
structure RdG (K : PySem.W.Frag) (g : TG) (wg : DWG) (is : List Nat) : Prop where
  run : ∀ (M : Addr → Prop) (mu : List Addr) (σ : L2.St) (ρ : Loc) (S : Sto) (H : Hp) (d : D) (v : V) (P : Loc → Prop) (Q : L2.St → Hp → Prop), Wok K M mu H S → Env K M mu H ρ σ → R K M mu H d v → wg d S ρ P →
    (∀ σ' ρ', Env K M mu H ρ' σ' → (∀ vs, (∀ i ∈ is, i ∈ vs) → wipe σ' vs = wipe σ vs) → P ρ' → Q σ' H) → g v σ H Q
structure DG (X : Cx) (tg : Expr) (wg : DWG) (is : List Nat) : Prop where
  ex : ∃ g, PG X tg g ∧ RdG X.K g wg is
abbrev DWGs := List D → Sto → Loc → (Loc → Prop) → Prop
structure RdGs (K : PySem.W.Frag) (g : TGs) (wg : DWGs) (is : List Nat) : Prop where
  run : ∀ (M : Addr → Prop) (mu : List Addr) (σ : L2.St) (ρ : Loc) (S : Sto) (H : Hp) (d : List D) (v : List V) (P : Loc → Prop) (Q : L2.St → Hp → Prop), Wok K M mu H S → Env K M mu H ρ σ → Rs K M mu H d v → wg d S ρ P →
    (∀ σ' ρ', Env K M mu H ρ' σ' → (∀ vs, (∀ i ∈ is, i ∈ vs) → wipe σ' vs = wipe σ vs) → P ρ' → Q σ' H) → g v σ H Q
structure DGs (X : Cx) (ts : List Expr) (wg : DWGs) (is : List Nat) : Prop where
  ex : ∃ g, PGs X ts g ∧ RdGs X.K g wg is
def wgName (i : Nat) : DWG := fun d _ ρ P => P (ρ.set i (some d))
def wgNil : DWGs := fun ds _ ρ P => ds = [] ∧ P ρ
def wgCons (g : DWG) (gs : DWGs) : DWGs := fun ds S ρ P => match ds with
  | d :: r => g d S ρ fun ρ' => gs r S ρ' P
  | [] => False
def wgTup (gs : DWGs) : DWG := fun d S ρ P => match val S d with
  | .tup ds => gs ds S ρ P
  | _ => False
section
variable {X : Cx} {W : WX} {pos : Pos} {e : Expr} {es : List Expr} {g : DWG} {gs : DWGs} {is js : List Nat}
theorem dg_name {i : Nat} {x : Str} (h : PG X (.Name x pos) (gName i)) : DG X (.Name x pos) (wgName i) [i] :=
  ⟨_, h, ⟨fun M mu σ ρ S H d v P Q ok en r hw n => n _ _ (en.set r) (fun vs hi => wipe_set (hi i (by simp))) hw⟩⟩
theorem dgs_nil : DGs X [] wgNil [] := ⟨_, pgs_nil, ⟨fun M mu σ ρ S H d v P Q ok en r hw n => by
  obtain ⟨rfl, h⟩ := hw
  obtain rfl : v = [] := r
  exact ⟨rfl, n σ ρ en (fun _ _ => rfl) h⟩⟩⟩
theorem dgs_cons (h1 : DG X e g is) (h2 : DGs X es gs js) (hs : (assignEach (e :: es) X.env).map (·.2) = assign e X.env :: (assignEach es X.env).map (·.2) := by rfl) : DGs X (e :: es) (wgCons g gs) (is ++ js) := by
  obtain ⟨_, p1, r1⟩ := h1.ex
  obtain ⟨_, p2, r2⟩ := h2.ex
  refine ⟨_, pgs_cons p1 p2 hs, ⟨fun M mu σ ρ S H d v P Q ok en r hw n => ?_⟩⟩
  cases d with
  | nil => exact hw.elim
  | cons d ds =>
    obtain ⟨u, us, rfl, q1, q2⟩ := r
    refine ⟨u, us, rfl, r1.run M mu σ ρ S H d u _ _ ok en q1 hw fun σ1 ρ1 en1 w1 h1 => ?_⟩
    exact r2.run M mu σ1 ρ1 S H ds us P Q ok en1 q2 h1 fun σ2 ρ2 en2 w2 h2 => n σ2 ρ2 en2 (fun vs hi => (w2 vs fun i hj => hi i (by simp [hj])).trans (w1 vs fun i hj => hi i (by simp [hj]))) h2
theorem dg_tup {k n : Nat} (hc : X.calm = true) (h : DGs X es gs is) (hn : (assignEach es X.env).length = n := by rfl) (hst : (assignEach es X.env).findIdx? (·.1) = none := by rfl) : DG X (.Tuple es k pos) (fun d S ρ P => (match val S d with
    | .tup ds => ds.length = n
    | _ => False) ∧ wgTup gs d S ρ P) is := by
  obtain ⟨_, p, r⟩ := h.ex
  refine ⟨_, pg_tup hc p hn hst, ⟨fun M mu σ ρ S H d v P Q ok en q hw nn => ?_⟩⟩
  obtain ⟨h1, h2⟩ := hw
  unfold wgTup at h2
  cases e1 : val S d with
  | tup ds =>
    simp only [e1] at h1 h2
    obtain ⟨a, vs, rfl, ha, ra⟩ := seq_tup ok q e1
    exact ⟨a, vs, rfl, ha, by rw [← ra.len]; exact h1, r.run M mu σ ρ S H ds vs P Q ok en ra h2 nn⟩
  | _ => simp only [e1] at h1
end
/-! ### what is walked -/
/-- the items of an iterator, and the cell that they stand in -/
def ItOk (K : PySem.W.Frag) (J : It) (M : Addr → Prop) (mu : List Addr) (H : Hp) (items : List D) (src : Option Nat) : Prop :=
  ∀ (M' : Addr → Prop) (mu' : List Addr) (H' : Hp) (S' : Sto), Ext M mu H M' mu' H' → Wok K M' mu' H' S' → (match src with
    | none => True
    | some j => S'[j]? = some (.lst items)) → ∀ i : Nat,
    (∀ d, items[i]? = some d → J.go i H' ∧ ∀ x H2, J.yld i H' x H2 → Keep mu' H' H2 ∧ Wok K M' mu' H2 S' ∧ R K M' mu' H2 d x) ∧ (items.length ≤ i → J.stop i H')
abbrev DWI := Loc → Sto → (List D → Option Nat → Sto → Prop) → Ex → Prop
structure RdI (K : PySem.W.Frag) (W : WX) (ti : TI) (w : DWI) : Prop where
  run : ∀ (M : Addr → Prop) (mu : List Addr) (σ : L2.St) (ρ : Loc) (S : Sto) (H : Hp) (P : List D → Option Nat → Sto → Prop) (E : Ex) (Q : It → Hp → Prop), Wok K M mu H S → Env K M mu H ρ σ → w ρ S P E →
    (∀ J H' items src S', Keep mu H H' → Wok K M mu H' S' → ItOk K J M mu H' items src → (match src with
      | none => True
      | some j => S'[j]? = some (.lst items)) → P items src S' → Q J H') → Exc K M mu H E (fun C d H' => W C d σ H') → ti σ H Q
structure DI (X : Cx) (W : WX) (tg iter : Expr) (w : DWI) : Prop where
  ex : ∃ ti, PI X tg iter ti ∧ RdI X.K W ti w
def wiSeq (w : DW) : DWI := fun ρ S P E => w ρ S (fun d S1 => match d with
  | .lst ds => P ds none S1
  | .tup ds => P ds none S1
  | .loc i => (match val S1 (.loc i) with
    | .lst ds => P ds (some i) S1
    | _ => False)
  | _ => False) E
/-- a list or a tuple -/
def iSeq (K : PySem.W.Frag) (tl : TE) : TI := fun σ H R => tl σ H fun x H1 => ∃ a, x = .ref a ∧ (((∃ xs, SqL K H1 a xs) ∧ R (Itl K a) H1) ∨ ((∃ xs, SqT K H1 a xs) ∧ R (Itt K a) H1))
theorem pi_seq {X : Cx} {tg l : Expr} {tl : TE} (hl : PE X l tl) : PI X tg l (iSeq X.K tl) := by
  refine ⟨fun pins s σ H R I h => ?_⟩
  refine thn (hl.run pins s σ H _ I h) fun v s1 ⟨x, H1, I1, r1, q1⟩ => ?_
  obtain ⟨a, e, ⟨⟨xs, hq⟩, q⟩ | ⟨⟨xs, hq⟩, q⟩⟩ := q1
  · subst e
    cases r1
    obtain ⟨its, rv, p, hz⟩ := I1.list hq
    refine wpAny_pyIter_list p.isList ?_
    refine ⟨s1.heap.objs.size, [s1.heap.objs.size], _, _, H1, rfl, I1.kept (t' := s1.toks) fun b o e => Heap.get?_push_of_some _ e, turn_list a _, ⟨_, Heap.get?_push_size _ rfl, rfl, rfl⟩, fun b hb => ?_, q⟩
    have e : b = s1.heap.objs.size := by simpa using hb
    subst e
    exact I1.fpOk (Nat.le_refl _) (I1.hok.fresh (Nat.le_refl _))
  · subst e
    cases r1
    obtain ⟨its, rv, p, hz⟩ := I1.tuple hq
    refine wpAny_pyIter_tuple (show s1.heap.IsTuple a its.toArray from p) ?_
    refine ⟨s1.heap.objs.size, [s1.heap.objs.size], _, _, H1, rfl, I1.kept (t' := s1.toks) fun b o e => Heap.get?_push_of_some _ e, turn_tuple a _, ⟨_, Heap.get?_push_size _ rfl, rfl, rfl⟩, fun b hb => ?_, q⟩
    have e : b = s1.heap.objs.size := by simpa using hb
    subst e
    exact I1.fpOk (Nat.le_refl _) (I1.hok.fresh (Nat.le_refl _))
section
variable {K : PySem.W.Frag} {M : Addr → Prop} {mu : List Addr} {H : Hp}
theorem itOk_list {a : Addr} {vs : List V} {ds : List D} (hm : ¬ M a) (ha : H a = some (.lst vs)) (r : Rs K M mu H ds vs) : ItOk K (Itl K a) M mu H ds none := fun M' mu' H' S' ex ok _ i => by
  have h' := (ex.toExt0.okM hm ha).2
  have r' := Rs.mono ex.toExt0 _ _ r
  refine ⟨fun d hd => ?_, fun hi => ⟨vs, SqL.of h', by rw [← r.len]; exact hi⟩⟩
  obtain ⟨v, hv, rv⟩ := r'.get hd
  refine ⟨⟨vs, v, SqL.of h', hv⟩, fun x H2 y => ?_⟩
  obtain ⟨rfl, y⟩ := y
  obtain rfl : v = x := Option.some.inj (hv.symm.trans (y vs (SqL.of h')))
  exact ⟨.refl _ _, ok, rv⟩
theorem itOk_loc {a : Addr} {j : Nat} {ds : List D} (h : mu[j]? = some a) : ItOk K (Itl K a) M mu H ds (some j) := fun M' mu' H' S' ex ok hs i => by
  obtain ⟨vs, h', r'⟩ : Cl K M' mu' H' (.lst ds) a := ok.at_ j a _ (ex.toExt0.at_ h) hs
  refine ⟨fun d hd => ?_, fun hi => ⟨vs, SqL.of h', by rw [← r'.len]; exact hi⟩⟩
  obtain ⟨v, hv, rv⟩ := r'.get hd
  refine ⟨⟨vs, v, SqL.of h', hv⟩, fun x H2 y => ?_⟩
  obtain ⟨rfl, y⟩ := y
  obtain rfl : v = x := Option.some.inj (hv.symm.trans (y vs (SqL.of h')))
  exact ⟨.refl _ _, ok, rv⟩
theorem itOk_tup {a : Addr} {vs : List V} {ds : List D} (h : (¬ M a ∧ H a = some (.tup vs)) ∨ SqTK K a vs) (r : Rs K M mu H ds vs) : ItOk K (Itt K a) M mu H ds none := fun M' mu' H' S' ex ok _ i => by
  have h' : SqT K H' a vs := h.elim (fun q => SqT.of (ex.toExt0.okM q.1 q.2).2) fun q => q.to
  have r' := Rs.mono ex.toExt0 _ _ r
  refine ⟨fun d hd => ?_, fun hi => ⟨vs, h', by rw [← r.len]; exact hi⟩⟩
  obtain ⟨v, hv, rv⟩ := r'.get hd
  refine ⟨⟨vs, v, h', hv⟩, fun x H2 y => ?_⟩
  obtain ⟨rfl, y⟩ := y
  obtain rfl : v = x := Option.some.inj (hv.symm.trans (y vs h'))
  exact ⟨.refl _ _, ok, rv⟩
def rangeD (lo : Int) (n : Nat) : List D := (List.range n).map fun i => D.int (lo + (i : Nat))
theorem itOk_range {lo : Int} {n : Nat} : ItOk K (Itr lo n) M mu H (rangeD lo n) none := fun M' mu' H' S' ex ok _ i => by
  have hl : (rangeD lo n).length = n := by simp [rangeD]
  refine ⟨fun d hd => ?_, fun hi => by rw [hl] at hi; exact hi⟩
  have hi : i < n := by rw [← hl]; exact (List.getElem?_eq_some_iff.mp hd).1
  have ed : d = .int (lo + (i : Nat)) := by
    unfold rangeD at hd
    rw [List.getElem?_map, List.getElem?_range hi] at hd
    exact (Option.some.inj hd).symm
  refine ⟨hi, fun x H2 y => ?_⟩
  obtain ⟨rfl, rfl⟩ := y
  exact ⟨.refl _ _, ok, by rw [ed]; rfl⟩
end
section
variable {X : Cx} {W : WX} {tg e : Expr} {we : DW} {pos p : Pos}
theorem di_list (h : DE X W e we) : DI X W tg e (wiSeq we) := by
  obtain ⟨_, pa, ra⟩ := h.ex
  refine ⟨_, pi_seq pa, ⟨fun M mu σ ρ S H P E Q ok en hw n x => ?_⟩⟩
  refine ra.run M mu σ ρ S H _ E _ ok en hw (fun v H1 d S1 k1 ok1 r1 h1 => ?_) x
  cases d with
  | lst ds =>
    obtain ⟨a, vs, rfl, hm, ha, rr⟩ := r1
    exact ⟨a, rfl, .inl ⟨⟨vs, SqL.of ha⟩, n _ H1 ds none S1 k1 ok1 (itOk_list hm ha rr) True.intro h1⟩⟩
  | tup ds =>
    obtain ⟨a, vs, rfl, hm, rr⟩ := r1
    exact ⟨a, rfl, .inr ⟨⟨vs, hm.elim (fun q => SqT.of q.2) fun q => q.to⟩, n _ H1 ds none S1 k1 ok1 (itOk_tup hm rr) True.intro h1⟩⟩
  | loc i =>
    have h1' : (match val S1 (.loc i) with
      | .lst ds => P ds (some i) S1
      | _ => False) := h1
    cases q : val S1 (.loc i) with
    | lst ds =>
      rw [q] at h1'
      obtain ⟨a, rfl, ha⟩ := r1
      obtain ⟨vs, h3, h4⟩ : Cl X.K M mu H1 (.lst ds) a := ok1.at_ i a _ ha (val_loc q (by simp))
      exact ⟨a, rfl, .inl ⟨⟨vs, SqL.of h3⟩, n _ H1 ds (some i) S1 k1 ok1 (itOk_loc ha) (val_loc q (by simp)) h1'⟩⟩
    | _ => rw [q] at h1'; exact h1'.elim
  | _ => exact h1.elim
def wiRng1 (w : DWA) : DWI := fun ρ S P E => w ρ S (fun ds S1 => match ds with
  | [.int j] => (-1000000 ≤ j ∧ j ≤ 1000000) ∧ P (rangeD 0 j.toNat) none S1
  | _ => False) E
def wiRng2 (w : DWA) : DWI := fun ρ S P E => w ρ S (fun ds S1 => match ds with
  | [.int i, .int j] => (-1000000 ≤ i ∧ i ≤ 1000000 ∧ -1000000 ≤ j ∧ j ≤ 1000000) ∧ P (rangeD i (j - i).toNat) none S1
  | _ => False) E
theorem di_range1 {a : Expr} {w : DWA} (hg : Gl X "range") (hm : X.mg "range" = none) (ha : DA X W [a] w) (hs : starEach [a] X.env = [(false, eval a X.env)] := by rfl) : DI X W tg (.Call (.Name "range" p) [a] [] pos) (wiRng1 w) := by
  obtain ⟨_, pa, ra⟩ := ha.ex
  refine ⟨_, pi_range1 hg hm pa hs, ⟨fun M mu σ ρ S H P E Q ok en hw n x => ?_⟩⟩
  refine ra.run M mu σ ρ S H _ E _ ok en hw (fun vs H1 ds S1 k1 ok1 r1 h1 => ?_) x
  split at h1
  · rename_i j
    obtain ⟨v, rfl, r2⟩ := Rs.one r1
    obtain rfl : v = .int j := r2
    exact ⟨j, rfl, by omega, by omega, n _ H1 _ none S1 k1 ok1 itOk_range True.intro h1.2⟩
  · exact h1.elim
theorem di_range2 {a b : Expr} {w : DWA} (hg : Gl X "range") (hm : X.mg "range" = none) (ha : DA X W [a, b] w) (hs : starEach [a, b] X.env = [(false, eval a X.env), (false, eval b X.env)] := by rfl) (hs2 : starEach [b] X.env = [(false, eval b X.env)] := by rfl) : DI X W tg (.Call (.Name "range" p) [a, b] [] pos) (wiRng2 w) := by
  obtain ⟨_, pa, ra⟩ := ha.ex
  refine ⟨_, pi_range2 hg hm pa hs hs2, ⟨fun M mu σ ρ S H P E Q ok en hw n x => ?_⟩⟩
  refine ra.run M mu σ ρ S H _ E _ ok en hw (fun vs H1 ds S1 k1 ok1 r1 h1 => ?_) x
  split at h1
  · rename_i i j
    obtain ⟨v, u, rfl, r2, r3⟩ := Rs.two r1
    obtain rfl : v = .int i := r2
    obtain rfl : u = .int j := r3
    exact ⟨i, j, rfl, ⟨by omega, by omega, by omega, by omega⟩, n _ H1 _ none S1 k1 ok1 itOk_range True.intro h1.2⟩
  · exact h1.elim
end
end DL
set_option maxRecDepth 100000
set_option maxHeartbeats 2000000
namespace DL
open PySem PySem.Spec PyProof.Rows L2
/-! ### comprehensions -/
abbrev EF : Ex := fun _ _ _ => False
def lcW (g : DWG) (tt : DWT) (te : DW) (ρ : Loc) (P : List D → Sto → Prop) : List D → List D → Sto → Prop
  | [], acc, S => acc.length ≤ 1000000 ∧ P acc S
  | x :: xs, acc, S => acc.length ≤ 1000000 ∧ g x S ρ fun ρ' => tt ρ' S (fun b S1 => if b = true then te ρ' S1 (fun y S2 => lcW g tt te ρ P xs (acc ++ [y]) S2) EF else lcW g tt te ρ P xs acc S1) EF
theorem lcW_len {g : DWG} {tt : DWT} {te : DW} {ρ : Loc} {P : List D → Sto → Prop} : ∀ {xs acc : List D} {S : Sto}, lcW g tt te ρ P xs acc S → acc.length ≤ 1000000
  | [], _, _, h => h.1
  | _ :: _, _, _, h => h.1
/-- the items' source, then the loop; the block's own slots vs are forgotten -/
def wLc (wi : DWI) (g : DWG) (tt : DWT) (te : DW) (vs : List Nat) : DW := fun ρ S P E => wi ρ S (fun items src S1 => (match src with
  | none => True
  | some _ => False) ∧ lcW g tt te (wD ρ vs) (fun ds S2 => P (.lst ds) S2) items [] S1) E
def wTYes : DWT := fun _ S P _ => P true S
/-- the block's tests -/
structure DTs (X : Cx) (W : WX) (ifs : List Expr) (w : DWT) : Prop where
  ex : ∃ t, PTs X ifs t ∧ RdT X.K W t w
section
variable {X : Cx} {W : WX} {e c : Expr} {w : DWT}
theorem dts_nil : DTs X W [] wTYes := ⟨_, pts_nil, ⟨fun M mu σ ρ S H P E Q ok en hw n x => n true H S (.refl _ _) ok hw⟩⟩
theorem dts_one (h : DT X W c w) : DTs X W [c] w := let ⟨_, p, r⟩ := h.ex; ⟨_, pts_one p, r⟩
end
/-- exceptions that leave a block: none -/
abbrev W0 : WX := fun _ _ _ _ => False
section
variable {K : PySem.W.Frag} {M : Addr → Prop} {mu : List Addr} {H H' : Hp} {S : Sto}
/-- an address set aside: kept, and in no tree -/
theorem Wok.aside (ok : Wok K M mu H S) {p : Addr} (hp : H p = none) (o : HO) : Ext M mu H (fun a => M a ∨ a = p) mu (upd H p o) ∧ Wok K (fun a => M a ∨ a = p) mu (upd H p o) S := by
  obtain ⟨ok2, k2, nm⟩ := ok.alloc hp o
  have ex : Ext M mu H (fun a => M a ∨ a = p) mu (upd H p o) := ⟨⟨fun b q h n => k2 b q h fun z => n (ok.sub b z), ⟨[], by simp⟩, fun a h => h.imp id fun e => by rw [e]; exact hp⟩, k2, fun a h => .inl h, fun a h => .inl h, ok.sub⟩
  refine ⟨ex, ok.len, fun a h => .inl (ok.sub a h), ok.nd, fun a h => ?_, fun i a d h1 h2 => ?_⟩
  · rcases h with h | rfl
    · exact ok2.tr a h
    · rw [upd_same]; simp
  · have c := ok.at_ i a d h1 h2
    have n : a ≠ p := fun e => ok.tr a (ok.sub a (List.mem_of_getElem? h1)) (by rw [e]; exact hp)
    have q : (upd H p o) a = H a := upd_ne n
    cases d with
    | lst ds => obtain ⟨vs, h1, h2⟩ := c; exact ⟨vs, q.trans h1, Rs.mono ex.toExt0 _ _ h2⟩
    | dct kvs =>
      rcases c with ⟨es, h1, h2, h3⟩ | ⟨es, h1, h2, h3⟩
      · exact .inl ⟨es, q.trans h1, h2, Rkv.mono ex.toExt0 _ _ h3⟩
      · exact .inr ⟨es, q.trans h1, h2, Rkv.mono ex.toExt0 _ _ h3⟩
    | obj C fs => obtain ⟨dx, gs, h1, h2, h3⟩ := c; exact ⟨dx, gs, q.trans h1, h2, Rfs.mono ex.toExt0 _ _ h3⟩
    | _ => exact c
/-- less set aside -/
theorem ext_less {M' : Addr → Prop} (h : ∀ a, M a → M' a) : Ext0 M' mu H M mu H := ⟨fun _ _ q _ => q, ⟨[], by simp⟩, fun a m => .inl (h a m)⟩
theorem Wok.less {M' : Addr → Prop} (ok : Wok K M' mu H S) (h : ∀ a, M a → M' a) (s : ∀ a ∈ mu, M a) : Wok K M mu H S := by
  have ex : Ext0 M' mu H M mu H := ext_less h
  refine ⟨ok.len, s, ok.nd, fun a m => ok.tr a (h a m), fun i a d h1 h2 => ?_⟩
  have c := ok.at_ i a d h1 h2
  cases d with
  | lst ds => obtain ⟨vs, h1, h2⟩ := c; exact ⟨vs, h1, Rs.mono ex _ _ h2⟩
  | dct kvs =>
    rcases c with ⟨es, h1, h2, h3⟩ | ⟨es, h1, h2, h3⟩
    · exact .inl ⟨es, h1, h2, Rkv.mono ex _ _ h3⟩
    · exact .inr ⟨es, h1, h2, Rkv.mono ex _ _ h3⟩
  | obj C fs => obtain ⟨dx, gs, h1, h2, h3⟩ := c; exact ⟨dx, gs, h1, h2, Rfs.mono ex _ _ h3⟩
  | _ => exact c
/-- the object set aside is written -/
theorem Wok.wrote {p : Addr} (ok : Wok K (fun a => M a ∨ a = p) mu H S) (np : p ∉ mu) (o : HO) : Ext0 (fun a => M a ∨ a = p) mu H (fun a => M a ∨ a = p) mu (upd H p o) ∧ Wok K (fun a => M a ∨ a = p) mu (upd H p o) S := by
  have ex : Ext0 (fun a => M a ∨ a = p) mu H (fun a => M a ∨ a = p) mu (upd H p o) := ⟨fun b q h n => by rw [upd_ne (fun e => n (.inr e))]; exact h, ⟨[], by simp⟩, fun a m => .inl m⟩
  refine ⟨ex, ok.len, ok.sub, ok.nd, fun a m => ?_, fun i a d h1 h2 => ?_⟩
  · by_cases e : a = p
    · rw [e, upd_same]; simp
    · rw [upd_ne e]; exact ok.tr a m
  · have c := ok.at_ i a d h1 h2
    have q : (upd H p o) a = H a := upd_ne fun e => np (by rw [← e]; exact List.mem_of_getElem? h1)
    cases d with
    | lst ds => obtain ⟨vs, h1, h2⟩ := c; exact ⟨vs, q.trans h1, Rs.mono ex _ _ h2⟩
    | dct kvs =>
      rcases c with ⟨es, h1, h2, h3⟩ | ⟨es, h1, h2, h3⟩
      · exact .inl ⟨es, q.trans h1, h2, Rkv.mono ex _ _ h3⟩
      · exact .inr ⟨es, q.trans h1, h2, Rkv.mono ex _ _ h3⟩
    | obj C fs => obtain ⟨dx, gs, h1, h2, h3⟩ := c; exact ⟨dx, gs, q.trans h1, h2, Rfs.mono ex _ _ h3⟩
    | _ => exact c
end
section
variable {K : PySem.W.Frag} {W : WX} {ti : TI} {g : TG} {tt : TT} {te : TE} {wi : DWI} {wg : DWG} {wt : DWT} {we : DW} {vs is : List Nat}
theorem rd_lc (ri : RdI K W ti wi) (rg : RdG K g wg is) (hs : ∀ i ∈ is, i ∈ vs) (rt : RdT K W0 tt wt) (re : Rd K W0 te we) : Rd K W (tLc ti g tt te vs) (wLc wi wg wt we vs) := by
  refine ⟨fun M mu σ ρ S H P E Q ok en hw n x => ?_⟩
  refine ri.run M mu σ ρ S H _ E _ ok en hw (fun J H1 items src S1 k1 ok1 it hsrc h1 => ?_) x
  obtain ⟨hnone, h1⟩ := h1
  have hsrc0 : src = none := by
    cases src with
    | none => rfl
    | some _ => exact hnone.elim
  subst hsrc0
  intro p hp
  have np : p ∉ mu := fun h => ok1.tr p (ok1.sub p h) hp
  obtain ⟨ex1, oka⟩ := ok1.aside hp (.lst [])
  have en1 := en.keep ok k1
  have good : ∀ H', Keep mu H1 H' → Ext M mu H1 (fun a => M a ∨ a = p) mu H' := fun H' k => ⟨⟨fun b q h nb => k b q h fun z => nb (ok1.sub b z), ⟨[], by simp⟩, fun a h => h.imp id fun e => by rw [e]; exact hp⟩, k, fun a h => .inl h, fun a h => .inl h, ok1.sub⟩
  have xf : ∀ (M : Addr → Prop) H' σ', Exc K M mu H' EF (fun C d H' => W0 C d σ' H') := fun _ _ _ _ _ _ _ _ _ _ _ _ h => h
  refine ⟨fun i m H' => m = items.length - i ∧ i ≤ items.length ∧ ∃ S' acc vacc, Keep mu H1 H' ∧ H' p = some (.lst vacc) ∧ Wok K (fun a => M a ∨ a = p) mu H' S' ∧ Rs K (fun a => M a ∨ a = p) mu H' acc vacc ∧ lcW wg wt we (wD ρ vs) (fun ds S2 => P (.lst ds) S2) (items.drop i) acc S',
    ⟨items.length, by simp, Nat.zero_le _, S1, [], [], ex1.keep, upd_same, oka, rfl, by simpa using h1⟩, ?_⟩
  rintro i m H' ⟨rfl, hi, S', acc, vacc, kH, hpa, okp, racc, hl⟩
  have ex' := good H' kH
  by_cases hlt : i < items.length
  · refine .inr ?_
    rw [List.drop_eq_getElem_cons hlt] at hl
    have hl1 := (it _ _ _ S' ex' okp True.intro i).1 items[i] (List.getElem?_eq_getElem hlt)
    refine ⟨hl1.1, fun H2 => ∃ S2 acc2 vacc2, Keep mu H1 H2 ∧ H2 p = some (.lst vacc2) ∧ Wok K (fun a => M a ∨ a = p) mu H2 S2 ∧ Rs K (fun a => M a ∨ a = p) mu H2 acc2 vacc2 ∧ lcW wg wt we (wD ρ vs) (fun ds S2 => P (.lst ds) S2) (items.drop (i + 1)) acc2 S2,
      fun H2 q => ⟨items.length - (i + 1), by omega, rfl, hlt, q⟩, fun y H2 hy => ?_⟩
    obtain ⟨k2, ok2, r2⟩ := hl1.2 y H2 hy
    have enb : Env K (fun a => M a ∨ a = p) mu H2 (wD ρ vs) (wipe σ vs) := (en1.wipe vs).mono (good H2 (kH.trans k2)).toExt0
    have racc2 := racc.keep okp k2
    refine rg.run _ mu _ _ S' H2 items[i] y _ _ ok2 enb r2 hl.2 fun σ3 ρ3 en3 w3 h3 => ?_
    refine ⟨(w3 vs hs).trans wipe_wipe, ?_⟩
    refine rt.run _ mu σ3 ρ3 S' H2 _ EF _ ok2 en3 h3 (fun b H4 S4 k4 ok4 h4 => ?_) (xf _ _ _)
    cases b with
    | false =>
      rw [if_neg Bool.false_ne_true] at h4 ⊢
      exact ⟨S4, acc, vacc, kH.trans (k2.trans k4), k4 _ _ (k2 _ _ hpa np) np, ok4, racc2.keep ok2 k4, h4⟩
    | true =>
      rw [if_pos rfl] at h4 ⊢
      refine re.run _ mu σ3 ρ3 S4 H4 _ EF _ ok4 (en3.keep ok2 k4) h4 (fun v H5 d5 S5 k5 ok5 r5 h5 => ?_) (xf _ _ _)
      have hp5 : H5 p = some (.lst vacc) := k5 _ _ (k4 _ _ (k2 _ _ hpa np) np) np
      have racc5 := (racc2.keep ok2 k4).keep ok4 k5
      have hlen := lcW_len h5
      obtain ⟨exw, okw⟩ := ok5.wrote np (.lst (vacc ++ [v]))
      refine ⟨vacc, hp5, ?_, S5, acc ++ [d5], vacc ++ [v], ?_, upd_same, okw, (Rs.mono exw _ _ racc5).app ⟨v, [], rfl, R.mono exw _ _ r5, rfl⟩, h5⟩
      · rw [← racc5.len]
        rw [List.length_append, List.length_singleton] at hlen
        rw [sizeLine_eq]
        omega
      · intro b q hb nb
        rw [upd_ne (ne_of_none hb hp)]
        exact k5 _ _ (k4 _ _ (k2 _ _ (kH b q hb nb) nb) nb) nb
  · refine .inl ?_
    have e : i = items.length := by omega
    subst e
    rw [List.drop_length] at hl
    refine ⟨(it _ _ _ S' ex' okp True.intro _).2 (Nat.le_refl _), ?_⟩
    refine n (.ref p) H' (.lst acc) S' (k1.trans kH) (okp.less (fun a h => .inl h) ok1.sub) ?_ hl.2
    exact ⟨p, vacc, rfl, fun h => ok1.tr p h hp, hpa, Rs.mono (ext_less fun a h => .inl h) _ _ racc⟩
end
section
variable {X : Cx} {W : WX} {elt tg iter : Expr} {ifs : List Expr} {scope : Scope} {own : List (Str × Nat)} {pos : Pos} {wi : DWI} {wg : DWG} {wt : DWT} {we : DW} {is : List Nat}
/-- the canonical readings -/
def tOf (K : PySem.W.Frag) (W : WX) (w : DW) : TE := fun σ H Q => ∃ (M : Addr → Prop) (mu : List Addr) (ρ : Loc) (S : Sto) (P : DK) (E : Ex), Wok K M mu H S ∧ Env K M mu H ρ σ ∧ w ρ S P E ∧ Nrm K M mu H P Q ∧ Exc K M mu H E (fun C d H' => W C d σ H')
def ttOf (K : PySem.W.Frag) (W : WX) (w : DWT) : TT := fun σ H Q => ∃ (M : Addr → Prop) (mu : List Addr) (ρ : Loc) (S : Sto) (P : Bool → Sto → Prop) (E : Ex), Wok K M mu H S ∧ Env K M mu H ρ σ ∧ w ρ S P E ∧ NrmT K M mu H P Q ∧ Exc K M mu H E (fun C d H' => W C d σ H')
def gOf (K : PySem.W.Frag) (wg : DWG) (is : List Nat) : TG := fun v σ H Q => ∃ (M : Addr → Prop) (mu : List Addr) (ρ : Loc) (S : Sto) (d : D) (P : Loc → Prop), Wok K M mu H S ∧ Env K M mu H ρ σ ∧ R K M mu H d v ∧ wg d S ρ P ∧
  (∀ σ' ρ', Env K M mu H ρ' σ' → (∀ vs, (∀ i ∈ is, i ∈ vs) → wipe σ' vs = wipe σ vs) → P ρ' → Q σ' H)
theorem rd_tOf {K : PySem.W.Frag} {w : DW} : Rd K W (tOf K W w) w := ⟨fun M mu σ ρ S H P E Q ok en hw n x => ⟨M, mu, ρ, S, P, E, ok, en, hw, n, x⟩⟩
theorem rd_ttOf {K : PySem.W.Frag} {w : DWT} : RdT K W (ttOf K W w) w := ⟨fun M mu σ ρ S H P E Q ok en hw n x => ⟨M, mu, ρ, S, P, E, ok, en, hw, n, x⟩⟩
theorem rd_gOf {K : PySem.W.Frag} {wg : DWG} : RdG K (gOf K wg is) wg is := ⟨fun M mu σ ρ S H d v P Q ok en r hw n => ⟨M, mu, ρ, S, d, P, ok, en, r, hw, n⟩⟩
theorem DE.can {e : Expr} {w : DW} (h : DE X W e w) : PE X e (tOf X.K W w) := by
  obtain ⟨t, p, r⟩ := h.ex
  exact ⟨fun pins s σ H Q I ⟨M, mu, ρ, S, P, E, ok, en, hw, n, x⟩ => p.run pins s σ H Q I (r.run M mu σ ρ S H P E Q ok en hw n x)⟩
theorem DTs.can {w : DWT} (h : DTs X W ifs w) : PTs X ifs (ttOf X.K W w) := by
  obtain ⟨t, p, r⟩ := h.ex
  exact ⟨fun pins s σ H Q I ⟨M, mu, ρ, S, P, E, ok, en, hw, n, x⟩ => p.run pins s σ H Q I (r.run M mu σ ρ S H P E Q ok en hw n x)⟩
theorem DG.can {wg : DWG} (h : DG X tg wg is) : PG X tg (gOf X.K wg is) := by
  obtain ⟨t, p, r⟩ := h.ex
  exact ⟨fun pins s σ H v u Q I rv ⟨M, mu, ρ, S, d, P, ok, en, rd, hw, n⟩ => p.run pins s σ H v u Q I rv (r.run M mu σ ρ S H d v P Q ok en rd hw n)⟩
/-- [elt for tg in iter if ..] -/
theorem de_lc (hc : X.calm = true) (hN : X.N.Nodup) (hi : DI X W tg iter wi) (ok : BlkOk X.N X.env.scope scope own)
    (hg : ∀ (s : Shared) (H : Hp) (C : Addr) (cl : List (Str × Addr)) (fp : List Addr), DG (X.blk s H scope (compEnvC scope cl C X.env) fp) tg wg is)
    (ht : ∀ (s : Shared) (H : Hp) (C : Addr) (cl : List (Str × Addr)) (fp : List Addr), DTs (X.blk s H scope (compEnvC scope cl C X.env) fp) W0 ifs wt)
    (he : ∀ (s : Shared) (H : Hp) (C : Addr) (cl : List (Str × Addr)) (fp : List Addr), DE (X.blk s H scope (compEnvC scope cl C X.env) fp) W0 elt we)
    (his : ∀ i ∈ is, i ∈ own.map (·.2) := by decide) (hs : ∀ x, foldedSetIterable iter X.env x = pure x := by intro _; rfl) :
    DE X W (.ListComp elt [⟨tg, iter, ifs, 0⟩] scope pos) (wLc wi wg wt we (own.map (·.2))) := by
  obtain ⟨ti, pi, ri⟩ := hi.ex
  exact ⟨_, pe_lc hc hN pi ok (fun s H C cl fp => (hg s H C cl fp).can) (fun s H C cl fp => (ht s H C cl fp).can) (fun s H C cl fp => (he s H C cl fp).can) hs, rd_lc ri rd_gOf his rd_ttOf rd_tOf⟩
end
/-! ### statements -/
structure DEnds where
  nx : Loc → Sto → Prop
  rt : DK
  bk : Loc → Sto → Prop := fun _ _ => False
  ct : Loc → Sto → Prop := fun _ _ => False
  ex : Ex := EF
  rf : List D → Sto → Prop := fun _ _ => False
abbrev DWS := DEnds → Loc → Sto → Prop
structure EOk (K : PySem.W.Frag) (W : WX) (M : Addr → Prop) (mu : List Addr) (H : Hp) (D : DEnds) (D' : L2.Ends) : Prop where
  nx : ∀ M' mu' σ' ρ' S' H', Ext M mu H M' mu' H' → Wok K M' mu' H' S' → Env K M' mu' H' ρ' σ' → D.nx ρ' S' → D'.nx σ' H'
  rt : ∀ M' mu' v d S' H', Ext M mu H M' mu' H' → Wok K M' mu' H' S' → R K M' mu' H' d v → D.rt d S' → D'.rt v H'
  bk : ∀ M' mu' σ' ρ' S' H', Ext M mu H M' mu' H' → Wok K M' mu' H' S' → Env K M' mu' H' ρ' σ' → D.bk ρ' S' → D'.bk σ' H'
  ct : ∀ M' mu' σ' ρ' S' H', Ext M mu H M' mu' H' → Wok K M' mu' H' S' → Env K M' mu' H' ρ' σ' → D.ct ρ' S' → D'.ct σ' H'
  ex : ∀ M' mu' C d σ' c fs S' H', Ext M mu H M' mu' H' → Wok K M' mu' H' S' → XR K M' mu' H' C d c fs → D.ex c fs S' → W C d σ' H'
  rf : ∀ M' mu' p vs ds S' H', Ext M mu H M' mu' H' → H' p = some (.lst vs) → H p = none → p ∉ mu' → Wok K (fun a => M' a ∨ a = p) mu' H' S' → Rs K (fun a => M' a ∨ a = p) mu' H' ds vs → D.rf ds S' → D'.rt (.ref p) H'
theorem EOk.mono {K : PySem.W.Frag} {W : WX} {M M1 : Addr → Prop} {mu mu1 : List Addr} {H H1 : Hp} {D : DEnds} {D' : L2.Ends} (x : Ext M mu H M1 mu1 H1) (h : EOk K W M mu H D D') : EOk K W M1 mu1 H1 D D' :=
  ⟨fun M' mu' σ' ρ' S' H' e => h.nx M' mu' σ' ρ' S' H' (x.trans e), fun M' mu' v d S' H' e => h.rt M' mu' v d S' H' (x.trans e), fun M' mu' σ' ρ' S' H' e => h.bk M' mu' σ' ρ' S' H' (x.trans e),
    fun M' mu' σ' ρ' S' H' e => h.ct M' mu' σ' ρ' S' H' (x.trans e), fun M' mu' C d σ' c fs S' H' e => h.ex M' mu' C d σ' c fs S' H' (x.trans e),
    fun M' mu' p vs ds S' H' e a b c => h.rf M' mu' p vs ds S' H' (x.trans e) a (x.back b fun z => c (by
      obtain ⟨l, rfl⟩ := e.pre
      obtain ⟨l', rfl⟩ := x.pre
      exact List.mem_append_left _ (List.mem_append_left _ z))) c⟩
theorem EOk.exc {K : PySem.W.Frag} {W : WX} {M : Addr → Prop} {mu : List Addr} {H : Hp} {D : DEnds} {D' : L2.Ends} (h : EOk K W M mu H D D') (s : ∀ a ∈ mu, M a) (σ : L2.St) : Exc K M mu H D.ex (fun C d H' => W C d σ H') :=
  fun C d H' c fs S' k ok x e => h.ex M mu C d σ c fs S' H' (.of s k) ok x e
structure RdS (K : PySem.W.Frag) (W : WX) (t : TS) (w : DWS) : Prop where
  run : ∀ (M : Addr → Prop) (mu : List Addr) (σ : L2.St) (ρ : Loc) (S : Sto) (H : Hp) (D : DEnds) (D' : L2.Ends), Wok K M mu H S → Env K M mu H ρ σ → w D ρ S → EOk K W M mu H D D' → t D' σ H
structure DS (X : Cx) (W : WX) (st : Stmt) (w : DWS) : Prop where
  ex : ∃ t, PS X st t ∧ RdS X.K W t w
structure DSs (X : Cx) (W : WX) (st : List Stmt) (w : DWS) : Prop where
  ex : ∃ t, PSs X st t ∧ RdS X.K W t w
def wsNext : DWS := fun D ρ S => D.nx ρ S
def wsSeq (a b : DWS) : DWS := fun D ρ S => a { D with nx := b D } ρ S
def wsRet (w : DW) : DWS := fun D ρ S => w ρ S D.rt D.ex
def wsRetN : DWS := fun D _ S => D.rt .non S
def wsDrop (w : DW) : DWS := fun D ρ S => w ρ S (fun _ S1 => D.nx ρ S1) D.ex
def wsIf (t : DWT) (a b : DWS) : DWS := fun D ρ S => t ρ S (fun k S1 => if k = true then a D ρ S1 else b D ρ S1) D.ex
def wsAsg (w : DW) (g : DWG) : DWS := fun D ρ S => w ρ S (fun d S1 => g d S1 ρ fun ρ' => D.nx ρ' S1) D.ex
def wsSet (i : Nat) (w : DW) : DWS := fun D ρ S => w ρ S (fun d S1 => D.nx (ρ.set i (some d)) S1) D.ex
def wsBreak : DWS := fun D ρ S => D.bk ρ S
def wsCont : DWS := fun D ρ S => D.ct ρ S
section
variable {X : Cx} {W : WX} {st : Stmt} {rest a b : List Stmt} {e c : Expr} {wa wb : DWS} {w : DW} {wt : DWT} {pos : Pos} {g : DWG} {is : List Nat}
theorem dss_nil : DSs X W [] wsNext := ⟨_, pss_nil, ⟨fun M mu σ ρ S H D D' ok en hw n => n.nx M mu σ ρ S H (.refl ok.sub) ok en hw⟩⟩
theorem rds_seq {K : PySem.W.Frag} {t u : TS} (r1 : RdS K W t wa) (r2 : RdS K W u wb) : RdS K W (tSeq t u) (wsSeq wa wb) :=
  ⟨fun M mu σ ρ S H D D' ok en hw n => r1.run M mu σ ρ S H _ _ ok en hw ⟨fun M' mu' σ' ρ' S' H' x ok' en' h => r2.run M' mu' σ' ρ' S' H' D D' ok' en' h (n.mono x), n.rt, n.bk, n.ct, n.ex, n.rf⟩⟩
theorem dss_cons (h : DS X W st wa) (h2 : DSs X W rest wb) : DSs X W (st :: rest) (wsSeq wa wb) :=
  let ⟨_, p, r⟩ := h.ex; let ⟨_, p2, r2⟩ := h2.ex; ⟨_, pss_cons p p2, rds_seq r r2⟩
theorem dss_one (h : DS X W st wa) : DSs X W [st] wa := let ⟨_, p, r⟩ := h.ex; ⟨_, pss_one p, r⟩
theorem ds_ret (h : DE X W e w) : DS X W (.Return (some e) pos) (wsRet w) := by
  obtain ⟨_, p, r⟩ := h.ex
  exact ⟨_, ps_ret p, ⟨fun M mu σ ρ S H D D' ok en hw n => r.run M mu σ ρ S H _ _ _ ok en hw (fun v H' d S' k ok' r' h => n.rt M mu v d S' H' (.of ok.sub k) ok' r' h) (n.exc ok.sub σ)⟩⟩
theorem ds_retN : DS X W (.Return none pos) wsRetN := ⟨_, ps_retN, ⟨fun M mu σ ρ S H D D' ok en hw n => n.rt M mu .non .non S H (.refl ok.sub) ok rfl hw⟩⟩
theorem ds_pass : DS X W (.Pass pos) wsNext := ⟨_, ps_pass, ⟨fun M mu σ ρ S H D D' ok en hw n => n.nx M mu σ ρ S H (.refl ok.sub) ok en hw⟩⟩
theorem ds_break : DS X W (.Break pos) wsBreak := ⟨_, ps_break, ⟨fun M mu σ ρ S H D D' ok en hw n => n.bk M mu σ ρ S H (.refl ok.sub) ok en hw⟩⟩
theorem ds_continue : DS X W (.Continue pos) wsCont := ⟨_, ps_continue, ⟨fun M mu σ ρ S H D D' ok en hw n => n.ct M mu σ ρ S H (.refl ok.sub) ok en hw⟩⟩
theorem ds_expr (h : DE X W e w) (hs : swapsWith e none pos.line X.env = pure false := by rfl) : DS X W (.Expr e pos) (wsDrop w) := by
  obtain ⟨_, p, r⟩ := h.ex
  exact ⟨_, ps_expr p hs, ⟨fun M mu σ ρ S H D D' ok en hw n => r.run M mu σ ρ S H _ _ _ ok en hw (fun v H' d S' k ok' r' h => n.nx M mu σ ρ S' H' (.of ok.sub k) ok' (en.keep ok k) h) (n.exc ok.sub σ)⟩⟩
theorem ds_if (h : DT X W c wt) (ha : DSs X W a wa) (hb : DSs X W b wb) : DS X W (.If c a b pos) (wsIf wt wa wb) := by
  obtain ⟨_, p, r⟩ := h.ex
  obtain ⟨_, p1, r1⟩ := ha.ex
  obtain ⟨_, p2, r2⟩ := hb.ex
  refine ⟨_, ps_if p p1 p2, ⟨fun M mu σ ρ S H D D' ok en hw n => ?_⟩⟩
  refine r.run M mu σ ρ S H _ _ _ ok en hw (fun k H' S' kp ok' h => ?_) (n.exc ok.sub σ)
  cases k with
  | true => rw [if_pos rfl] at h ⊢; exact r1.run M mu σ ρ S' H' D D' ok' (en.keep ok kp) h (n.mono (.of ok.sub kp))
  | false => rw [if_neg Bool.false_ne_true] at h ⊢; exact r2.run M mu σ ρ S' H' D D' ok' (en.keep ok kp) h (n.mono (.of ok.sub kp))
theorem ds_set {i : Nat} {x : Str} {pos' : Pos} (hN : X.N.Nodup) (hi : X.N[i]? = some x) (hx : L2.Loc X.env.scope x) (he : DE X W e w) (hs : swapsWith e (some (.Name x pos')) pos.line X.env = pure false := by rfl) (hf : X.fn x = true ∨ X.env.scope.names.lookup x = some .local := by first | exact .inl rfl | exact .inr rfl | assumption) :
    DS X W (.Assign [.Name x pos'] e pos) (wsSet i w) := by
  obtain ⟨_, p, r⟩ := he.ex
  exact ⟨_, ps_set hN hi hx p hs hf, ⟨fun M mu σ ρ S H D D' ok en hw n => r.run M mu σ ρ S H _ _ _ ok en hw (fun v H' d S' k ok' r' h => n.nx M mu _ _ S' H' (.of ok.sub k) ok' ((en.keep ok k).set r') h) (n.exc ok.sub σ)⟩⟩
theorem ds_asg {tg : Expr} (he : DE X W e w) (hg : DG X tg g is) (hs : swapsWithSole [tg] e pos.line X.env = pure false := by rfl) (hw : swappedStores [tg] e X.env = pure none := by rfl) (h1 : (assignEach [tg] X.env).map (·.2) = [assign tg X.env] := by rfl) :
    DS X W (.Assign [tg] e pos) (wsAsg w g) := by
  obtain ⟨_, p, r⟩ := he.ex
  obtain ⟨_, q, rg⟩ := hg.ex
  exact ⟨_, ps_asg p q hs hw h1, ⟨fun M mu σ ρ S H D D' ok en hw n => r.run M mu σ ρ S H _ _ _ ok en hw (fun v H' d S' k ok' r' h =>
    rg.run M mu σ ρ S' H' d v _ _ ok' (en.keep ok k) r' h fun σ' ρ' en' _ h' => n.nx M mu σ' ρ' S' H' (.of ok.sub k) ok' en' h') (n.exc ok.sub σ)⟩⟩
end
end DL
set_option maxRecDepth 100000
set_option maxHeartbeats 2000000
namespace DL
open PySem PySem.Spec PyProof.Rows L2
/-! ### for -/
/-- the loop unrolled; src: the cell that the items stand in must stay -/
def forW (g : DWG) (tb : DWS) (Y : DEnds) (all : List D) (src : Option Nat) : List D → Loc → Sto → Prop
  | [], ρ, S => (match src with
    | none => True
    | some j => S[j]? = some (.lst all)) ∧ Y.nx ρ S
  | x :: xs, ρ, S => (match src with
    | none => True
    | some j => S[j]? = some (.lst all)) ∧ g x S ρ fun ρ' => tb { Y with nx := forW g tb Y all src xs, ct := forW g tb Y all src xs, bk := Y.nx } ρ' S
theorem forW_src {g : DWG} {tb : DWS} {Y : DEnds} {all : List D} {src : Option Nat} : ∀ {xs : List D} {ρ : Loc} {S : Sto}, forW g tb Y all src xs ρ S → (match src with
    | none => True
    | some j => S[j]? = some (.lst all))
  | [], _, _, h => h.1
  | _ :: _, _, _, h => h.1
def wsFor (wi : DWI) (g : DWG) (tb : DWS) : DWS := fun Y ρ S => wi ρ S (fun items src S1 => forW g tb Y items src items ρ S1) Y.ex
section
variable {K : PySem.W.Frag} {W : WX} {ti : TI} {g : TG} {tb : TS} {wi : DWI} {wg : DWG} {wb : DWS} {is : List Nat}
theorem rds_for (ri : RdI K W ti wi) (rg : RdG K g wg is) (rb : RdS K W tb wb) : RdS K W (tFor ti g tb) (wsFor wi wg wb) := by
  refine ⟨fun M mu σ ρ S H D D' ok en hw n => ?_⟩
  refine ri.run M mu σ ρ S H _ D.ex _ ok en hw (fun J H1 items src S1 k1 ok1 it hsrc h1 => ?_) (n.exc ok.sub σ)
  have e1 : Ext M mu H M mu H1 := .of ok.sub k1
  refine ⟨fun i m σ' H' => m = items.length - i ∧ i ≤ items.length ∧ ∃ M' mu' ρ' S', Ext M mu H1 M' mu' H' ∧ Wok K M' mu' H' S' ∧ Env K M' mu' H' ρ' σ' ∧ forW wg wb D items src (items.drop i) ρ' S',
    ⟨items.length, by simp, Nat.zero_le _, M, mu, ρ, S1, .refl ok.sub, ok1, en.keep ok k1, by simpa using h1⟩, ?_⟩
  rintro i m σ' H' ⟨rfl, hi, M', mu', ρ', S', ex', ok', en', hl⟩
  have hsr := forW_src hl
  by_cases hlt : i < items.length
  · refine .inr ?_
    rw [List.drop_eq_getElem_cons hlt] at hl
    have hl1 := (it M' mu' H' S' ex' ok' hsr i).1 items[i] (List.getElem?_eq_getElem hlt)
    refine ⟨hl1.1, fun σ2 H2 => ∃ M2 mu2 ρ2 S2, Ext M mu H1 M2 mu2 H2 ∧ Wok K M2 mu2 H2 S2 ∧ Env K M2 mu2 H2 ρ2 σ2 ∧ forW wg wb D items src (items.drop (i + 1)) ρ2 S2,
      fun σ2 H2 q => ⟨items.length - (i + 1), by omega, rfl, hlt, q⟩, fun y H2 hy => ?_⟩
    obtain ⟨k2, ok2, r2⟩ := hl1.2 y H2 hy
    have ex2 : Ext M mu H1 M' mu' H2 := ex'.trans (.of ok'.sub k2)
    refine rg.run M' mu' σ' ρ' S' H2 items[i] y _ _ ok2 (en'.keep ok' k2) r2 hl.2 fun σ3 ρ3 en3 _ h3 => ?_
    refine rb.run M' mu' σ3 ρ3 S' H2 _ _ ok2 en3 h3 ?_
    have n2 : EOk K W M' mu' H2 D D' := n.mono (e1.trans ex2)
    exact ⟨fun M4 mu4 σ4 ρ4 S4 H4 x4 ok4 en4 h4 => ⟨M4, mu4, ρ4, S4, ex2.trans x4, ok4, en4, h4⟩, n2.rt, n2.nx, fun M4 mu4 σ4 ρ4 S4 H4 x4 ok4 en4 h4 => ⟨M4, mu4, ρ4, S4, ex2.trans x4, ok4, en4, h4⟩, n2.ex, n2.rf⟩
  · refine .inl ?_
    have e : i = items.length := by omega
    subst e
    rw [List.drop_length] at hl
    exact ⟨(it M' mu' H' S' ex' ok' hsr _).2 (Nat.le_refl _), n.nx M' mu' σ' ρ' S' H' (e1.trans ex') ok' en' hl.2⟩
end
section
variable {X : Cx} {W : WX} {tg iter : Expr} {body : List Stmt} {wi : DWI} {wg : DWG} {wb : DWS} {is : List Nat} {pos : Pos}
theorem ds_for (hp : PassesOwn (model X.prog X.w) X.A X.env X.xe) (hc : X.calm = true) (hi : DI X W tg iter wi) (hg : DG X tg wg is) (hb : DSs X W body wb)
    (hs : ∀ x, foldedSetIterable iter X.env x = pure x := by intro _; rfl) : DS X W (.For tg iter body [] pos) (wsFor wi wg wb) := by
  obtain ⟨_, pi, ri⟩ := hi.ex
  obtain ⟨_, pg, rg⟩ := hg.ex
  obtain ⟨_, pb, rb⟩ := hb.ex
  exact ⟨_, ps_for hp hc pi pg pb hs, rds_for ri rg rb⟩
/-! ### a, b = x, y; a, b, c = x, y, z -/
def wsPar (is : List Nat) (w : DWA) : DWS := fun D ρ S => w ρ S (fun ds S1 => ds.length = is.length ∧ D.nx ((is.zip ds).foldl (fun r p => r.set p.1 (some p.2)) ρ) S1) D.ex
theorem ds_par {i j : Nat} {x y : Str} {a b : Expr} {w : DWA} {px py pt : Pos} {kt k2 pt2} (hc : X.calm = true) (hN : X.N.Nodup) (hi : X.N[i]? = some x) (hj : X.N[j]? = some y) (hij : i ≠ j)
    (hx : X.env.scope.names.lookup x = some .local) (hy : X.env.scope.names.lookup y = some .local) (ha : DA X W [a, b] w)
    (hw : swappedStores [.Tuple [.Name x px, .Name y py] kt pt] (.Tuple [a, b] k2 pt2) X.env = pure (some [x, y]) := by rfl)
    (hs : swapsWithSole [.Tuple [.Name x px, .Name y py] kt pt] (.Tuple [a, b] k2 pt2) pos.line X.env = pure false := by rfl) :
    DS X W (.Assign [.Tuple [.Name x px, .Name y py] kt pt] (.Tuple [a, b] k2 pt2) pos) (wsPar [i, j] w) := by
  obtain ⟨_, p, r⟩ := ha.ex
  refine ⟨_, ps_par hc hN hi hj hij hx hy p hw hs, ⟨fun M mu σ ρ S H D D' ok en hw n => r.run M mu σ ρ S H _ _ _ ok en hw (fun vs H' ds S' k ok' r' h => ?_) (n.exc ok.sub σ)⟩⟩
  obtain ⟨hl, h⟩ := h
  match ds, hl, r', h with
  | [d1, d2], _, r', h =>
    obtain ⟨v, u, rfl, r1, r2⟩ := r'.two
    exact ⟨v, u, rfl, n.nx M mu _ _ S' H' (.of ok.sub k) ok' (((en.keep ok k).set r1).set r2) h⟩
theorem ds_par3 {i j l : Nat} {x y z : Str} {a b c : Expr} {w : DWA} {px py pz pt : Pos} {kt k2 pt2} (hc : X.calm = true) (hN : X.N.Nodup) (hi : X.N[i]? = some x) (hj : X.N[j]? = some y) (hl : X.N[l]? = some z) (hij : i ≠ j) (hil : i ≠ l) (hjl : j ≠ l)
    (hx : X.env.scope.names.lookup x = some .local) (hy : X.env.scope.names.lookup y = some .local) (hz : X.env.scope.names.lookup z = some .local) (ha : DA X W [a, b, c] w)
    (hw : swappedStores [.Tuple [.Name x px, .Name y py, .Name z pz] kt pt] (.Tuple [a, b, c] k2 pt2) X.env = pure (some [x, y, z]) := by rfl)
    (hs : swapsWithSole [.Tuple [.Name x px, .Name y py, .Name z pz] kt pt] (.Tuple [a, b, c] k2 pt2) pos.line X.env = pure false := by rfl) :
    DS X W (.Assign [.Tuple [.Name x px, .Name y py, .Name z pz] kt pt] (.Tuple [a, b, c] k2 pt2) pos) (wsPar [i, j, l] w) := by
  obtain ⟨_, p, r⟩ := ha.ex
  refine ⟨_, ps_par3 hc hN hi hj hl hij hil hjl hx hy hz p hw hs, ⟨fun M mu σ ρ S H D D' ok en hw n => r.run M mu σ ρ S H _ _ _ ok en hw (fun vs H' ds S' k ok' r' h => ?_) (n.exc ok.sub σ)⟩⟩
  obtain ⟨hl, h⟩ := h
  match ds, hl, r', h with
  | [d1, d2, d3], _, r', h =>
    obtain ⟨v, rr, rfl, r1, r'⟩ := r'
    obtain ⟨u, w, rfl, r2, r3⟩ := Rs.two r'
    exact ⟨v, u, w, rfl, n.nx M mu _ _ S' H' (.of ok.sub k) ok' ((((en.keep ok k).set r1).set r2).set r3) h⟩
/-! ### xs[i] = e, xs a cell -/
def wsStore (we wo wi : DW) : DWS := fun D ρ S => we ρ S (fun d S1 => wo ρ S1 (fun x S2 => wi ρ S2 (fun y S3 => match x, y with
  | .loc j, .int k => (match val S3 (.loc j) with
    | .lst ds => (match ixN ds.length k with
      | some n => D.nx ρ (S3.set j (.lst (ds.set n d)))
      | none => False)
    | _ => False)
  | _, _ => False) D.ex) D.ex) D.ex
section
variable {K : PySem.W.Frag} {M : Addr → Prop} {mu : List Addr} {H : Hp} {S : Sto}
/-- a cell is written -/
theorem Wok.cell (ok : Wok K M mu H S) {j : Nat} {a : Addr} (ha : mu[j]? = some a) {o : HO} {c : D} (hc : Cl K M mu (upd H a o) c a) : Wok K M mu (upd H a o) (S.set j c) ∧ Keep mu H (upd H a o) := by
  have k : Keep mu H (upd H a o) := fun b q h nb => by rw [upd_ne fun e => nb (by rw [e]; exact List.mem_of_getElem? ha)]; exact h
  refine ⟨⟨by rw [List.length_set]; exact ok.len, ok.sub, ok.nd, fun b m => ?_, fun i b d h1 h2 => ?_⟩, k⟩
  · by_cases e : b = a
    · rw [e, upd_same]; simp
    · rw [upd_ne e]; exact ok.tr b m
  · by_cases e : j = i
    · subst e
      rw [ha] at h1
      cases h1
      have hj : j < S.length := by rw [ok.len]; exact (List.getElem?_eq_some_iff.mp ha).1
      rw [List.getElem?_set_self hj] at h2
      cases h2
      exact hc
    · rw [List.getElem?_set_ne e] at h2
      refine (ok.at_ i b d h1 h2).keep ok k (upd_ne fun q => ?_)
      subst q
      exact e (nd_ix ok.nd ha h1)
end
theorem ds_store {o i e : Expr} {we wo wx : DW} {spos : Pos} (he : DE X W e we) (ho : DE X W o wo) (hi : DE X W i wx) (hs : swapsWithSole [.Subscript o i spos] e pos.line X.env = pure false := by rfl) (hw : swappedStores [.Subscript o i spos] e X.env = pure none := by rfl)
    (h1 : (assignEach [.Subscript o i spos] X.env).map (·.2) = [assign (.Subscript o i spos) X.env] := by rfl)
    (ha : ∀ v, assign (.Subscript o i spos) X.env v = (do
      let ov ← holding [v] (eval o X.env)
      let iv ← holding [v, ov] (eval i X.env)
      standAt spos
      holding [v, ov, iv] (setItem ov iv v)
      release [v, ov, iv] []) := by intro _; rfl) : DS X W (.Assign [.Subscript o i spos] e pos) (wsStore we wo wx) := by
  obtain ⟨_, p, r⟩ := he.ex
  obtain ⟨_, p1, r1⟩ := ho.ex
  obtain ⟨_, p2, r2⟩ := hi.ex
  refine ⟨_, ps_asg p (pg_sub p1 p2 set_list ha) hs hw h1, ⟨fun M mu σ ρ S H D D' ok en hw n => ?_⟩⟩
  refine r.run M mu σ ρ S H _ _ _ ok en hw (fun v H1 d S1 k1 ok1 q1 h1 => ?_) (n.exc ok.sub σ)
  have n1 := n.mono (.of ok.sub k1)
  refine r1.run M mu σ ρ S1 H1 _ _ _ ok1 (en.keep ok k1) h1 (fun u H2 x S2 k2 ok2 q2 h2 => ?_) (n1.exc ok1.sub σ)
  have n2 := n1.mono (.of ok1.sub k2)
  refine r2.run M mu σ ρ S2 H2 _ _ _ ok2 ((en.keep ok k1).keep ok1 k2) h2 (fun w H3 y S3 k3 ok3 q3 h3 => ?_) (n2.exc ok2.sub σ)
  have n3 := n2.mono (.of ok2.sub k3)
  split at h3
  · rename_i j k
    cases e1 : val S3 (.loc j) with
    | lst ds =>
      simp only [e1] at h3
      cases e2 : ixN ds.length k with
      | none => simp only [e2] at h3
      | some m =>
        simp only [e2] at h3
        obtain ⟨a, rfl, ha⟩ := q2
        obtain rfl : w = .int k := q3
        obtain ⟨vs, hv, rv⟩ : Cl X.K M mu H3 (.lst ds) a := ok3.at_ j a _ ha (val_loc e1 (by simp))
        have q1' := (q1.keep ok1 k2).keep ok2 k3
        have ex : Ext0 M mu H3 M mu (upd H3 a (.lst (vs.set m v))) := ⟨fun b q h nb => by rw [upd_ne fun e => nb (by rw [e]; exact ok3.sub a (List.mem_of_getElem? ha))]; exact h, ⟨[], by simp⟩, fun a h => .inl h⟩
        obtain ⟨ok4, k4⟩ := ok3.cell (o := .lst (vs.set m v)) (c := .lst (ds.set m d)) ha ⟨vs.set m v, upd_same, Rs.mono ex _ _ (Rs.set q1' m rv)⟩
        exact ⟨a, vs, k, m, rfl, rfl, hv, by rw [← rv.len]; exact e2, n3.nx M mu σ ρ _ _ (.of ok3.sub k4) ok4 ((((en.keep ok k1).keep ok1 k2).keep ok2 k3).keep ok3 k4) h3⟩
    | _ => simp only [e1] at h3
  · exact h3.elim
end
/-! ### a def by its body -/
mutual
/-- no cell from n on is named -/
def lo (n : Nat) : D → Bool
  | .loc i => decide (i < n)
  | .lst ds => los n ds
  | .tup ds => los n ds
  | .dct kvs => lokv n kvs
  | .obj _ fs => lofs n fs
  | _ => true
def los (n : Nat) : List D → Bool
  | [] => true
  | d :: ds => lo n d && los n ds
def lokv (n : Nat) : List (D × D) → Bool
  | [] => true
  | (_, d) :: ds => lo n d && lokv n ds
def lofs (n : Nat) : List (Str × D) → Bool
  | [] => true
  | (_, d) :: ds => lo n d && lofs n ds
end
section
variable {K : PySem.W.Frag} {M M' : Addr → Prop} {mu l : List Addr} {H : Hp}
theorem and_tt {a b : Bool} (h : (a && b) = true) : a = true ∧ b = true := Bool.and_eq_true_iff.mp h
mutual
theorem R.low (hM : ∀ a, M a → M' a) : ∀ (d : D) (v : V), lo mu.length d = true → R K M' (mu ++ l) H d v → R K M mu H d v
  | .non, v, _, h => h
  | .bl b, v, _, h => h
  | .int i, v, _, h => h
  | .str s, v, _, h => h
  | .ty n, v, _, h => h
  | .cst a, v, _, h => h
  | .loc i, v, q, ⟨a, h1, h2⟩ => ⟨a, h1, by
      have hi : i < mu.length := of_decide_eq_true q
      rw [List.getElem?_append_left hi] at h2
      exact h2⟩
  | .scr ns, v, _, ⟨a, h1, h2⟩ => ⟨a, h1, h2.imp (fun ⟨m, o, q⟩ => ⟨fun z => m (hM a z), o, q⟩) id⟩
  | .lst ds, v, q, ⟨a, vs, h1, h2, h3, h4⟩ => ⟨a, vs, h1, fun m => h2 (hM a m), h3, Rs.low hM ds vs q h4⟩
  | .tup ds, v, q, ⟨a, vs, h1, h2, h4⟩ => ⟨a, vs, h1, h2.imp (fun h => ⟨fun m => h.1 (hM a m), h.2⟩) id, Rs.low hM ds vs q h4⟩
  | .dct kvs, v, q, ⟨a, h1, h2, h3⟩ => ⟨a, h1, fun m => h2 (hM a m), h3.imp (fun ⟨es, q1, q2, q3⟩ => ⟨es, q1, q2, Rkv.low hM kvs _ q q3⟩) (fun ⟨es, q1, q2, q3⟩ => ⟨es, q1, q2, Rkv.low hM kvs _ q q3⟩)⟩
  | .obj C fs, v, q, ⟨a, dx, gs, h1, h2, h3, h4, h5⟩ => ⟨a, dx, gs, h1, fun m => h2 (hM a m), h3, h4, Rfs.low hM fs _ q h5⟩
theorem Rs.low (hM : ∀ a, M a → M' a) : ∀ (ds : List D) (vs : List V), los mu.length ds = true → Rs K M' (mu ++ l) H ds vs → Rs K M mu H ds vs
  | [], vs, _, h => h
  | d :: ds, vs, q, ⟨v, r, h1, h2, h3⟩ => ⟨v, r, h1, R.low hM d v (and_tt q).1 h2, Rs.low hM ds r (and_tt q).2 h3⟩
theorem Rkv.low (hM : ∀ a, M a → M' a) : ∀ (ds : List (D × D)) (vs : List V), lokv mu.length ds = true → Rkv K M' (mu ++ l) H ds vs → Rkv K M mu H ds vs
  | [], vs, _, h => h
  | (_, d) :: ds, vs, q, ⟨v, r, h1, h2, h3⟩ => ⟨v, r, h1, R.low hM d v (and_tt q).1 h2, Rkv.low hM ds r (and_tt q).2 h3⟩
theorem Rfs.low (hM : ∀ a, M a → M' a) : ∀ (ds : List (Str × D)) (vs : List V), lofs mu.length ds = true → Rfs K M' (mu ++ l) H ds vs → Rfs K M mu H ds vs
  | [], vs, _, h => h
  | (_, d) :: ds, vs, q, ⟨v, r, h1, h2, h3⟩ => ⟨v, r, h1, R.low hM d v (and_tt q).1 h2, Rfs.low hM ds r (and_tt q).2 h3⟩
end
theorem Cl.low (hM : ∀ a, M a → M' a) {d : D} {a : Addr} (q : lo mu.length d = true) (c : Cl K M' (mu ++ l) H d a) : Cl K M mu H d a := by
  cases d with
  | lst ds => obtain ⟨vs, h1, h2⟩ := c; exact ⟨vs, h1, Rs.low hM ds vs q h2⟩
  | dct kvs =>
    rcases c with ⟨es, h1, h2, h3⟩ | ⟨es, h1, h2, h3⟩
    · exact .inl ⟨es, h1, h2, Rkv.low hM kvs _ q h3⟩
    · exact .inr ⟨es, h1, h2, Rkv.low hM kvs _ q h3⟩
  | obj C fs => obtain ⟨dx, gs, h1, h2, h3⟩ := c; exact ⟨dx, gs, h1, h2, Rfs.low hM fs _ q h3⟩
  | _ => exact c
theorem Wok.low {S : Sto} (hM : ∀ a, M a → M' a) (s : ∀ a ∈ mu, M a) (ok : Wok K M' (mu ++ l) H S) (q : (S.take mu.length).all (lo mu.length) = true) : Wok K M mu H (S.take mu.length) := by
  have hl := ok.len
  rw [List.length_append] at hl
  refine ⟨by rw [List.length_take]; omega, s, ok.nd.sublist (List.sublist_append_left _ _), fun a m => ok.tr a (hM a m), fun i a d h1 h2 => ?_⟩
  have hi : i < mu.length := (List.getElem?_eq_some_iff.mp h1).1
  have h3 : S[i]? = some d := by rw [List.getElem?_take_of_lt hi] at h2; exact h2
  exact (ok.at_ i a d (by rw [List.getElem?_append_left hi]; exact h1) h3).low hM (List.all_eq_true.mp q d (List.mem_of_getElem? h2))
end
section
variable {K : PySem.W.Frag} {M : Addr → Prop} {mu : List Addr} {H : Hp}
theorem tt_and {a b : Bool} (h : a = true) (g : b = true) : (a && b) = true := by rw [h, g]; rfl
mutual
theorem R.lo : ∀ (d : D) (v : V), R K M mu H d v → lo mu.length d = true
  | .non, v, _ => rfl
  | .bl b, v, _ => rfl
  | .int i, v, _ => rfl
  | .str s, v, _ => rfl
  | .ty n, v, _ => rfl
  | .cst a, v, _ => rfl
  | .scr a, v, _ => rfl
  | .loc i, v, ⟨a, h1, h2⟩ => decide_eq_true (List.getElem?_eq_some_iff.mp h2).1
  | .lst ds, v, ⟨a, vs, h1, h2, h3, h4⟩ => Rs.lo ds vs h4
  | .tup ds, v, ⟨a, vs, h1, h2, h4⟩ => Rs.lo ds vs h4
  | .dct kvs, v, ⟨a, h1, h2, h3⟩ => h3.elim (fun ⟨es, q1, q2, q3⟩ => Rkv.lo kvs _ q3) (fun ⟨es, q1, q2, q3⟩ => Rkv.lo kvs _ q3)
  | .obj C fs, v, ⟨a, dx, gs, h1, h2, h3, h4, h5⟩ => Rfs.lo fs _ h5
theorem Rs.lo : ∀ (ds : List D) (vs : List V), Rs K M mu H ds vs → los mu.length ds = true
  | [], vs, _ => rfl
  | d :: ds, vs, ⟨v, r, h1, h2, h3⟩ => tt_and (R.lo d v h2) (Rs.lo ds r h3)
theorem Rkv.lo : ∀ (ds : List (D × D)) (vs : List V), Rkv K M mu H ds vs → lokv mu.length ds = true
  | [], vs, _ => rfl
  | (_, d) :: ds, vs, ⟨v, r, h1, h2, h3⟩ => tt_and (R.lo d v h2) (Rkv.lo ds r h3)
theorem Rfs.lo : ∀ (ds : List (Str × D)) (vs : List V), Rfs K M mu H ds vs → lofs mu.length ds = true
  | [], vs, _ => rfl
  | (_, d) :: ds, vs, ⟨v, r, h1, h2, h3⟩ => tt_and (R.lo d v h2) (Rfs.lo ds r h3)
end
theorem Wok.scoped {S : Sto} (ok : Wok K M mu H S) : S.all (lo S.length) = true := by
  rw [List.all_eq_true]
  intro d hd
  obtain ⟨i, hi⟩ := List.getElem?_of_mem hd
  have hl : i < mu.length := by rw [← ok.len]; exact (List.getElem?_eq_some_iff.mp hi).1
  have c := ok.at_ i _ d (List.getElem?_eq_getElem hl) hi
  rw [ok.len]
  cases d with
  | lst ds => obtain ⟨vs, h1, h2⟩ := c; exact Rs.lo ds vs h2
  | dct kvs =>
    rcases c with ⟨es, h1, h2, h3⟩ | ⟨es, h1, h2, h3⟩
    · exact Rkv.lo kvs _ h3
    · exact Rkv.lo kvs _ h3
  | obj C fs => obtain ⟨dx, gs, h1, h2, h3⟩ := c; exact Rfs.lo fs _ h3
  | non => rfl
  | _ => exact c.elim
end
/-- what a def hands back, its own cells' content in their place -/
def thw (n : Nat) (S : Sto) : D → Option D
  | .loc i => if i < n then some (.loc i) else (match S[i]? with
    | some (.lst ds) => if los n ds = true then some (.lst ds) else none
    | _ => none)
  | d => if lo n d = true then some d else none
def endsOf (n : Nat) (P : DK) (E : Ex) : DEnds where
  nx := fun _ S' => (S'.length = n ∧ P .non S') ∨ ((S'.take n).all (lo n) = true ∧ P .non (S'.take n))
  rt := fun d S' => (S'.length = n ∧ P d S') ∨ ∃ d', thw n S' d = some d' ∧ (S'.take n).all (lo n) = true ∧ P d' (S'.take n)
  ex := fun c fs S' => (S'.length = n ∧ E c fs S') ∨ (lofs n fs = true ∧ (S'.take n).all (lo n) = true ∧ E c fs (S'.take n))
def startD (N : Nat) (ds : List D) : Loc := ds.map some ++ List.replicate (N - ds.length) none
theorem env_start {K : PySem.W.Frag} {M : Addr → Prop} {mu : List Addr} {H : Hp} {N : List Str} {ds : List D} {vs : List V} (r : Rs K M mu H ds vs) : Env K M mu H (startD N.length ds) (L2.start N vs) := by
  have hl := r.len
  refine ⟨by simp [startD, L2.start, hl], fun i d h => ?_⟩
  unfold startD at h
  unfold L2.start
  by_cases hi : i < ds.length
  · rw [List.getElem?_append_left (by simpa using hi), List.getElem?_map] at h
    cases e : ds[i]? with
    | none => rw [e] at h; cases h
    | some d' =>
      rw [e] at h
      have e' : d' = d := Option.some.inj (Option.some.inj h)
      subst e'
      obtain ⟨v, hv, rv⟩ := r.get e
      exact ⟨v, by rw [List.getElem?_append_left (by simp; omega), List.getElem?_map, hv]; rfl, rv⟩
  · rw [List.getElem?_append_right (by simp; omega), List.getElem?_replicate] at h
    split at h <;> cases h
theorem eok_def {K : PySem.W.Frag} {M : Addr → Prop} {mu : List Addr} {H : Hp} {S : Sto} {P : DK} {Ex : Ex} {Q : VK} {E : XK} (ok : Wok K M mu H S) (n : Nrm K M mu H P Q) (x : Exc K M mu H Ex (fun C d H' => E C d H')) :
    EOk K (fun C d _ H' => E C d H') M mu H (endsOf S.length P Ex) { nx := fun _ H' => Q .non H', rt := Q } := by
  have hl := ok.len
  have same : ∀ {M' : Addr → Prop} {mu' : List Addr} {H' : Hp} {S' : Sto}, L2.Same H H → DL.Ext M mu H M' mu' H' → Wok K M' mu' H' S' → S'.length = S.length → Wok K M mu H' S' ∧ ∀ {d v}, R K M' mu' H' d v → R K M mu H' d v := fun {M' mu' H' S'} _ e ok' h => by
    obtain ⟨l, rfl⟩ := e.pre
    have : l = [] := by
      have h2 := ok'.len
      rw [List.length_append] at h2
      exact List.length_eq_zero_iff.mp (by omega)
    subst this
    rw [List.append_nil] at ok'
    refine ⟨ok'.less e.up ok.sub, fun {d v} r => ?_⟩
    rw [List.append_nil] at r
    exact R.mono (ext_less e.up) d v r
  refine ⟨fun M' mu' σ' ρ' S' H' e ok' en h => ?_, fun M' mu' v d S' H' e ok' r h => ?_, fun _ _ _ _ _ _ _ _ _ h => h.elim, fun _ _ _ _ _ _ _ _ _ h => h.elim, fun M' mu' C d σ' c fs S' H' e ok' xr h => ?_, fun _ _ _ _ _ _ _ _ _ _ _ _ _ h => h.elim⟩
  · rcases h with ⟨h1, h2⟩ | ⟨h1, h2⟩
    · exact n .non H' .non S' e.keep (same (.refl _) e ok' h1).1 rfl h2
    · obtain ⟨l, rfl⟩ := e.pre
      rw [hl] at h1 h2
      exact n .non H' .non _ e.keep (ok'.low e.up ok.sub h1) rfl h2
  · rcases h with ⟨h1, h2⟩ | ⟨d', h0, h1, h2⟩
    · obtain ⟨q1, q2⟩ := same (.refl _) e ok' h1
      exact n v H' d S' e.keep q1 (q2 r) h2
    · have hnew := e.new
      obtain ⟨l, rfl⟩ := e.pre
      rw [hl] at h0 h1 h2
      refine n v H' d' _ e.keep (ok'.low e.up ok.sub h1) ?_ h2
      have plain : lo mu.length d = true → R K M mu H' d v := fun q => R.low e.up d v q r
      cases d with
      | loc i =>
        have h0 : (if i < mu.length then some (DL.D.loc i) else (match S'[i]? with
          | some (.lst ds) => if los mu.length ds = true then some (DL.D.lst ds) else none
          | _ => none)) = some d' := h0
        by_cases hi : i < mu.length
        · rw [if_pos hi] at h0
          cases h0
          exact plain (decide_eq_true hi)
        · rw [if_neg hi] at h0
          cases q : S'[i]? with
          | none => rw [q] at h0; cases h0
          | some c =>
            rw [q] at h0
            cases c with
            | lst ds =>
              have h0' : (if los mu.length ds = true then some (D.lst ds) else none) = some d' := h0
              by_cases hq : los mu.length ds = true
              · rw [if_pos hq] at h0'
                cases h0'
                obtain ⟨a, rfl, ha⟩ := r
                obtain ⟨vs, g1, g2⟩ : Cl K M' (mu ++ l) H' (.lst ds) a := ok'.at_ i a _ ha q
                refine ⟨a, vs, rfl, fun m => ?_, g1, Rs.low e.up ds vs hq g2⟩
                rcases hnew a (List.mem_of_getElem? ha) with z | z
                · obtain ⟨j, hj⟩ := List.getElem?_of_mem z
                  have hj' : (mu ++ l)[j]? = some a := by
                    rw [List.getElem?_append_left (List.getElem?_eq_some_iff.mp hj).1]; exact hj
                  have := nd_ix ok'.nd ha hj'
                  have := (List.getElem?_eq_some_iff.mp hj).1
                  omega
                · exact ok.tr a m z
              · rw [if_neg hq] at h0'
                cases h0'
            | _ => cases h0
      | _ =>
        simp only [thw] at h0
        split at h0
        · rename_i hq
          cases h0
          exact plain hq
        · cases h0
  · obtain ⟨rfl, a, gs, rfl, hm, ha, hn, hf⟩ := xr
    rcases h with ⟨h1, h2⟩ | ⟨h0, h1, h2⟩
    · obtain ⟨l, rfl⟩ := e.pre
      have : l = [] := by
        have h2 := ok'.len
        rw [List.length_append] at h2
        exact List.length_eq_zero_iff.mp (by omega)
      subst this
      rw [List.append_nil] at ok' hf
      exact x _ _ H' c fs S' e.keep (ok'.less e.up ok.sub) ⟨rfl, a, gs, rfl, fun m => hm (e.up a m), ha, hn, Rfs.mono (ext_less e.up) _ _ hf⟩ h2
    · obtain ⟨l, rfl⟩ := e.pre
      rw [hl] at h0 h1 h2
      exact x _ _ H' c fs _ e.keep (ok'.low e.up ok.sub h1) ⟨rfl, a, gs, rfl, fun m => hm (e.up a m), ha, hn, Rfs.low e.up _ _ h0 hf⟩ h2
section
variable {P : Program} {w : World} {K : PySem.W.Frag} {mg : Str → Option Value} {base : Heap} {x qual : Str} {params : Arguments} {body : List Stmt} {scope : Scope} {dvs : List V} {kws : List (Str × V)} {f : Addr} {fd : FuncData}
/-- THE RULE for a def over trees (CX: CX0, or L2.CX P w where it may raise) -/
theorem ok_def {CX : CXT} {N ps : List Str} {k : Nat} {sp : DSp} {wb : DWS} (F : FunD K x qual params body scope dvs kws f fd) (sc : FnScope N ps scope) (len : ∀ ds S P E, sp ds S P E → ds.length = ps.length)
    (hb : ∀ (cdv : Value) (A : Around) (outer : List PySem.Env) (s : Shared) (H : Hp) (E : XK), Room k (A.deeper (envOfC qual scope s.heap.objs.size f cdv)) → DSs (cxOf CX P w K mg base N qual scope f cdv A outer s H E) (fun C d _ H' => E C d H') body wb)
    (hw : ∀ ds S P E, S.all (lo S.length) = true → sp ds S P E → wb (endsOf S.length P E) (startD N.length ds) S) : FnOk P w K mg base CX (k + 1) f fd ps (toSp K sp) := by
  refine F.ok sc (fun vs H Q E h => ?_) (fun cdv A outer s H vs Q E hr h => ?_)
  · obtain ⟨M, mu, S, ds, P, Ex, ok, r, q, _⟩ := h
    rw [← r.len]
    exact len _ _ _ _ q
  · obtain ⟨M, mu, S, ds, P, Ex, ok, r, q, n, xx⟩ := h
    obtain ⟨t, p, rb⟩ := (hb cdv A outer s H E hr).ex
    refine ⟨t, p, rb.run M mu _ _ S H _ _ ok (env_start r) (hw ds S P Ex ok.scoped q) (eok_def ok n xx)⟩
end
end DL
set_option maxRecDepth 100000
set_option maxHeartbeats 2000000
namespace DL
open PySem PySem.Spec PyProof.Rows L2
/-- a def of the top, as it stands: st at the name x, its own name nm -/
def DefIn (K : PySem.W.Frag) (mg : Str → Option Value) (x nm : Str) (st : Stmt) : Prop := ∃ (f : Addr) (fd : FuncData), FunD K nm nm (defArgs st) (defBody st) (defScope st) [] [] f fd ∧ mg x = some (.ref f)
/-- what a caller knows of x: its promise, how n positional values and the keywords ks bind -/
structure CalF (P : Program) (w : World) (K : PySem.W.Frag) (mg : Str → Option Value) (base : Heap) (CX : CXT) (k : Nat) (x : Str) (ps : List Str) (sp : DSp) (f : Addr) (fd : FuncData) : Prop where
  ok : FnOk P w K mg base CX k f fd ps (toSp K sp)
  mg : mg x = some (.ref f)
  kp : PySem.W.keepIn K (.ref f) = true
  b : Binds K fd ps []
  lk : ∃ (oc : Value) (od : Option Addr) (osl : Array (Option Value)), K.lookup f = some ⟨oc, od, .func fd, osl⟩
def Cal (P : Program) (w : World) (K : PySem.W.Frag) (mg : Str → Option Value) (base : Heap) (CX : CXT) (k : Nat) (x : Str) (ps : List Str) (sp : DSp) : Prop := ∃ f fd, CalF P w K mg base CX k x ps sp f fd
/-- the same for a call by keywords: n positional values, then those named ks, in the parameters' order -/
def CalK (P : Program) (w : World) (K : PySem.W.Frag) (mg : Str → Option Value) (base : Heap) (CX : CXT) (k : Nat) (x : Str) (ps : List Str) (n : Nat) (ks : List Str) (sp : DSp) : Prop := ∃ f fd, CalF P w K mg base CX k x ps sp f fd ∧
  ∀ (s : Shared) (us ws : List Value), us.length = n → ws.length = ks.length → BindsTo s fd ⟨us, ks.zip ws⟩ (ps.zip (us ++ ws))
/-- a global tuple -/
def GTup (K : PySem.W.Frag) (mg : Str → Option Value) (x : Str) (ds : List D) : Prop := ∃ a vs, mg x = some (.ref a) ∧ SqTK K a vs ∧ ∀ M mu H, Rs K M mu H ds vs
section
variable {X : Cx} {W : WX} {CX : CXT} {j k : Nat} {ps ks : List Str} {sp : DSp} {x : Str} {p pos : Pos} {e : Expr} {es : List Expr} {kws : List Keyword} {w wk : DWA}
theorem de_cal (c : Cal X.prog X.w X.K X.mg X.base CX j x ps sp) (hr : Room k X.A) (hx : ∀ σ, PassesAt CX X σ (WE W σ)) (ha : DA X W (e :: es) w) (hjk : j ≤ k := by first | decide | exact Nat.le_refl _ | omega) (hg : Gl X x := by rfl) (hdb : (x == ("__debug__" : Str)) = false := by decide)
    (he : starEach (e :: es) X.env = (false, eval e X.env) :: starEach es X.env := by rfl) (hpl : (backTo pos (starEach es X.env)).any (·.1) = false := by rfl) : DE X W (.Call (.Name x p) (e :: es) [] pos) (wCall sp [] w) :=
  let ⟨_, _, c⟩ := c; de_call c.ok (hr.mono hjk) hg c.mg c.kp c.b .nil (fun _ _ _ => rfl) hx ha hdb he hpl
theorem de_cal0 (c : Cal X.prog X.w X.K X.mg X.base CX j x ps sp) (hr : Room k X.A) (hx : ∀ σ, PassesAt CX X σ (WE W σ)) (hjk : j ≤ k := by first | decide | exact Nat.le_refl _ | omega) (hg : Gl X x := by rfl) (hdb : (x == ("__debug__" : Str)) = false := by decide) : DE X W (.Call (.Name x p) [] [] pos) (wCall sp [] wNil) :=
  let ⟨_, _, c⟩ := c; de_call0 c.ok (hr.mono hjk) hg c.mg c.kp c.b .nil (fun _ _ _ => rfl) hx hdb
/-! ### keywords -/
structure DKw (X : Cx) (W : WX) (kws : List Keyword) (w : DWA) : Prop where
  ex : ∃ t, PK X kws t ∧ RdA X.K W t w
theorem dk_nil : DKw X W [] wNil := ⟨_, pk_nil, ⟨fun M mu σ ρ S H P E Q ok en hw n x => n [] H [] S (.refl _ _) ok rfl hw⟩⟩
theorem dk_cons {nm : Option Str} {kpos : Pos} {we : DW} (ha : DE X W e we) (hs : DKw X W kws w) : DKw X W (⟨nm, e, kpos⟩ :: kws) (wCons we w) := by
  obtain ⟨ta, pa, ra⟩ := ha.ex
  obtain ⟨ts, ps, rs⟩ := hs.ex
  refine ⟨_, pk_cons pa ps, ⟨fun M mu σ ρ S H P E Q ok en hw n x => ?_⟩⟩
  refine ra.run M mu σ ρ S H _ E _ ok en hw (fun v H1 d S1 k1 ok1 r1 h1 => ?_) x
  refine rs.run M mu σ ρ S1 H1 _ E _ ok1 (en.keep ok k1) h1 (fun vs H2 ds S2 k2 ok2 r2 h2 => ?_) (x.mono k1)
  exact n (v :: vs) H2 (d :: ds) S2 (k1.trans k2) ok2 ⟨v, vs, rfl, r1.keep ok1 k2, r2⟩ h2
def wCallK (sp : DSp) (n m : Nat) (w wk : DWA) : DW := fun ρ S P E => w ρ S (fun ds S1 => wk ρ S1 (fun es S2 => ds.length = n ∧ es.length = m ∧ sp (ds ++ es) S2 P E) E) E
theorem run_fnkn {K : PySem.W.Frag} {n : Nat} {fd : FuncData} {f : Addr} {sp : Sp} {E : XK} {pins : List (Addr × Obj)} {σ : L2.St} {H : Hp} {s : Shared} {Q : VK} {us ws : List Value} {vs zs : List V} (F : FnOk X.prog X.w X.K X.mg X.base CX k f fd ps sp) (hr : Room k X.A)
    (hb : ∀ (s : Shared) (us ws : List Value), us.length = n → ws.length = ks.length → BindsTo s fd ⟨us, ks.zip ws⟩ (ps.zip (us ++ ws))) (hx : PassesAt CX X σ E) (I : Inv X pins σ H s) (r : Vals vs us) (rz : Vals zs ws) (l1 : vs.length = n) (l2 : zs.length = ks.length) (h : sp (vs ++ zs) H Q E) :
    wpAny (model X.prog X.w) X.A (call (.ref f) us (ks.zip ws)) (EP X pins σ Q) X.xe s := by
  refine wpAny_call (codeAny_mono (F.run X.A X.stack s H ⟨us, ks.zip ws⟩ (us ++ ws) (vs ++ zs) Q E hr I.env0 (hb s us ws (r.length.symm.trans l1) (rz.length.symm.trans l2)) (r.append rz) h) fun r s' hq => ?_)
  cases r with
  | error e => exact hx pins H s e s' I hq
  | ok fl =>
    cases fl with
    | ret u => exact I.after hq
    | next => exact False.elim hq
    | brk => exact False.elim hq
    | cont => exact False.elim hq
def tCallKn (sp : Sp) (n m : Nat) (E : L2.St → XK) (t tk : TA) : TE := fun σ H Q => t σ H fun vs H1 => tk σ H1 fun zs H2 => vs.length = n ∧ zs.length = m ∧ sp (vs ++ zs) H2 Q (E σ)
theorem rd_callK {K : PySem.W.Frag} {t tk : TA} {n m : Nat} (ra : RdA K W t w) (rk : RdA K W tk wk) : Rd K W (tCallKn (toSp K sp) n m (WE W) t tk) (wCallK sp n m w wk) := by
  refine ⟨fun M mu σ ρ S H P E Q ok en hw nn x => ?_⟩
  refine ra.run M mu σ ρ S H _ E _ ok en hw (fun vs H1 ds S1 k1 ok1 r1 h1 => ?_) x
  refine rk.run M mu σ ρ S1 H1 _ E _ ok1 (en.keep ok k1) h1 (fun us H2 es S2 k2 ok2 r2 h2 => ?_) (x.mono k1)
  refine ⟨by rw [← r1.len]; exact h2.1, by rw [← r2.len]; exact h2.2.1, M, mu, S2, ds ++ es, P, E, ok2, (r1.keep ok1 k2).app r2, h2.2.2, nn.mono (k1.trans k2), x.mono (k1.trans k2)⟩
/-- f(k = v, ..) -/
theorem de_calK0 (c : CalK X.prog X.w X.K X.mg X.base CX j x ps 0 ks sp) (hr : Room k X.A) (hx : ∀ σ, PassesAt CX X σ (WE W σ)) (hk : DKw X W kws wk) (hjk : j ≤ k := by first | decide | exact Nat.le_refl _ | omega) (hg : Gl X x := by rfl) (hall : (backToKw pos (keywordEach kws X.env)).all (·.1.isSome) = true := by rfl)
    (hks : (backToKw pos (keywordEach kws X.env)).filterMap (·.1) = ks := by rfl) (hdb : (x == ("__debug__" : Str)) = false := by decide) (hpl : ((backTo pos (starEach [] X.env)).any (·.1) || (backToKw pos (keywordEach kws X.env)).any (·.1.isNone)) = false := by rfl) :
    DE X W (.Call (.Name x p) [] kws pos) (wCallK sp 0 ks.length wNil wk) := by
  obtain ⟨f, fd, c, hb⟩ := c
  obtain ⟨tk, pk, rk⟩ := hk.ex
  refine ⟨tCallKn (toSp X.K sp) 0 ks.length (WE W) tNil tk, ⟨fun pins s σ H Q I h => ?_⟩, rd_callK (w := wNil) ⟨fun M mu σ ρ S H P E Q ok en hw n x => n [] H [] S (.refl _ _) ok rfl hw⟩ rk⟩
  refine wpAny_Call_Name_kw (ld_glob I hg c.mg ?_ hdb)
  refine PySem.W.callWith_KW0 (h₀ := X.base) I.ok.mod.kin c.kp hall ?_ hpl
  refine thn (pk.run pos pins s σ H _ I h) fun ws s2 ⟨zs, H2, I2, rz, l1, l2, q2⟩ => ⟨I2.kIn, ?_⟩
  rw [hks]
  exact run_fnkn (K := X.K) (us := []) (vs := []) c.ok (hr.mono hjk) hb (hx σ) I2 .nil rz rfl l2 q2
theorem de_calK {n : Nat} (c : CalK X.prog X.w X.K X.mg X.base CX j x ps n ks sp) (hr : Room k X.A) (hx : ∀ σ, PassesAt CX X σ (WE W σ)) (ha : DA X W (e :: es) w) (hk : DKw X W kws wk) (hjk : j ≤ k := by first | decide | exact Nat.le_refl _ | omega) (hg : Gl X x := by rfl) (hall : (backToKw pos (keywordEach kws X.env)).all (·.1.isSome) = true := by rfl)
    (hks : (backToKw pos (keywordEach kws X.env)).filterMap (·.1) = ks := by rfl) (hdb : (x == ("__debug__" : Str)) = false := by decide) (he : starEach (e :: es) X.env = (false, eval e X.env) :: starEach es X.env := by rfl)
    (hpl : ((backTo pos (starEach (e :: es) X.env)).any (·.1) || (backToKw pos (keywordEach kws X.env)).any (·.1.isNone)) = false := by rfl) :
    DE X W (.Call (.Name x p) (e :: es) kws pos) (wCallK sp n ks.length w wk) := by
  obtain ⟨f, fd, c, hb⟩ := c
  obtain ⟨t, pa, ra⟩ := ha.ex
  obtain ⟨tk, pk, rk⟩ := hk.ex
  refine ⟨tCallKn (toSp X.K sp) n ks.length (WE W) t tk, ⟨fun pins s σ H Q I h => ?_⟩, rd_callK ra rk⟩
  refine wpAny_Call_Name_kw (ld_glob I hg c.mg ?_ hdb)
  refine PySem.W.callWith_KW (h₀ := X.base) I.ok.mod.kin c.kp hall (thn (pa.run pos pins s σ H _ I h) fun us s1 ⟨vs, H1, I1, r, q⟩ => ?_) hpl he
  refine thn (pk.run pos pins s1 σ H1 _ I1 q) fun ws s2 ⟨zs, H2, I2, rz, l1, l2, q2⟩ => ⟨I2.kIn, ?_⟩
  rw [hks]
  exact run_fnkn (K := X.K) c.ok (hr.mono hjk) hb (hx σ) I2 r rz l1 l2 q2
theorem de_gtup {ds : List D} (g : GTup X.K X.mg x ds) (hg : Gl X x := by rfl) (hd : (x == ("__debug__" : Str)) = false := by decide) : DE X W (.Name x pos) (wC (.tup ds)) :=
  let ⟨a, vs, hm, ht, hr⟩ := g; de_glob (v := .ref a) hg hm rfl (fun M mu H => ⟨a, vs, rfl, .inr ht, hr M mu H⟩) hd
end
section
variable {P : Program} {w : World} {K : PySem.W.Frag} {mg : Str → Option Value} {base : Heap} {x nm : Str} {st : Stmt}
/-- THE RULE for a plain def of the top -/
theorem cal_def {CX : CXT} {N ps : List Str} {k : Nat} {sp : DSp} {wb : DWS} (I : DefIn K mg x nm st) (sc : FnScope N ps (defScope st))
    (hbd : ∀ (kV doc pm : Value) (an : Option Addr) (cdv ct : Value) (us : List Value), us.length = ps.length → bindArgs (PySem.W.fnOf nm nm (defArgs st) (defBody st) (defScope st) .none kV doc pm an cdv ct) ⟨us, []⟩ = pure (ps.zip us))
    (len : ∀ ds S P E, sp ds S P E → ds.length = ps.length)
    (hb : ∀ (f : Addr) (cdv : Value) (A : Around) (outer : List PySem.Env) (s : Shared) (H : Hp) (E : XK), Room k (A.deeper (envOfC nm (defScope st) s.heap.objs.size f cdv)) → DSs (cxOf CX P w K mg base N nm (defScope st) f cdv A outer s H E) (fun C d _ H' => E C d H') (defBody st) wb)
    (hw : ∀ ds S P E, S.all (lo S.length) = true → sp ds S P E → wb (endsOf S.length P E) (startD N.length ds) S) : Cal P w K mg base CX (k + 1) x ps sp := by
  obtain ⟨f, fd, F, hm⟩ := I
  exact ⟨f, fd, ⟨ok_def F sc len (fun cdv A outer s H E hr => hb f cdv A outer s H E hr) hw, hm, F.kp, F.bindsN hbd, let ⟨oc, od, _, _, _, _, _, _, _, osl, _, lk, _⟩ := F.ex; ⟨oc, od, osl, lk⟩⟩⟩
/-- .. called by keywords -/
theorem calk_def {CX : CXT} {N ps ks : List Str} {k n : Nat} {sp : DSp} (c : Cal P w K mg base CX k x ps sp) (I : DefIn K mg x nm st)
    (hbd : ∀ (kV doc pm : Value) (an : Option Addr) (cdv ct : Value) (us ws : List Value), us.length = n → ws.length = ks.length → bindArgs (PySem.W.fnOf nm nm (defArgs st) (defBody st) (defScope st) .none kV doc pm an cdv ct) ⟨us, ks.zip ws⟩ = pure (ps.zip (us ++ ws))) : CalK P w K mg base CX k x ps n ks sp := by
  obtain ⟨f, fd, c⟩ := c
  obtain ⟨f', fd', F, hm⟩ := I
  refine ⟨f, fd, c, fun s us ws l1 l2 => ?_⟩
  obtain ⟨oc, od, dV, kV, doc, pm, an, cdv, ct, osl, e, lk, hcd, hD, hK⟩ := F.ex
  obtain ⟨oc', od', osl', lk'⟩ := c.lk
  have ef : f = f' := by
    have h := c.mg.symm.trans hm
    injection h with h
    injection h
  subst ef
  rw [lk] at lk'
  injection lk' with h
  injection h with _ _ h _
  injection h with h
  subst h
  subst e
  rcases hD with ⟨_, rfl⟩ | ⟨z, _⟩
  · exact BindsTo.of_eq (hbd kV doc pm an cdv ct us ws l1 l2)
  · exact absurd rfl z
end
end DL
set_option maxRecDepth 100000
set_option maxHeartbeats 2000000
namespace DL
open PySem PySem.Spec PyProof.Rows L2
/-! ### the built-ins' own names -/
theorem bt_int : bootBuiltins "int" = some (.type "int") := by first | exact PySem.boot_int | exact PyProof.Rows.boot_int | decide +kernel
theorem bt_bool : bootBuiltins "bool" = some (.type "bool") := by first | exact PySem.boot_bool | exact PyProof.Rows.boot_bool | decide +kernel
theorem bt_str : bootBuiltins "str" = some (.type "str") := by first | exact PySem.boot_str | exact PyProof.Rows.boot_str | decide +kernel
theorem bt_list : bootBuiltins "list" = some (.type "list") := by first | exact PySem.boot_list | exact PyProof.Rows.boot_list | decide +kernel
theorem bt_tuple : bootBuiltins "tuple" = some (.type "tuple") := by first | exact PySem.boot_tuple | exact PyProof.Rows.boot_tuple | decide +kernel
theorem bt_dict : bootBuiltins "dict" = some (.type "dict") := by first | exact PySem.boot_dict | exact PyProof.Rows.boot_dict | decide +kernel
theorem bt_len : bootBuiltins "len" = some (.builtin "len") := by first | exact PySem.boot_len | exact PyProof.Rows.boot_len | decide +kernel
theorem bt_abs : bootBuiltins "abs" = some (.builtin "abs") := by first | exact PySem.boot_abs | exact PyProof.Rows.boot_abs | decide +kernel
theorem bt_all : bootBuiltins "all" = some (.builtin "all") := by first | exact PySem.boot_all | exact PyProof.Rows.boot_all | decide +kernel
theorem bt_any : bootBuiltins "any" = some (.builtin "any") := by first | exact PySem.boot_any | exact PyProof.Rows.boot_any | decide +kernel
theorem bt_isinstance : bootBuiltins "isinstance" = some (.builtin "isinstance") := by first | exact PySem.boot_isinstance | exact PyProof.Rows.boot_isinstance | decide +kernel
theorem bt_sorted : bootBuiltins "sorted" = some (.builtin "sorted") := by first | exact PySem.boot_sorted | exact PyProof.Rows.boot_sorted | decide +kernel
theorem bt_max : bootBuiltins "max" = some (.builtin "max") := by first | exact PySem.boot_max | exact PyProof.Rows.boot_max | decide +kernel
theorem bt_min : bootBuiltins "min" = some (.builtin "min") := by first | exact PySem.boot_min | exact PyProof.Rows.boot_min | decide +kernel
theorem bt_sum : bootBuiltins "sum" = some (.builtin "sum") := by first | exact PySem.boot_sum | exact PyProof.Rows.boot_sum | decide +kernel
/-! ### more operators -/
section
variable {K : PySem.W.Frag}
def subD : DF2 := fun x y S P => match x, y with
  | .int i, .int j => P (.int (i - j)) S
  | _, _ => False
theorem opd_sub : OpD K (rI0 fun i j => .int (i - j)) subD := by
  intro M mu H S x y v u P Q ok rx ry h n
  cases x with
  | int i =>
    cases y with
    | int j => exact ⟨i, j, rx, ry, n _ H (.int (i - j)) S (.refl _ _) ok rfl h⟩
    | _ => exact h.elim
  | _ => exact h.elim
def modD : DF2 := fun x y S P => match x, y with
  | .int i, .int j => 0 < j ∧ P (.int (i % j)) S
  | _, _ => False
theorem opd_mod : OpD K (rI (fun _ j => 0 < j) fun i j => .int (i % j)) modD := by
  intro M mu H S x y v u P Q ok rx ry h n
  cases x with
  | int i =>
    cases y with
    | int j => exact ⟨i, j, rx, ry, h.1, n _ H (.int (i % j)) S (.refl _ _) ok rfl h.2⟩
    | _ => exact h.elim
  | _ => exact h.elim
def fdivD : DF2 := fun x y S P => match x, y with
  | .int i, .int j => (0 < j ∧ j < 10 ^ 2000) ∧ P (.int (i / j)) S
  | _, _ => False
theorem opd_fdiv : OpD K (rI CDivW fun i j => .int (i / j)) fdivD := by
  intro M mu H S x y v u P Q ok rx ry h n
  cases x with
  | int i =>
    cases y with
    | int j =>
      refine ⟨i, j, rx, ry, wide_div (b := 7000) h.1.1 ?_ (by decide) (by decide), n _ H (.int (i / j)) S (.refl _ _) ok rfl h.2⟩
      have h1 : j.natAbs < 10 ^ 2000 := by have := h.1; omega
      exact Nat.lt_of_lt_of_le h1 (by decide +kernel)
    | _ => exact h.elim
  | _ => exact h.elim
def powD : DF2 := fun x y S P => match x, y with
  | .int i, .int j => (0 ≤ j ∧ j ≤ 1000 ∧ -1000 < i ∧ i < 1000) ∧ P (.int (i ^ j.toNat)) S
  | _, _ => False
theorem opd_pow : OpD K (rI CPow fun i j => .int (i ^ j.toNat)) powD := by
  intro M mu H S x y v u P Q ok rx ry h n
  cases x with
  | int i =>
    cases y with
    | int j =>
      exact ⟨i, j, rx, ry, ⟨h.1.1, by have := h.1; omega, by have := h.1; omega⟩, n _ H (.int (i ^ j.toNat)) S (.refl _ _) ok rfl h.2⟩
    | _ => exact h.elim
  | _ => exact h.elim
/-! ### order: ints, tuples of ints -/
def intsD : List D → Option (List Int)
  | [] => some []
  | .int i :: ds => (intsD ds).map (i :: ·)
  | _ :: _ => none
theorem ints_ok {M : Addr → Prop} {mu : List Addr} {H : Hp} : ∀ {ds : List D} {vs : List V} {ns : List Int}, Rs K M mu H ds vs → intsD ds = some ns → vs = ns.map V.int
  | [], vs, ns, r, e => by obtain rfl : vs = [] := r; obtain rfl : ([] : List Int) = ns := Option.some.inj e; rfl
  | d :: ds, vs, ns, r, e => by
    obtain ⟨v, rr, rfl, h1, h2⟩ := r
    cases d with
    | int i =>
      obtain ⟨ms, e1, rfl⟩ := Option.map_eq_some_iff.mp (show (intsD ds).map (i :: ·) = some ns from e)
      obtain rfl : v = .int i := h1
      rw [ints_ok h2 e1]
      rfl
    | _ => simp [intsD] at e
/-- from the first pair that differs on, by r; else by the lengths -/
def lexI (r : Int → Int → Bool) (z : Nat → Nat → Bool) : List Int → List Int → Bool
  | x :: xs, y :: ys => if x = y then lexI r z xs ys else r x y
  | xs, ys => z xs.length ys.length
theorem lexAt_shift {e r : Nat → Bool} {z : Bool} : ∀ {k i : Nat}, Ob.lexAt e r z (i + 1) k = Ob.lexAt (fun j => e (j + 1)) (fun j => r (j + 1)) z i k
  | 0, _ => rfl
  | k + 1, i => by
    rw [Ob.lexAt_succ, Ob.lexAt_succ, lexAt_shift]
theorem lexAt_lexI {r : Int → Int → Bool} {z : Nat → Nat → Bool} (hz : ∀ a b, z (a + 1) (b + 1) = z a b) : ∀ (ns ms : List Int),
    Ob.lexAt (fun j => decide (ns.getD j 0 = ms.getD j 0)) (fun j => r (ns.getD j 0) (ms.getD j 0)) (z ns.length ms.length) 0 (min ns.length ms.length) = lexI r z ns ms
  | [], [] => rfl
  | [], _ :: _ => by simp only [List.length_nil, Nat.zero_min]; rfl
  | _ :: _, [] => by simp only [List.length_nil, Nat.min_zero]; rfl
  | x :: xs, y :: ys => by
    have h1 : min (x :: xs).length (y :: ys).length = min xs.length ys.length + 1 := by simp only [List.length_cons]; omega
    rw [h1, Ob.lexAt_succ, lexAt_shift]
    have h2 : z (x :: xs).length (y :: ys).length = z xs.length ys.length := hz _ _
    rw [h2]
    show (if decide (x = y) = true then Ob.lexAt (fun j => decide (xs.getD j 0 = ys.getD j 0)) (fun j => r (xs.getD j 0) (ys.getD j 0)) (z xs.length ys.length) 0 (min xs.length ys.length) else r x y) = _
    rw [lexAt_lexI hz xs ys]
    show _ = (if x = y then lexI r z xs ys else r x y)
    by_cases h : x = y
    · rw [if_pos h, if_pos (decide_eq_true h)]
    · rw [if_neg h, if_neg (by simpa using h)]
def rCmpT (K : PySem.W.Frag) (r : Int → Int → Bool) (z : Nat → Nat → Bool) : R2 := fun x y H Q => ∃ (a b : Addr) (ns ms : List Int), x = .ref a ∧ y = .ref b ∧ SqT K H a (ns.map V.int) ∧ SqT K H b (ms.map V.int) ∧ Q (.bl (lexI r z ns ms)) H
theorem op_gtT {X : Cx} (hu : X.A.units < cLine) : OpR X (compareOp .Gt) (rCmpT X.K (fun x y => decide (y < x)) (fun a b => decide (b < a))) := by
  intro pins s σ H x y v u Q I rx ry h
  obtain ⟨a, b, ns, ms, rfl, rfl, ha, hb, q⟩ := h
  cases rx
  cases ry
  obtain ⟨its, r1, p1, _⟩ := I.tuple ha
  obtain ⟨its2, r2, p2, _⟩ := I.tuple hb
  have i1 : IntsAre its ns := Vals.ints r1
  have i2 : IntsAre its2 ms := Vals.ints r2
  have e1 : its.toArray.size = ns.length := by rw [List.size_toArray]; exact i1.length
  have e2 : its2.toArray.size = ms.length := by rw [List.size_toArray]; exact i2.length
  have at1 : ∀ j (h1 : j < its.toArray.size), ∃ t, its.toArray[j] = .int (ns.getD j 0) t := fun j h1 => PyProof.Rows.IntsAre.int_at i1 _ _ (by simp at h1; simp [h1])
  have at2 : ∀ j (h1 : j < its2.toArray.size), ∃ t, its2.toArray[j] = .int (ms.getD j 0) t := fun j h1 => PyProof.Rows.IntsAre.int_at i2 _ _ (by simp at h1; simp [h1])
  have R := Ob.RcOp.tuples_gt (A := X.A) (s := s) (e := fun j => decide (ns.getD j 0 = ms.getD j 0)) (r := fun j => decide (ms.getD j 0 < ns.getD j 0)) p1 p2 hu (fun j h1 h2 => by
    obtain ⟨t, et⟩ := at1 j h1
    obtain ⟨t', et'⟩ := at2 j h2
    rw [et, et']
    have z : (ns.getD j 0 == ms.getD j 0) = decide (ns.getD j 0 = ms.getD j 0) := by
      by_cases q : ns.getD j 0 = ms.getD j 0
      · rw [decide_eq_true q]; exact beq_iff_eq.mpr q
      · rw [decide_eq_false q]; exact beq_eq_false_iff_ne.mpr q
    rw [← z]
    exact SeqAt.EqAt.int_int _ _ _ _) (fun j h1 h2 _ => by
    obtain ⟨t, et⟩ := at1 j h1
    obtain ⟨t', et'⟩ := at2 j h2
    rw [et, et']
    exact Ob.RcOp.gt_int _ _ _ _)
  rw [e1, e2] at R
  have ez := lexAt_lexI (r := fun x y => decide (y < x)) (z := fun a b => decide (b < a)) (fun a b => by simp) ns ms
  have z : wpAny (model X.prog X.w) X.A (compareOp .Gt (.ref a) (.ref b)) (EP X pins σ Q) X.xe s := R X.prog X.w X.xe (EP X pins σ Q) ⟨.bl _, H, I, rfl, by
    have e3 : (decide (ns.length > ms.length)) = decide (ms.length < ns.length) := rfl
    rw [e3, ez]
    exact q⟩
  exact z
/-- ints, or tuples of ints -/
def ordD (g : Int → Int → Bool) (z : Nat → Nat → Bool) : DF2 := fun x y S P => match val S x, val S y with
  | .int i, .int j => P (.bl (g i j)) S
  | .tup ds, .tup es => (match intsD ds, intsD es with
    | some ns, some ms => P (.bl (lexI g z ns ms)) S
    | _, _ => False)
  | _, _ => False
theorem opd_ord {g : Int → Int → Bool} {z : Nat → Nat → Bool} : OpD K (fun x y H Q => rI0 (fun i j => .bl (g i j)) x y H Q ∨ rCmpT K g z x y H Q) (ordD g z) := by
  intro M mu H S x y v u P Q ok rx ry h n
  unfold ordD at h
  cases e1 : val S x with
  | int i =>
    cases e2 : val S y with
    | int j => simp only [e1, e2] at h; exact .inl ⟨i, j, val_int ok rx e1, val_int ok ry e2, n _ H (.bl (g i j)) S (.refl _ _) ok rfl h⟩
    | _ => simp only [e1, e2] at h
  | tup ds =>
    cases e2 : val S y with
    | tup es =>
      simp only [e1, e2] at h
      cases e3 : intsD ds with
      | none => simp only [e3] at h
      | some ns =>
        cases e4 : intsD es with
        | none => simp only [e3, e4] at h
        | some ms =>
          simp only [e3, e4] at h
          obtain ⟨a, vs, rfl, ha, ra⟩ := seq_tup ok rx e1
          obtain ⟨b, us, rfl, hb, rb⟩ := seq_tup ok ry e2
          rw [ints_ok ra e3] at ha
          rw [ints_ok rb e4] at hb
          exact .inr ⟨a, b, ns, ms, rfl, rfl, ha, hb, n _ H (.bl _) S (.refl _ _) ok rfl h⟩
    | _ => simp only [e1, e2] at h
  | _ => simp only [e1] at h
def ltD := ordD (fun i j => decide (i < j)) (fun a b => decide (a < b))
def leD := cmpD (fun i j => decide (i ≤ j))
def gtD := ordD (fun i j => decide (j < i)) (fun a b => decide (b < a))
def geD := cmpD (fun i j => decide (j ≤ i))
theorem op_gtA {X : Cx} (hu : X.A.units + 64 < cLine) : OpR X (compareOp .Gt) (fun x y H Q => rI0 (fun i j => .bl (decide (j < i))) x y H Q ∨ rCmpT X.K (fun i j => decide (j < i)) (fun a b => decide (b < a)) x y H Q) := OpR.or op_gt (op_gtT (Nat.lt_of_le_of_lt (Nat.le_add_right _ _) hu))
theorem opd_gtA : OpD K (fun x y H Q => rI0 (fun i j => .bl (decide (j < i))) x y H Q ∨ rCmpT K (fun i j => decide (j < i)) (fun a b => decide (b < a)) x y H Q) gtD := opd_ord
theorem opd_lt : OpD K (rI0 fun i j => .bl (decide (i < j))) (cmpD fun i j => decide (i < j)) := opd_B
theorem opd_le : OpD K (rI0 fun i j => .bl (decide (i ≤ j))) leD := opd_B
theorem opd_gt : OpD K (rI0 fun i j => .bl (decide (j < i))) (cmpD fun i j => decide (j < i)) := opd_B
theorem opd_ge : OpD K (rI0 fun i j => .bl (decide (j ≤ i))) geD := opd_B
end
/-! ### zip, enumerate, list(range) -/
def zipD (a b : List D) : List D := List.zipWith (fun x y => D.tup [x, y]) a b
def wiZip (w : DWA) : DWI := fun ρ S P E => w ρ S (fun ds S1 => match ds with
  | [.lst a, .lst b] => P (zipD a b) none S1
  | [.tup a, .tup b] => P (zipD a b) none S1
  | _ => False) E
section
variable {K : PySem.W.Frag} {M : Addr → Prop} {mu : List Addr} {H : Hp} {S : Sto}
theorem zip_at {a b : List D} {i : Nat} {d : D} (h : (zipD a b)[i]? = some d) : ∃ x y, a[i]? = some x ∧ b[i]? = some y ∧ d = .tup [x, y] := by
  unfold zipD at h
  rw [List.getElem?_zipWith] at h
  cases e1 : a[i]? with
  | none => rw [e1] at h; cases h
  | some x =>
    cases e2 : b[i]? with
    | none => rw [e1, e2] at h; cases h
    | some y => rw [e1, e2] at h; exact ⟨x, y, rfl, rfl, (Option.some.inj h).symm⟩
theorem zip_end {a b : List D} {i : Nat} (h : (zipD a b).length ≤ i) : a.length ≤ i ∨ b.length ≤ i := by
  unfold zipD at h
  rw [List.length_zipWith] at h
  omega
theorem new2 (ok : Wok K M mu H S) {T : Addr} (hT : H T = none) {d1 d2 : D} {x1 x2 : V} (r1 : R K M mu H d1 x1) (r2 : R K M mu H d2 x2) : Keep mu H (upd H T (.tup [x1, x2])) ∧ Wok K M mu (upd H T (.tup [x1, x2])) S ∧ R K M mu (upd H T (.tup [x1, x2])) (.tup [d1, d2]) (.ref T) :=
  let ⟨ok2, k2, _⟩ := ok.alloc hT (.tup [x1, x2])
  ⟨k2, ok2, newT ok hT (ds := [d1, d2]) ⟨x1, [x2], rfl, r1, x2, [], rfl, r2, rfl⟩⟩
theorem itOk_zip {a b : Addr} {vs us : List V} {ds es : List D} (hm : ¬ M a) (ha : H a = some (.lst vs)) (r : Rs K M mu H ds vs) (hm2 : ¬ M b) (hb : H b = some (.lst us)) (r2 : Rs K M mu H es us) : ItOk K (Itz K a b) M mu H (zipD ds es) none := fun M' mu' H' S' ex ok _ i => by
  have h1 := (ex.toExt0.okM hm ha).2
  have h2 := (ex.toExt0.okM hm2 hb).2
  have r1' := Rs.mono ex.toExt0 _ _ r
  have r2' := Rs.mono ex.toExt0 _ _ r2
  refine ⟨fun d hd => ?_, fun hi => ⟨vs, us, SqL.of h1, SqL.of h2, ?_⟩⟩
  · obtain ⟨d1, d2, g1, g2, rfl⟩ := zip_at hd
    obtain ⟨v, hv, rv⟩ := r1'.get g1
    obtain ⟨u, hu, ru⟩ := r2'.get g2
    refine ⟨⟨vs, us, v, u, SqL.of h1, SqL.of h2, hv, hu⟩, fun x H2 y => ?_⟩
    obtain ⟨T, x1, x2, rfl, nT, rfl, y1, y2⟩ := y
    obtain rfl : v = x1 := Option.some.inj (hv.symm.trans (y1 vs (SqL.of h1)))
    obtain rfl : u = x2 := Option.some.inj (hu.symm.trans (y2 us (SqL.of h2)))
    exact new2 ok nT rv ru
  · rw [← r.len, ← r2.len]
    exact zip_end hi
theorem itOk_zipT {a b : Addr} {vs us : List V} {ds es : List D} (ha : (¬ M a ∧ H a = some (.tup vs)) ∨ SqTK K a vs) (r : Rs K M mu H ds vs) (hb : (¬ M b ∧ H b = some (.tup us)) ∨ SqTK K b us) (r2 : Rs K M mu H es us) : ItOk K (RZ.ItzT K a b) M mu H (zipD ds es) none := fun M' mu' H' S' ex ok _ i => by
  have h1 : SqT K H' a vs := ha.elim (fun q => SqT.of (ex.toExt0.okM q.1 q.2).2) fun q => q.to
  have h2 : SqT K H' b us := hb.elim (fun q => SqT.of (ex.toExt0.okM q.1 q.2).2) fun q => q.to
  have r1' := Rs.mono ex.toExt0 _ _ r
  have r2' := Rs.mono ex.toExt0 _ _ r2
  refine ⟨fun d hd => ?_, fun hi => ⟨vs, us, h1, h2, ?_⟩⟩
  · obtain ⟨d1, d2, g1, g2, rfl⟩ := zip_at hd
    obtain ⟨v, hv, rv⟩ := r1'.get g1
    obtain ⟨u, hu, ru⟩ := r2'.get g2
    refine ⟨⟨vs, us, v, u, h1, h2, hv, hu⟩, fun x H2 y => ?_⟩
    obtain ⟨T, x1, x2, rfl, nT, rfl, y1, y2⟩ := y
    obtain rfl : v = x1 := Option.some.inj (hv.symm.trans (y1 vs h1))
    obtain rfl : u = x2 := Option.some.inj (hu.symm.trans (y2 us h2))
    exact new2 ok nT rv ru
  · rw [← r.len, ← r2.len]
    exact zip_end hi
end
section
variable {X : Cx} {W : WX} {e e2 : Expr} {w : DWA} {we : DW} {p p2 pos tpos : Pos} {elts : List Expr} {kk : Nat}
theorem di_zip (hg : Gl X "zip") (hm : X.mg "zip" = none) (ha : DA X W [e, e2] w) (hs : starEach [e, e2] X.env = (false, eval e X.env) :: starEach [e2] X.env := by rfl) (hpl : (backTo pos (starEach [e2] X.env)).any (·.1) = false := by rfl) : DI X W (.Tuple elts kk tpos) (.Call (.Name "zip" p) [e, e2] [] pos) (wiZip w) := by
  obtain ⟨_, pa, ra⟩ := ha.ex
  refine ⟨_, RZ.pi_zipA hg hm pa hs hpl, ⟨fun M mu σ ρ S H P E Q ok en hw n x => ?_⟩⟩
  refine ra.run M mu σ ρ S H _ E _ ok en hw (fun vs H1 ds S1 k1 ok1 r1 h1 => ?_) x
  split at h1
  · obtain ⟨v, u, rfl, ⟨a, vs, rfl, hm1, ha1, rr1⟩, ⟨b, us, rfl, hm2, hb1, rr2⟩⟩ := Rs.two r1
    exact ⟨a, b, vs, us, rfl, .inl ⟨SqL.of ha1, SqL.of hb1, n _ H1 _ none S1 k1 ok1 (itOk_zip hm1 ha1 rr1 hm2 hb1 rr2) True.intro h1⟩⟩
  · obtain ⟨v, u, rfl, ⟨a, vs, rfl, ha1, rr1⟩, ⟨b, us, rfl, hb1, rr2⟩⟩ := Rs.two r1
    exact ⟨a, b, vs, us, rfl, .inr ⟨ha1.elim (fun q => SqT.of q.2) fun q => q.to, hb1.elim (fun q => SqT.of q.2) fun q => q.to, n _ H1 _ none S1 k1 ok1 (itOk_zipT ha1 rr1 hb1 rr2) True.intro h1⟩⟩
  · exact h1.elim
/-- list(range(n)) -/
def wLstRg (we : DW) : DW := fun ρ S P E => we ρ S (fun d S1 => match d with
  | .int n => (-1000000 ≤ n ∧ n ≤ 1000000) ∧ P (.lst (rangeD 0 n.toNat)) S1
  | _ => False) E
theorem rs_range {K : PySem.W.Frag} {M : Addr → Prop} {mu : List Addr} {H : Hp} : ∀ (l : List Nat) (lo : Int), Rs K M mu H (l.map fun i => D.int (lo + (i : Nat))) (l.map fun i => V.int (lo + (i : Nat)))
  | [], _ => rfl
  | x :: l, lo => ⟨_, _, rfl, rfl, rs_range l lo⟩
theorem de_listRg1 {pr : Pos} (hm : X.mg "list" = none) (hm2 : X.mg "range" = none) (he : DE X W e we) (hc : X.calm = true := by rfl) (hg : Gl X "list" := by rfl) (hg2 : Gl X "range" := by rfl) (na1 : starEach [e] X.env = (false, eval e X.env) :: starEach [] X.env := by rfl)
    (na : starEach [.Call (.Name "range" pr) [e] [] p2] X.env = (false, eval (.Call (.Name "range" pr) [e] [] p2) X.env) :: starEach [] X.env := by rfl) : DE X W (.Call (.Name "list" p) [.Call (.Name "range" pr) [e] [] p2] [] pos) (wLstRg we) := by
  obtain ⟨_, pa, ra⟩ := he.ex
  refine ⟨_, pe_listRg hc hg hm (prg_1 hg2 hm2 pa na1) na, ⟨fun M mu σ ρ S H P E Q ok en hw n x => ?_⟩⟩
  refine ra.run M mu σ ρ S H _ E _ ok en hw (fun v H1 d S1 k1 ok1 r1 h1 => ?_) x
  cases d with
  | int i =>
    have h1 : (-1000000 ≤ i ∧ i ≤ 1000000) ∧ P (.lst (rangeD 0 i.toNat)) S1 := h1
    refine ⟨i, r1, ⟨by omega, by omega, by omega, by omega, by omega⟩, fun q hq => ?_⟩
    obtain ⟨ok2, k2, _⟩ := ok1.alloc hq (.lst (rgV 0 i))
    refine n _ _ _ S1 (k1.trans k2) ok2 (newL ok1 hq ?_) h1.2
    have := rs_range (K := X.K) (M := M) (mu := mu) (H := H1) (List.range i.toNat) 0
    unfold rangeD rgV
    rw [show (i - 0).toNat = i.toNat by omega]
    exact this
  | _ => exact h1.elim
end
/-! ### name = [.. for ..] -/
section
variable {X : Cx} {W : WX} {elt tg iter : Expr} {ifs : List Expr} {scope : Scope} {own : List (Str × Nat)} {pos : Pos} {wi : DWI} {wg : DWG} {wt : DWT} {we : DW} {is : List Nat}
theorem ds_setLc {i : Nat} {y : Str} {py spos : Pos} (hc : X.calm = true) (hN : X.N.Nodup) (hy : X.N[i]? = some y) (hyl : X.env.scope.names.lookup y = some .local)
    (hsw : swapsWith (.ListComp elt [⟨tg, iter, ifs, 0⟩] scope pos) (some (.Name y py)) spos.line X.env = pure true) (hi : DI X W tg iter wi) (ok : BlkOk X.N X.env.scope scope own)
    (hg : ∀ (s : Shared) (H : Hp) (C : Addr) (cl : List (Str × Addr)) (fp : List Addr), DG (X.blk s H scope (compEnvC scope cl C X.env) fp) tg wg is)
    (ht : ∀ (s : Shared) (H : Hp) (C : Addr) (cl : List (Str × Addr)) (fp : List Addr), DTs (X.blk s H scope (compEnvC scope cl C X.env) fp) W0 ifs wt)
    (he : ∀ (s : Shared) (H : Hp) (C : Addr) (cl : List (Str × Addr)) (fp : List Addr), DE (X.blk s H scope (compEnvC scope cl C X.env) fp) W0 elt we)
    (his : ∀ i ∈ is, i ∈ own.map (·.2) := by decide) (hs : ∀ x, foldedSetIterable iter X.env x = pure x := by intro _; rfl) :
    DS X W (.Assign [.Name y py] (.ListComp elt [⟨tg, iter, ifs, 0⟩] scope pos) spos) (wsSet i (wLc wi wg wt we (own.map (·.2)))) := by
  obtain ⟨ti, pi, ri⟩ := hi.ex
  have r := rd_lc ri (rd_gOf (K := X.K) (wg := wg)) his (rd_ttOf (w := wt)) (rd_tOf (w := we))
  exact ⟨_, ps_setLc hc hN hy hyl hsw pi ok (fun s H C cl fp => (hg s H C cl fp).can) (fun s H C cl fp => (ht s H C cl fp).can) (fun s H C cl fp => (he s H C cl fp).can) hs,
    ⟨fun M mu σ ρ S H D D' ok en hw n => r.run M mu σ ρ S H _ _ _ ok en hw (fun v H' d S' k ok' r' h => n.nx M mu _ _ S' H' (.of ok.sub k) ok' ((en.keep ok k).set r') h) (n.exc ok.sub σ)⟩⟩
end
/-! ### a fresh list as a cell -/
def NrmF (K : PySem.W.Frag) (M : Addr → Prop) (mu : List Addr) (H : Hp) (P : List D → Sto → Prop) (Q : VK) : Prop := ∀ p vs H' ds S', H p = none → Keep mu H H' → H' p = some (.lst vs) → Wok K (fun a => M a ∨ a = p) mu H' S' → Rs K (fun a => M a ∨ a = p) mu H' ds vs → P ds S' → Q (.ref p) H'
abbrev DSpF := List D → Sto → (List D → Sto → Prop) → Ex → Prop
def toSpF (K : PySem.W.Frag) (sp : DSpF) : Sp := fun vs H Q E => ∃ (M : Addr → Prop) (mu : List Addr) (S : Sto) (ds : List D) (P : List D → Sto → Prop) (Ex : Ex), Wok K M mu H S ∧ Rs K M mu H ds vs ∧ sp ds S P Ex ∧ NrmF K M mu H P Q ∧ Exc K M mu H Ex (fun C d H' => E C d H')
structure RdF (K : PySem.W.Frag) (W : WX) (t : TE) (w : DWA) : Prop where
  run : ∀ (M : Addr → Prop) (mu : List Addr) (σ : L2.St) (ρ : Loc) (S : Sto) (H : Hp) (P : List D → Sto → Prop) (E : Ex) (Q : VK), Wok K M mu H S → Env K M mu H ρ σ → w ρ S P E → NrmF K M mu H P Q → Exc K M mu H E (fun C d H' => W C d σ H') → t σ H Q
structure DF (X : Cx) (W : WX) (e : Expr) (w : DWA) : Prop where
  ex : ∃ t, PE X e t ∧ RdF X.K W t w
section
variable {K : PySem.W.Frag} {M : Addr → Prop} {mu : List Addr} {H H' : Hp} {S : Sto}
/-- the object set aside becomes the store's next cell -/
theorem Wok.push {p : Addr} {vs : List V} {ds : List D} (ok : Wok K (fun a => M a ∨ a = p) mu H S) (np : p ∉ mu) (hp : H p = some (.lst vs)) (r : Rs K (fun a => M a ∨ a = p) mu H ds vs) :
    Wok K (fun a => M a ∨ a = p) (mu ++ [p]) H (S ++ [.lst ds]) ∧ Ext0 (fun a => M a ∨ a = p) mu H (fun a => M a ∨ a = p) (mu ++ [p]) H := by
  have ex : Ext0 (fun a => M a ∨ a = p) mu H (fun a => M a ∨ a = p) (mu ++ [p]) H := ⟨fun _ _ h _ => h, ⟨[p], rfl⟩, fun a h => .inl h⟩
  refine ⟨⟨by simp [ok.len], fun a h => ?_, ?_, ok.tr, fun i a d h1 h2 => ?_⟩, ex⟩
  · rcases List.mem_append.mp h with h | h
    · exact ok.sub a h
    · exact .inr (by simpa using h)
  · rw [List.nodup_append]
    exact ⟨ok.nd, by simp, fun a ha b hb e => np (by
      have hb' : b = p := by simpa using hb
      rw [← hb', ← e]; exact ha)⟩
  · by_cases hi : i < mu.length
    · rw [List.getElem?_append_left hi] at h1
      rw [List.getElem?_append_left (by rw [ok.len]; exact hi)] at h2
      have c := ok.at_ i a d h1 h2
      cases d with
      | lst ds => obtain ⟨vs, h1, h2⟩ := c; exact ⟨vs, h1, Rs.mono ex _ _ h2⟩
      | dct kvs =>
        rcases c with ⟨es, h1, h2, h3⟩ | ⟨es, h1, h2, h3⟩
        · exact .inl ⟨es, h1, h2, Rkv.mono ex _ _ h3⟩
        · exact .inr ⟨es, h1, h2, Rkv.mono ex _ _ h3⟩
      | obj C fs => obtain ⟨dx, gs, h1, h2, h3⟩ := c; exact ⟨dx, gs, h1, h2, Rfs.mono ex _ _ h3⟩
      | _ => exact c
    · have hi' := (List.getElem?_eq_some_iff.mp h1).1
      have e : i = mu.length := by simp at hi'; omega
      subst e
      have h1' : p = a := by simpa using h1
      have h2' : D.lst ds = d := by rw [← ok.len] at h2; simpa using h2
      subst h1' h2'
      exact ⟨vs, hp, Rs.mono ex _ _ r⟩
end
/-- name = a fresh list, held as a cell -/
def wsSetF (i : Nat) (w : DWA) : DWS := fun Y ρ S => w ρ S (fun ds S1 => Y.nx (ρ.set i (some (.loc S1.length))) (S1 ++ [.lst ds])) Y.ex
section
variable {X : Cx} {W : WX} {e : Expr} {es : List Expr} {w : DWA} {pos : Pos}
theorem ds_setF {i : Nat} {x : Str} {pos' : Pos} (hN : X.N.Nodup) (hi : X.N[i]? = some x) (hx : L2.Loc X.env.scope x) (he : DF X W e w) (hs : swapsWith e (some (.Name x pos')) pos.line X.env = pure false := by rfl) (hf : X.fn x = true ∨ X.env.scope.names.lookup x = some .local := by first | exact .inl rfl | exact .inr rfl | assumption) :
    DS X W (.Assign [.Name x pos'] e pos) (wsSetF i w) := by
  obtain ⟨_, p, r⟩ := he.ex
  refine ⟨_, ps_set hN hi hx p hs hf, ⟨fun M mu σ ρ S H D D' ok en hw n => ?_⟩⟩
  refine r.run M mu σ ρ S H _ _ _ ok en hw (fun p vs H' ds S' hp k hp' ok' rr h => ?_) (n.exc ok.sub σ)
  have np : p ∉ mu := fun m => ok.tr p (ok.sub p m) hp
  obtain ⟨ok2, ex2⟩ := ok'.push np hp' rr
  have ex1 : Ext M mu H (fun a => M a ∨ a = p) (mu ++ [p]) H' := ⟨⟨fun b q hb nb => k b q hb fun m => nb (ok.sub b m), ⟨[p], rfl⟩, fun a h => h.imp id fun e => by rw [e]; exact hp⟩, k, fun a h => by
    rcases List.mem_append.mp h with h | h
    · exact .inl h
    · exact .inr (by rw [show a = p by simpa using h]; exact hp), fun a h => .inl h, ok.sub⟩
  refine n.nx _ (mu ++ [p]) _ _ _ H' ex1 ok2 ((en.mono ex1.toExt0).set (d := .loc S'.length) (v := .ref p) ⟨p, rfl, ?_⟩) h
  rw [ok'.len]
  simp
theorem df_lst (hs : DA X W es w) : DF X W (.List es pos) (fun ρ S P E => w ρ S (fun ds S1 => ds.length ≤ 1000000 ∧ P ds S1) E) := by
  obtain ⟨ts, ps, rs⟩ := hs.ex
  refine ⟨_, pe_lst ps, ⟨fun M mu σ ρ S H P E Q ok en hw n x => ?_⟩⟩
  refine rs.run M mu σ ρ S H _ E _ ok en hw (fun vs H1 ds S1 k1 ok1 r1 h1 => ?_) x
  refine ⟨by rw [← r1.len]; exact line_of h1.1, fun p hp => ?_⟩
  obtain ⟨ex, oka⟩ := ok1.aside hp (.lst vs)
  refine n p vs _ ds S1 ?_ (k1.trans ex.keep) upd_same oka (Rs.mono ex.toExt0 _ _ r1) h1.2
  exact (Ext.of ok.sub k1).back hp fun m => ok1.tr p (ok1.sub p m) hp
end
/-- return a fresh list -/
def wsRetF (w : DWA) : DWS := fun Y ρ S => w ρ S Y.rf Y.ex
theorem ds_retF {X : Cx} {W : WX} {e : Expr} {w : DWA} {pos : Pos} (h : DF X W e w) : DS X W (.Return (some e) pos) (wsRetF w) := by
  obtain ⟨_, p, r⟩ := h.ex
  exact ⟨_, ps_ret p, ⟨fun M mu σ ρ S H D D' ok en hw n => r.run M mu σ ρ S H _ _ _ ok en hw (fun p vs H' ds S' hp k hp' ok' rr h =>
    n.rf M mu p vs ds S' H' (.of ok.sub k) hp' hp (fun m => ok.tr p (ok.sub p m) hp) ok' rr h) (n.exc ok.sub σ)⟩⟩
def endsF (n : Nat) (P : List D → Sto → Prop) (E : Ex) : DEnds where
  nx := fun _ _ => False
  rt := fun _ _ => False
  ex := fun c fs S' => S'.length = n ∧ E c fs S'
  rf := fun ds S' => S'.length = n ∧ P ds S'
theorem eok_defF {K : PySem.W.Frag} {M : Addr → Prop} {mu : List Addr} {H : Hp} {S : Sto} {P : List D → Sto → Prop} {Ex : Ex} {Q : VK} {E : XK} (ok : Wok K M mu H S) (n : NrmF K M mu H P Q) (x : Exc K M mu H Ex (fun C d H' => E C d H')) :
    EOk K (fun C d _ H' => E C d H') M mu H (endsF S.length P Ex) { nx := fun _ H' => Q .non H', rt := Q } := by
  have hl := ok.len
  have nil_of : ∀ {l : List Addr} {S' : Sto}, S'.length = S.length → S'.length = (mu ++ l).length → l = [] := fun {l S'} h1 h2 => by
    rw [List.length_append] at h2
    exact List.length_eq_zero_iff.mp (by omega)
  refine ⟨fun _ _ _ _ _ _ _ _ _ h => h.elim, fun _ _ _ _ _ _ _ _ _ h => h.elim, fun _ _ _ _ _ _ _ _ _ h => h.elim, fun _ _ _ _ _ _ _ _ _ h => h.elim, fun M' mu' C d σ' c fs S' H' e ok' xr h => ?_, fun M' mu' p vs ds S' H' e hp hn np ok' r h => ?_⟩
  · obtain ⟨rfl, a, gs, rfl, hm, ha, hnn, hf⟩ := xr
    have k := e.keep
    have up := e.up
    obtain ⟨l, rfl⟩ := e.pre
    obtain rfl := nil_of h.1 ok'.len
    rw [List.append_nil] at ok' hf
    exact x _ _ H' c fs S' k (ok'.less up ok.sub) ⟨rfl, a, gs, rfl, fun m => hm (up a m), ha, hnn, Rfs.mono (ext_less up) _ _ hf⟩ h.2
  · have k := e.keep
    have up := e.up
    obtain ⟨l, rfl⟩ := e.pre
    obtain rfl := nil_of h.1 ok'.len
    rw [List.append_nil] at ok' r
    exact n p vs H' ds S' hn k hp (ok'.less (fun a h => h.imp (up a) id) fun a m => .inl (ok.sub a m)) (Rs.mono (ext_less fun a h => h.imp (up a) id) _ _ r) h.2
/-- what a caller knows of a def that hands back a fresh list -/
def CalFr (P : Program) (w : World) (K : PySem.W.Frag) (mg : Str → Option Value) (base : Heap) (CX : CXT) (k : Nat) (x : Str) (ps : List Str) (sp : DSpF) : Prop := ∃ (f : Addr) (fd : FuncData), FnOk P w K mg base CX k f fd ps (toSpF K sp) ∧ mg x = some (.ref f) ∧ PySem.W.keepIn K (.ref f) = true ∧ Binds K fd ps []
section
variable {X : Cx} {W : WX} {CX : CXT} {j k : Nat} {ps : List Str} {sp : DSpF} {x : Str} {p pos : Pos} {e : Expr} {es : List Expr} {w : DWA}
theorem df_cal (c : CalFr X.prog X.w X.K X.mg X.base CX j x ps sp) (hr : Room k X.A) (hx : ∀ σ, PassesAt CX X σ (WE W σ)) (ha : DA X W (e :: es) w) (hjk : j ≤ k := by first | decide | exact Nat.le_refl _ | omega) (hg : Gl X x := by rfl) (hdb : (x == ("__debug__" : Str)) = false := by decide)
    (he : starEach (e :: es) X.env = (false, eval e X.env) :: starEach es X.env := by rfl) (hpl : (backTo pos (starEach es X.env)).any (·.1) = false := by rfl) : DF X W (.Call (.Name x p) (e :: es) [] pos) (fun ρ S P E => w ρ S (fun ds S1 => sp ds S1 P E) E) := by
  obtain ⟨f, fd, ok, hm, hk, hb⟩ := c
  obtain ⟨_, pa, ra⟩ := ha.ex
  refine ⟨_, pe_callSD ok (hr.mono hjk) hg hm hk hb .nil hx pa hdb he hpl, ⟨fun M mu σ ρ S H P E Q ok en hw n x => ?_⟩⟩
  refine ra.run M mu σ ρ S H _ E _ ok en hw (fun vs H1 ds S1 k1 ok1 r1 h1 => ?_) x
  refine ⟨M, mu, S1, ds, P, E, ok1, by rw [List.append_nil]; exact r1, h1, fun p vs H' ds S' hp k hp' ok' rr h => ?_, x.mono k1⟩
  exact n p vs H' ds S' ((Ext.of ok.sub k1).back hp fun m => ok1.tr p (ok1.sub p m) hp) (k1.trans k) hp' ok' rr h
end
end DL
namespace DL
open PySem PySem.Spec PyProof.Rows L2
section
variable {P : Program} {w : World} {K : PySem.W.Frag} {mg : Str → Option Value} {base : Heap} {x nm : Str} {st : Stmt}
theorem cal_defF {CX : CXT} {N ps : List Str} {k : Nat} {sp : DSpF} {wb : DWS} (I : DefIn K mg x nm st) (sc : FnScope N ps (defScope st))
    (hbd : ∀ (kV doc pm : Value) (an : Option Addr) (cdv ct : Value) (us : List Value), us.length = ps.length → bindArgs (PySem.W.fnOf nm nm (defArgs st) (defBody st) (defScope st) .none kV doc pm an cdv ct) ⟨us, []⟩ = pure (ps.zip us))
    (len : ∀ ds S P E, sp ds S P E → ds.length = ps.length)
    (hb : ∀ (f : Addr) (cdv : Value) (A : Around) (outer : List PySem.Env) (s : Shared) (H : Hp) (E : XK), Room k (A.deeper (envOfC nm (defScope st) s.heap.objs.size f cdv)) → DSs (cxOf CX P w K mg base N nm (defScope st) f cdv A outer s H E) (fun C d _ H' => E C d H') (defBody st) wb)
    (hw : ∀ ds S P E, S.all (lo S.length) = true → sp ds S P E → wb (endsF S.length P E) (startD N.length ds) S) : CalFr P w K mg base CX (k + 1) x ps sp := by
  obtain ⟨f, fd, F, hm⟩ := I
  refine ⟨f, fd, F.ok sc (fun vs H Q E h => ?_) (fun cdv A outer s H vs Q E hr h => ?_), hm, F.kp, F.bindsN hbd⟩
  · obtain ⟨M, mu, S, ds, P, Ex, ok, r, q, _⟩ := h
    rw [← r.len]
    exact len _ _ _ _ q
  · obtain ⟨M, mu, S, ds, P, Ex, ok, r, q, n, xx⟩ := h
    obtain ⟨t, p, rb⟩ := (hb f cdv A outer s H E hr).ex
    exact ⟨t, p, rb.run M mu _ _ S H _ _ ok (env_start r) (hw ds S P Ex ok.scoped q) (eok_defF ok n xx)⟩
end
/-- the built-ins' names are the built-ins' still -/
structure Bn (mg : Str → Option Value) : Prop where
  isinstance : mg "isinstance" = none
  len : mg "len" = none
  int : mg "int" = none
  bool : mg "bool" = none
  str : mg "str" = none
  list : mg "list" = none
  tuple : mg "tuple" = none
  dict : mg "dict" = none
  set : mg "set" = none
  range : mg "range" = none
  zip : mg "zip" = none
  enumerate : mg "enumerate" = none
  abs : mg "abs" = none
  all : mg "all" = none
  any : mg "any" = none
  sorted : mg "sorted" = none
  min : mg "min" = none
  max : mg "max" = none
  sum : mg "sum" = none
  repr : mg "repr" = none
  super : mg "super" = none
/-- of a kind that isinstance is asked of -/
def plainD : D → Bool
  | .non | .bl _ | .int _ | .str _ | .lst _ | .tup _ | .dct _ => true
  | _ => false
theorem plain_val {d : D} {S : Sto} (h : plainD d = true) : val S d = d := by
  cases d <;> first | rfl | cases h
end DL
set_option maxRecDepth 100000
set_option maxHeartbeats 2000000
namespace DL
open PySem PySem.Spec PyProof.Rows L2
/-! ### facts of a head -/
def dvD : He.Dv → Option D
  | .non => some .non
  | .bl b => some (.bl b)
  | .int i => some (.int i)
  | .str s => some (.str s)
  | .ty n => some (.ty n)
  | _ => none
def dvDs : List He.Dv → Option (List D)
  | [] => some []
  | v :: vs => match dvD v, dvDs vs with
    | some d, some ds => some (d :: ds)
    | _, _ => none
theorem rs_dv {K : PySem.W.Frag} {M : Addr → Prop} {mu : List Addr} {H : Hp} : ∀ {vs : List He.Dv} {ds : List D}, dvDs vs = some ds → Rs K M mu H ds (vs.map (He.Dv.v K))
  | [], ds, e => by obtain rfl : ([] : List D) = ds := Option.some.inj e; rfl
  | v :: vs, ds, e => by
    have e' : (match dvD v, dvDs vs with
      | some d, some ds => some (d :: ds)
      | _, _ => none) = some ds := by rw [← e]; rfl
    cases e1 : dvD v with
    | none => rw [e1] at e'; cases e'
    | some d =>
      cases e2 : dvDs vs with
      | none => rw [e1, e2] at e'; cases e'
      | some es =>
        rw [e1, e2] at e'
        obtain rfl : d :: es = ds := Option.some.inj e'
        refine ⟨_, _, rfl, ?_, rs_dv e2⟩
        cases v with
        | non => obtain rfl : D.non = d := Option.some.inj e1; rfl
        | bl b => obtain rfl : D.bl b = d := Option.some.inj e1; rfl
        | int b => obtain rfl : D.int b = d := Option.some.inj e1; rfl
        | str b => obtain rfl : D.str b = d := Option.some.inj e1; rfl
        | ty b => obtain rfl : D.ty b = d := Option.some.inj e1; rfl
        | _ => cases e1
theorem gtup_of {K : PySem.W.Frag} {mg : Str → Option Value} {x : Str} {vs : List He.Dv} {ds : List D} (h : He.tupB K x vs = true) (hm : mg x = some (.ref (He.ga K x))) (e : dvDs vs = some ds) : GTup K mg x ds := by
  refine ⟨_, _, hm, ?_, fun M mu H => rs_dv e⟩
  rcases He.tupB_ok h (fun _ => none) with (q | ⟨o, q⟩) | q
  · cases q
  · cases q
  · exact q
theorem defIn_of {K : PySem.W.Frag} {mg : Str → Option Value} {x nm : Str} {st : Stmt} {f : Addr} (h : ∃ fd, FunD K nm nm (defArgs st) (defBody st) (defScope st) [] [] f fd) (hm : mg x = some (.ref f)) : DefIn K mg x nm st := let ⟨fd, F⟩ := h; ⟨f, fd, F, hm⟩
/-! ### the law -/
/-- the law: at every script of at most 63 ints it gives True -/
def spLaw : DSp := fun ds S P _ => match ds with
  | [.scr ns] => ns.length ≤ 63 ∧ S = [] ∧ P (.bl true) []
  | _ => False
theorem law_sp {K : PySem.W.Frag} {H : Hp} {a : Addr} {ns : List Int} (hl : ns.length ≤ 63) (hO : Only H) (hS : SqL K H a (ns.map V.int)) : toSp K spLaw [.ref a] H (fun v _ => v = .bl true) fun _ _ _ => False := by
  refine ⟨fun _ => False, [], [], [.scr ns], fun d _ => d = .bl true, EF, ⟨rfl, (fun _ h => nomatch h), List.nodup_nil, fun _ h => False.elim h, fun i a d h => by simp at h⟩, ⟨.ref a, [], rfl, ⟨a, rfl, ?_⟩, rfl⟩, ⟨hl, rfl, rfl⟩, fun v H' d S' _ _ r e => ?_, fun _ _ _ _ _ _ _ _ _ h => h⟩
  · rcases hS with (q | ⟨o, q⟩) | q
    · rcases hO a with z | ⟨o, xs, z⟩
      · rw [z] at q; cases q
      · rw [z] at q; cases q
    · exact .inl ⟨fun h => h, o, q⟩
    · exact .inr q
  · subst e
    exact r
/-! ### the bag of the laws: the script's cells, how many were taken, the rest of a great one, the mixed number, the draws -/
def BagOk (b : List D) : Prop := ∃ (cells : List Int) (taken rest mixed draws : Int), b = [.lst (cells.map D.int), .int taken, .int rest, .int mixed, .int draws] ∧ 0 ≤ taken ∧ 0 ≤ rest ∧ 0 ≤ mixed ∧ mixed < 2147483629
def sp_bag : DSpF := fun ds S P _ => match ds with
  | [.scr ns] => ns.length ≤ 63 ∧ ∀ b, BagOk b → P b S
  | _ => False
def sp_pull : DSp := fun ds S P _ => match ds with
  | [.loc i, .int many] => ∃ b, S[i]? = some (.lst b) ∧ BagOk b ∧ 0 < many ∧ many < 10 ^ 1000 ∧ ∀ d b', 0 ≤ d → d < many → BagOk b' → P (.int d) (S.set i (.lst b'))
  | _ => False
def sp_of : DSp := fun ds S P _ => match ds with
  | [.loc i, .lst xs] => ∃ b, S[i]? = some (.lst b) ∧ BagOk b ∧ xs ≠ [] ∧ xs.length < 1000000 ∧ ∀ x b', x ∈ xs → BagOk b' → P x (S.set i (.lst b'))
  | _ => False
def sp_near : DSp := fun ds S P _ => match ds with
  | [.loc i, .int far] => ∃ b, S[i]? = some (.lst b) ∧ BagOk b ∧ 0 ≤ far ∧ far < 10 ^ 900 ∧ ∀ z b', -far ≤ z → z ≤ far → BagOk b' → P (.int z) (S.set i (.lst b'))
  | _ => False
def sp_any : DSp := fun ds S P _ => match ds with
  | [.loc i] => ∃ b, S[i]? = some (.lst b) ∧ BagOk b ∧ ∀ z b', -(10 ^ 30) ≤ z → z ≤ 10 ^ 30 → BagOk b' → P (.int z) (S.set i (.lst b'))
  | _ => False
theorem rt_same {n : Nat} {P : DK} {E : Ex} {d : D} {S : Sto} (hl : S.length = n) (h : P d S) : (endsOf n P E).rt d S := .inl ⟨hl, h⟩
theorem val_at {S : Sto} {i : Nat} {ds : List D} (h : S[i]? = some (.lst ds)) : val S (.loc i) = .lst ds := by
  show cont (S.getD i .non) (.loc i) = _
  rw [List.getD_eq_getElem?_getD, h]
  rfl
theorem get_set {S : Sto} {i : Nat} {d c : D} (h : S[i]? = some d) : (S.set i c)[i]? = some c := List.getElem?_set_self (List.getElem?_eq_some_iff.mp h).1
/-- a loop of a comprehension, its element a value of its item -/
theorem lcW_map {i : Nat} {te : DW} {ρ : Loc} {P : List D → Sto → Prop} {S : Sto} (f : D → D) : ∀ (xs acc : List D), (∀ x ∈ xs, ∀ Q : DK, Q (f x) S → te (ρ.set i (some x)) S Q EF) → acc.length + xs.length ≤ 1000000 → P (acc ++ xs.map f) S → lcW (wgName i) wTYes te ρ P xs acc S
  | [], acc, _, hl, h => ⟨hl, by simpa using h⟩
  | x :: xs, acc, ht, hl, h => by
    refine ⟨by rw [List.length_cons] at hl; omega, ?_⟩
    show (if true = true then te (ρ.set i (some x)) S (fun y S2 => lcW (wgName i) wTYes te ρ P xs (acc ++ [y]) S2) EF else lcW (wgName i) wTYes te ρ P xs acc S)
    rw [if_pos rfl]
    refine ht x (by simp) _ ?_
    exact lcW_map f xs (acc ++ [f x]) (fun y hy => ht y (by simp [hy])) (by rw [List.length_append, List.length_singleton]; rw [List.length_cons] at hl; omega) (by rw [List.append_assoc]; exact h)
theorem v_non {S : Sto} : val S .non = .non := rfl
theorem v_bl {S : Sto} {b : Bool} : val S (.bl b) = .bl b := rfl
theorem v_int {S : Sto} {b : Int} : val S (.int b) = .int b := rfl
theorem v_str {S : Sto} {b : Str} : val S (.str b) = .str b := rfl
theorem v_ty {S : Sto} {b : String} : val S (.ty b) = .ty b := rfl
theorem v_cst {S : Sto} {b : Addr} : val S (.cst b) = .cst b := rfl
theorem v_lst {S : Sto} {b : List D} : val S (.lst b) = .lst b := rfl
theorem v_tup {S : Sto} {b : List D} : val S (.tup b) = .tup b := rfl
theorem v_dct {S : Sto} {b : List (D × D)} : val S (.dct b) = .dct b := rfl
theorem v_obj {S : Sto} {C : Addr} {b : List (Str × D)} : val S (.obj C b) = .obj C b := rfl
theorem v_scr {S : Sto} {b : List Int} : val S (.scr b) = .scr b := rfl
theorem bls_map (f : D → Bool) : ∀ l : List D, blsD (l.map fun d => .bl (f d)) = some (l.map f)
  | [] => rfl
  | d :: l => by
    show (blsD (l.map fun d => .bl (f d))).map (f d :: ·) = _
    rw [bls_map f l]
    rfl
theorem all_map_id (f : D → Bool) : ∀ l : List D, (l.map f).all id = l.all f
  | [] => rfl
  | d :: l => by
    show (f d && (l.map f).all id) = (f d && l.all f)
    rw [all_map_id f l]
theorem at5_0 {a b c d e : D} : atI [a, b, c, d, e] 0 = some a := rfl
theorem at5_1 {a b c d e : D} : atI [a, b, c, d, e] 1 = some b := rfl
theorem at5_2 {a b c d e : D} : atI [a, b, c, d, e] 2 = some c := rfl
theorem at5_3 {a b c d e : D} : atI [a, b, c, d, e] 3 = some d := rfl
theorem at5_4 {a b c d e : D} : atI [a, b, c, d, e] 4 = some e := rfl
theorem ix5_1 : ixN 5 1 = some 1 := rfl
theorem ix5_2 : ixN 5 2 = some 2 := rfl
theorem ix5_3 : ixN 5 3 = some 3 := rfl
theorem ix5_4 : ixN 5 4 = some 4 := rfl
theorem at2_0 {a b : D} : atI [a, b] 0 = some a := rfl
theorem at2_1 {a b : D} : atI [a, b] 1 = some b := rfl
theorem at3_0 {a b c : D} : atI [a, b, c] 0 = some a := rfl
theorem at3_1 {a b c : D} : atI [a, b, c] 1 = some b := rfl
theorem at3_2 {a b c : D} : atI [a, b, c] 2 = some c := rfl
theorem at_in {α : Type} {l : List α} {z : Int} (h0 : 0 ≤ z) (h1 : z < l.length) : ∃ x, x ∈ l ∧ atI l z = some x := by
  obtain ⟨n, rfl⟩ : ∃ n : Nat, z = n := ⟨z.toNat, by omega⟩
  have hn : n < l.length := by omega
  exact ⟨l[n], List.getElem_mem hn, atI_nat (List.getElem?_eq_getElem hn)⟩
/-! ### kinds -/
def kdInt : D → Bool
  | .int _ | .bl _ => true
  | _ => false
def kdBl : D → Bool
  | .bl _ => true
  | _ => false
def kdStr : D → Bool
  | .str _ => true
  | _ => false
def kdLst : D → Bool
  | .lst _ => true
  | _ => false
def kdTup : D → Bool
  | .tup _ => true
  | _ => false
theorem isi_int {d : D} (h : plainD d = true) : isiN d "int" = some (kdInt d) := by cases d <;> first | rfl | cases h
theorem isi_bl {d : D} (h : plainD d = true) : isiN d "bool" = some (kdBl d) := by cases d <;> first | rfl | cases h
theorem isi_str {d : D} (h : plainD d = true) : isiN d "str" = some (kdStr d) := by cases d <;> first | rfl | cases h
theorem isi_lst {d : D} (h : plainD d = true) : isiN d "list" = some (kdLst d) := by cases d <;> first | rfl | cases h
theorem isi_tup {d : D} (h : plainD d = true) : isiN d "tuple" = some (kdTup d) := by cases d <;> first | rfl | cases h
/-! ### _law_same: equal and of the same kinds, part by part -/
mutual
/-- plain all through -/
def deep : D → Bool
  | .non | .bl _ | .int _ | .str _ => true
  | .lst ds => decide (ds.length ≤ 1000000) && deeps ds
  | .tup ds => decide (ds.length ≤ 1000000) && deeps ds
  | _ => false
def deeps : List D → Bool
  | [] => true
  | d :: ds => deep d && deeps ds
end
mutual
def same : D → D → Bool
  | .lst a, .lst b => sames a b
  | .tup a, .tup b => sames a b
  | .non, .non => true
  | .bl a, .bl b => decide (a = b)
  | .int a, .int b => decide (a = b)
  | .str a, .str b => decide (a = b)
  | _, _ => false
def sames : List D → List D → Bool
  | [], [] => true
  | a :: as, b :: bs => same a b && sames as bs
  | _, _ => false
end
mutual
theorem same_refl : ∀ d : D, deep d = true → same d d = true
  | .non, _ => rfl
  | .bl b, _ => by simp [same]
  | .int b, _ => by simp [same]
  | .str b, _ => by simp [same]
  | .lst ds, h => sames_refl ds (and_tt h).2
  | .tup ds, h => sames_refl ds (and_tt h).2
  | .ty _, h => by cases h
  | .cst _, h => by cases h
  | .loc _, h => by cases h
  | .scr _, h => by cases h
  | .dct _, h => by cases h
  | .obj _ _, h => by cases h
theorem sames_refl : ∀ ds : List D, deeps ds = true → sames ds ds = true
  | [], _ => rfl
  | d :: ds, h => tt_and (same_refl d (and_tt h).1) (sames_refl ds (and_tt h).2)
end
mutual
def dep : D → Nat
  | .lst ds => deps ds + 1
  | .tup ds => deps ds + 1
  | _ => 0
def deps : List D → Nat
  | [] => 0
  | d :: ds => max (dep d) (deps ds)
end
def sp_same (n : Nat) : DSp := fun ds S P _ => match ds with
  | [x, y] => deep x = true ∧ deep y = true ∧ dep y ≤ n ∧ P (.bl (same x y)) S
  | _ => False
end DL
set_option maxRecDepth 100000
namespace DL
open PySem PySem.Spec PyProof.Rows L2
/-! the combinators applied, one step each: for simp from the head on -/
theorem wC_ap  {d : D} {z0} {S} {P} {z3} : wC d z0 S P z3 = (P d S) := rfl
theorem wNil_ap  {z0} {S} {P} {z3} : wNil  z0 S P z3 = (P [] S) := rfl
theorem wCons_ap  {wa : DW} {w : DWA} {ρ} {S} {P} {E} : wCons wa w ρ S P E = (wa ρ S (fun x S1 => w ρ S1 (fun xs S2 => P (x :: xs) S2) E) E) := rfl
theorem wLst_ap  {w : DWA} {ρ} {S} {P} {E} : wLst w ρ S P E = (w ρ S (fun ds S1 => ds.length ≤ 1000000 ∧ P (.lst ds) S1) E) := rfl
theorem wTup_ap  {w : DWA} {ρ} {S} {P} {E} : wTup w ρ S P E = (w ρ S (fun ds S1 => ds.length ≤ 1000000 ∧ P (.tup ds) S1) E) := rfl
theorem wOp_ap  {f : DF2} {wa wb : DW} {ρ} {S} {P} {E} : wOp f wa wb ρ S P E = (wa ρ S (fun x S1 => wb ρ S1 (fun y S2 => f x y S2 P) E) E) := rfl
theorem wB_ap  {w : DW} {ρ} {S} {P} {E} : wB w ρ S P E = (w ρ S (fun x S1 => match x with
  | .bl k => P k S1
  | _ => False) E) := rfl
theorem wUn_ap  {f : D → Sto → DK → Prop} {wa : DW} {ρ} {S} {P} {E} : wUn f wa ρ S P E = (wa ρ S (fun x S1 => f x S1 P) E) := rfl
theorem wCB_ap  {f : DFn} {w : DWA} {ρ} {S} {P} {E} : wCB f w ρ S P E = (w ρ S (fun xs S1 => f xs S1 P) E) := rfl
theorem wCall_ap  {sp : DSp} {dd : List D} {w : DWA} {ρ} {S} {P} {E} : wCall sp dd w ρ S P E = (w ρ S (fun ds S1 => sp (ds ++ dd) S1 P E) E) := rfl
theorem wCallK_ap  {sp : DSp} {n m : Nat} {w wk : DWA} {ρ} {S} {P} {E} : wCallK sp n m w wk ρ S P E = (w ρ S (fun ds S1 => wk ρ S1 (fun es S2 => ds.length = n ∧ es.length = m ∧ sp (ds ++ es) S2 P E) E) E) := rfl
theorem wSl_ap  {wa : DW} {wl wh : DWO} {ρ} {S} {P} {E} : wSl wa wl wh ρ S P E = (wa ρ S (fun x S1 => wl ρ S1 (fun l S2 => wh ρ S2 (fun u S3 => sliceD x l u S3 P) E) E) E) := rfl
theorem wPart_ap  {w : DW} {ρ} {S} {P} {E} : wPart w ρ S P E = (w ρ S (fun x S1 => match x with
  | .int i => P (some i) S1
  | _ => False) E) := rfl
theorem wNoPart_ap  {z0} {S} {P} {z3} : wNoPart  z0 S P z3 = (P none S) := rfl
theorem wAndT_ap  {a b : DWT} {ρ} {S} {P} {E} : wAndT a b ρ S P E = (a ρ S (fun k S1 => if k = true then b ρ S1 P E else P false S1) E) := rfl
theorem wOrT_ap  {a b : DWT} {ρ} {S} {P} {E} : wOrT a b ρ S P E = (a ρ S (fun k S1 => if k = true then P true S1 else b ρ S1 P E) E) := rfl
theorem wNotT_ap  {a : DWT} {ρ} {S} {P} {E} : wNotT a ρ S P E = (a ρ S (fun k S1 => P (!k) S1) E) := rfl
theorem wAndV_ap  {a b : DW} {ρ} {S} {P} {E} : wAndV a b ρ S P E = (a ρ S (fun x S1 => match x with
  | .bl k => if k = true then b ρ S1 P E else P (.bl false) S1
  | _ => False) E) := rfl
theorem wOrV_ap  {a b : DW} {ρ} {S} {P} {E} : wOrV a b ρ S P E = (a ρ S (fun x S1 => match x with
  | .bl k => if k = true then P (.bl true) S1 else b ρ S1 P E
  | _ => False) E) := rfl
theorem wIf_ap  {t : DWT} {a b : DW} {ρ} {S} {P} {E} : wIf t a b ρ S P E = (t ρ S (fun k S1 => if k = true then a ρ S1 P E else b ρ S1 P E) E) := rfl
theorem wTru_ap  {w : DW} {ρ} {S} {P} {E} : wTru w ρ S P E = (w ρ S (fun x S1 => truD x S1 P) E) := rfl
theorem wLc_ap  {wi : DWI} {g : DWG} {tt : DWT} {te : DW} {vs : List Nat} {ρ} {S} {P} {E} : wLc wi g tt te vs ρ S P E = (wi ρ S (fun items src S1 => (match src with
  | none => True
  | some _ => False) ∧ lcW g tt te (wD ρ vs) (fun ds S2 => P (.lst ds) S2) items [] S1) E) := rfl
theorem wiSeq_ap  {w : DW} {ρ} {S} {P} {E} : wiSeq w ρ S P E = (w ρ S (fun d S1 => match d with
  | .lst ds => P ds none S1
  | .tup ds => P ds none S1
  | .loc i => (match val S1 (.loc i) with
    | .lst ds => P ds (some i) S1
    | _ => False)
  | _ => False) E) := rfl
theorem wiRng1_ap  {w : DWA} {ρ} {S} {P} {E} : wiRng1 w ρ S P E = (w ρ S (fun ds S1 => match ds with
  | [.int j] => (-1000000 ≤ j ∧ j ≤ 1000000) ∧ P (rangeD 0 j.toNat) none S1
  | _ => False) E) := rfl
theorem wiRng2_ap  {w : DWA} {ρ} {S} {P} {E} : wiRng2 w ρ S P E = (w ρ S (fun ds S1 => match ds with
  | [.int i, .int j] => (-1000000 ≤ i ∧ i ≤ 1000000 ∧ -1000000 ≤ j ∧ j ≤ 1000000) ∧ P (rangeD i (j - i).toNat) none S1
  | _ => False) E) := rfl
theorem wiZip_ap  {w : DWA} {ρ} {S} {P} {E} : wiZip w ρ S P E = (w ρ S (fun ds S1 => match ds with
  | [.lst a, .lst b] => P (zipD a b) none S1
  | [.tup a, .tup b] => P (zipD a b) none S1
  | _ => False) E) := rfl
theorem wLstRg_ap  {we : DW} {ρ} {S} {P} {E} : wLstRg we ρ S P E = (we ρ S (fun d S1 => match d with
  | .int n => (-1000000 ≤ n ∧ n ≤ 1000000) ∧ P (.lst (rangeD 0 n.toNat)) S1
  | _ => False) E) := rfl
theorem wTYes_ap  {z0} {S} {P} {z3} : wTYes  z0 S P z3 = (P true S) := rfl
theorem wsNext_ap  {D} {ρ} {S} : wsNext  D ρ S = (D.nx ρ S) := rfl
theorem wsSeq_ap  {a b : DWS} {D} {ρ} {S} : wsSeq a b D ρ S = (a { D with nx := b D } ρ S) := rfl
theorem wsRet_ap  {w : DW} {D} {ρ} {S} : wsRet w D ρ S = (w ρ S D.rt D.ex) := rfl
theorem wsRetN_ap  {D} {z1} {S} : wsRetN  D z1 S = (D.rt .non S) := rfl
theorem wsRetF_ap  {w : DWA} {Y} {ρ} {S} : wsRetF w Y ρ S = (w ρ S Y.rf Y.ex) := rfl
theorem wsDrop_ap  {w : DW} {D} {ρ} {S} : wsDrop w D ρ S = (w ρ S (fun _ S1 => D.nx ρ S1) D.ex) := rfl
theorem wsIf_ap  {t : DWT} {a b : DWS} {D} {ρ} {S} : wsIf t a b D ρ S = (t ρ S (fun k S1 => if k = true then a D ρ S1 else b D ρ S1) D.ex) := rfl
theorem wsAsg_ap  {w : DW} {g : DWG} {D} {ρ} {S} : wsAsg w g D ρ S = (w ρ S (fun d S1 => g d S1 ρ fun ρ' => D.nx ρ' S1) D.ex) := rfl
theorem wsSet_ap  {i : Nat} {w : DW} {D} {ρ} {S} : wsSet i w D ρ S = (w ρ S (fun d S1 => D.nx (ρ.set i (some d)) S1) D.ex) := rfl
theorem wsSetF_ap  {i : Nat} {w : DWA} {Y} {ρ} {S} : wsSetF i w Y ρ S = (w ρ S (fun ds S1 => Y.nx (ρ.set i (some (.loc S1.length))) (S1 ++ [.lst ds])) Y.ex) := rfl
theorem wsPar_ap  {is : List Nat} {w : DWA} {D} {ρ} {S} : wsPar is w D ρ S = (w ρ S (fun ds S1 => ds.length = is.length ∧ D.nx ((is.zip ds).foldl (fun r p => r.set p.1 (some p.2)) ρ) S1) D.ex) := rfl
theorem wsStore_ap  {we wo wi : DW} {D} {ρ} {S} : wsStore we wo wi D ρ S = (we ρ S (fun d S1 => wo ρ S1 (fun x S2 => wi ρ S2 (fun y S3 => match x, y with
  | .loc j, .int k => (match val S3 (.loc j) with
    | .lst ds => (match ixN ds.length k with
      | some n => D.nx ρ (S3.set j (.lst (ds.set n d)))
      | none => False)
    | _ => False)
  | _, _ => False) D.ex) D.ex) D.ex) := rfl
theorem wsFor_ap  {wi : DWI} {g : DWG} {tb : DWS} {Y} {ρ} {S} : wsFor wi g tb Y ρ S = (wi ρ S (fun items src S1 => forW g tb Y items src items ρ S1) Y.ex) := rfl
theorem wsBreak_ap  {D} {ρ} {S} : wsBreak  D ρ S = (D.bk ρ S) := rfl
theorem wsCont_ap  {D} {ρ} {S} : wsCont  D ρ S = (D.ct ρ S) := rfl
theorem wgName_ap  {i : Nat} {d} {z1} {ρ} {P} : wgName i d z1 ρ P = (P (ρ.set i (some d))) := rfl
theorem wgNil_ap  {ds} {z1} {ρ} {P} : wgNil  ds z1 ρ P = (ds = [] ∧ P ρ) := rfl
theorem wgCons_ap  {g : DWG} {gs : DWGs} {ds} {S} {ρ} {P} : wgCons g gs ds S ρ P = (match ds with
  | d :: r => g d S ρ fun ρ' => gs r S ρ' P
  | [] => False) := rfl
theorem wgTup_ap  {gs : DWGs} {d} {S} {ρ} {P} : wgTup gs d S ρ P = (match val S d with
  | .tup ds => gs ds S ρ P
  | _ => False) := rfl
theorem wVar_0 {d : D} {ρ : Loc} {S : Sto} {P : DK} {E : Ex} : wVar 0 (some d :: ρ) S P E = P d S := rfl
theorem wVar_s {n : Nat} {x : Option D} {ρ : Loc} {S : Sto} {P : DK} {E : Ex} : wVar (n + 1) (x :: ρ) S P E = wVar n ρ S P E := rfl
theorem wD_nil {ρ : Loc} : wD ρ [] = ρ := rfl
theorem wD_cons {ρ : Loc} {v : Nat} {vs : List Nat} : wD ρ (v :: vs) = (wD ρ vs).set v none := rfl
theorem lcW_nil {g : DWG} {tt : DWT} {te : DW} {ρ : Loc} {P : List D → Sto → Prop} {acc : List D} {S : Sto} : lcW g tt te ρ P [] acc S = (acc.length ≤ 1000000 ∧ P acc S) := rfl
theorem lcW_cons {g : DWG} {tt : DWT} {te : DW} {ρ : Loc} {P : List D → Sto → Prop} {x : D} {xs acc : List D} {S : Sto} : lcW g tt te ρ P (x :: xs) acc S = (acc.length ≤ 1000000 ∧ g x S ρ fun ρ' => tt ρ' S (fun b S1 => if b = true then te ρ' S1 (fun y S2 => lcW g tt te ρ P xs (acc ++ [y]) S2) EF else lcW g tt te ρ P xs acc S1) EF) := rfl
theorem startD_ap {n : Nat} {ds : List D} : startD n ds = ds.map some ++ List.replicate (n - ds.length) none := rfl
end DL
set_option maxRecDepth 100000
namespace DL
open PySem PySem.Spec PyProof.Rows L2
/-- a loop by an invariant over what is left -/
theorem for_inv {g : DWG} {tb : DWS} {Y : DEnds} {all : List D} (J : List D → Loc → Sto → Prop)
    (hs : ∀ x xs ρ S, J (x :: xs) ρ S → ∀ nx : Loc → Sto → Prop, (∀ ρ' S', J xs ρ' S' → nx ρ' S') → g x S ρ fun ρ' => tb { Y with nx := nx, ct := nx, bk := Y.nx } ρ' S)
    (he : ∀ ρ S, J [] ρ S → Y.nx ρ S) : ∀ xs ρ S, J xs ρ S → forW g tb Y all none xs ρ S
  | [], ρ, S, h => ⟨True.intro, he ρ S h⟩
  | x :: xs, ρ, S, h => ⟨True.intro, hs x xs ρ S h _ fun ρ' S' h' => for_inv J hs he xs ρ' S' h'⟩
theorem cut63 {ns : List Int} (h : ns.length ≤ 63) : cutD (ns.map D.int) none (some 63) = ns.map D.int := by
  have h1 : HT.sIx (ns.map D.int).length 0 none = 0 := rfl
  have h2 : (ns.map D.int).length ≤ HT.sIx (ns.map D.int).length (ns.map D.int).length (some 63) := by
    rw [List.length_map]
    unfold HT.sIx
    first | omega | (simp; omega) | (split <;> omega)
  unfold cutD
  rw [h1, List.drop_zero, Nat.sub_zero, List.take_of_length_le h2]
theorem mulC {i j : Int} (h : j.natAbs < 2 ^ 64) : MulOk i j := .inr (.inl h)
theorem mulC1 {i j : Int} (h : i.natAbs < 2 ^ 64) : MulOk i j := .inl h
end DL
namespace DL
open PySem PySem.Spec PyProof.Rows L2
theorem val_set {S : Sto} {i : Nat} {ds : List D} (h : i < S.length) : val (S.set i (.lst ds)) (.loc i) = .lst ds := val_at (List.getElem?_set_self h)
theorem set_set {S : Sto} {i : Nat} {a b : D} : (S.set i a).set i b = S.set i b := by simp
theorem lt_at {S : Sto} {i : Nat} {d : D} (h : S[i]? = some d) : i < S.length := (List.getElem?_eq_some_iff.mp h).1
end DL
namespace DL
open PySem PySem.Spec PyProof.Rows L2
/-- a step, what it reaches told -/
theorem ws_join {a b : DWS} {Y : DEnds} {ρ : Loc} {S : Sto} (J : Loc → Sto → Prop) (h1 : ∀ nx : Loc → Sto → Prop, (∀ ρ' S', J ρ' S' → nx ρ' S') → a { Y with nx := nx } ρ S) (h2 : ∀ ρ' S', J ρ' S' → b Y ρ' S') : wsSeq a b Y ρ S := h1 _ h2
end DL
namespace DL
open PySem PySem.Spec PyProof.Rows L2
/-! tables -/
theorem is_non_int : isiN .non "int" = some false := rfl
theorem is_bl_int {b : Bool} : isiN (.bl b) "int" = some true := rfl
theorem is_int_int {b : Int} : isiN (.int b) "int" = some true := rfl
theorem is_str_int {b : Str} : isiN (.str b) "int" = some false := rfl
theorem is_lst_int {b : List D} : isiN (.lst b) "int" = some false := rfl
theorem is_tup_int {b : List D} : isiN (.tup b) "int" = some false := rfl
theorem is_dct_int {b : List (D × D)} : isiN (.dct b) "int" = some false := rfl
theorem is_non_bool : isiN .non "bool" = some false := rfl
theorem is_bl_bool {b : Bool} : isiN (.bl b) "bool" = some true := rfl
theorem is_int_bool {b : Int} : isiN (.int b) "bool" = some false := rfl
theorem is_str_bool {b : Str} : isiN (.str b) "bool" = some false := rfl
theorem is_lst_bool {b : List D} : isiN (.lst b) "bool" = some false := rfl
theorem is_tup_bool {b : List D} : isiN (.tup b) "bool" = some false := rfl
theorem is_dct_bool {b : List (D × D)} : isiN (.dct b) "bool" = some false := rfl
theorem is_non_str : isiN .non "str" = some false := rfl
theorem is_bl_str {b : Bool} : isiN (.bl b) "str" = some false := rfl
theorem is_int_str {b : Int} : isiN (.int b) "str" = some false := rfl
theorem is_str_str {b : Str} : isiN (.str b) "str" = some true := rfl
theorem is_lst_str {b : List D} : isiN (.lst b) "str" = some false := rfl
theorem is_tup_str {b : List D} : isiN (.tup b) "str" = some false := rfl
theorem is_dct_str {b : List (D × D)} : isiN (.dct b) "str" = some false := rfl
theorem is_non_list : isiN .non "list" = some false := rfl
theorem is_bl_list {b : Bool} : isiN (.bl b) "list" = some false := rfl
theorem is_int_list {b : Int} : isiN (.int b) "list" = some false := rfl
theorem is_str_list {b : Str} : isiN (.str b) "list" = some false := rfl
theorem is_lst_list {b : List D} : isiN (.lst b) "list" = some true := rfl
theorem is_tup_list {b : List D} : isiN (.tup b) "list" = some false := rfl
theorem is_dct_list {b : List (D × D)} : isiN (.dct b) "list" = some false := rfl
theorem is_non_tuple : isiN .non "tuple" = some false := rfl
theorem is_bl_tuple {b : Bool} : isiN (.bl b) "tuple" = some false := rfl
theorem is_int_tuple {b : Int} : isiN (.int b) "tuple" = some false := rfl
theorem is_str_tuple {b : Str} : isiN (.str b) "tuple" = some false := rfl
theorem is_lst_tuple {b : List D} : isiN (.lst b) "tuple" = some false := rfl
theorem is_tup_tuple {b : List D} : isiN (.tup b) "tuple" = some true := rfl
theorem is_dct_tuple {b : List (D × D)} : isiN (.dct b) "tuple" = some false := rfl
theorem lcW_mapG {g : DWG} {te : DW} {ρ : Loc} {P : List D → Sto → Prop} {S : Sto} (f : D → D) : ∀ (xs acc : List D), (∀ x ∈ xs, ∀ Q : DK, Q (f x) S → g x S ρ fun ρ' => te ρ' S Q EF) → acc.length + xs.length ≤ 1000000 → P (acc ++ xs.map f) S → lcW g wTYes te ρ P xs acc S
  | [], acc, _, hl, h => ⟨hl, by simpa using h⟩
  | x :: xs, acc, ht, hl, h => by
    refine ⟨by rw [List.length_cons] at hl; omega, ?_⟩
    refine ht x (by simp) _ ?_
    exact lcW_mapG f xs (acc ++ [f x]) (fun y hy => ht y (by simp [hy])) (by rw [List.length_append, List.length_singleton]; rw [List.length_cons] at hl; omega) (by rw [List.append_assoc]; exact h)
def smP : D → Bool
  | .tup [x, y] => same x y
  | _ => false
theorem sames_zip : ∀ a b : List D, sames a b = (decide (a.length = b.length) && (zipD a b).all smP)
  | [], [] => rfl
  | [], _ :: _ => rfl
  | _ :: _, [] => rfl
  | x :: a, y :: b => by
    show (same x y && sames a b) = (decide ((x :: a).length = (y :: b).length) && (same x y && (zipD a b).all smP))
    rw [sames_zip a b]
    have e : decide ((x :: a).length = (y :: b).length) = decide (a.length = b.length) := by simp
    rw [e]
    cases same x y <;> cases decide (a.length = b.length) <;> rfl
theorem deep_plain {d : D} (h : deep d = true) : plainD d = true := by cases d <;> first | rfl | cases h
theorem deeps_mem : ∀ {l : List D} {d : D}, deeps l = true → d ∈ l → deep d = true
  | x :: l, d, h, hd => by
    rcases List.mem_cons.mp hd with e | e
    · subst e; exact (and_tt h).1
    · exact deeps_mem (and_tt h).2 e
theorem deps_mem : ∀ {l : List D} {d : D}, d ∈ l → dep d ≤ deps l
  | x :: l, d, hd => by
    have e0 : deps (x :: l) = max (dep x) (deps l) := rfl
    rcases List.mem_cons.mp hd with e | e
    · subst e; rw [e0]; exact Nat.le_max_left _ _
    · rw [e0]; exact Nat.le_trans (deps_mem e) (Nat.le_max_right _ _)
theorem zip_mem {a b : List D} {p : D} (h : p ∈ zipD a b) : ∃ x y, p = .tup [x, y] ∧ x ∈ a ∧ y ∈ b := by
  obtain ⟨i, hi⟩ := List.getElem?_of_mem h
  obtain ⟨x, y, h1, h2, rfl⟩ := zip_at hi
  exact ⟨x, y, rfl, List.mem_of_getElem? h1, List.mem_of_getElem? h2⟩
theorem zip_len {a b : List D} (h : a.length ≤ 1000000) : (zipD a b).length ≤ 1000000 := by
  unfold zipD
  rw [List.length_zipWith]
  omega
section
variable {P : Program} {w : World} {K : PySem.W.Frag} {mg : Str → Option Value} {base : Heap} {x nm : Str} {st : Stmt}
/-- a callee that is never reached -/
theorem cal_no {CX : CXT} {ps : List Str} (I : DefIn K mg x nm st)
    (hbd : ∀ (kV doc pm : Value) (an : Option Addr) (cdv ct : Value) (us : List Value), us.length = ps.length → bindArgs (PySem.W.fnOf nm nm (defArgs st) (defBody st) (defScope st) .none kV doc pm an cdv ct) ⟨us, []⟩ = pure (ps.zip us)) : Cal P w K mg base CX 0 x ps (fun _ _ _ _ => False) := by
  obtain ⟨f, fd, F, hm⟩ := I
  exact ⟨f, fd, ⟨⟨fun _ _ _ _ h => (let ⟨_, _, _, _, _, _, _, _, q, _⟩ := h; q.elim), fun _ _ _ _ _ _ _ _ _ _ _ _ _ h => (let ⟨_, _, _, _, _, _, _, _, q, _⟩ := h; q.elim)⟩, hm, F.kp, F.bindsN hbd, let ⟨oc, od, _, _, _, _, _, _, _, osl, _, lk, _⟩ := F.ex; ⟨oc, od, osl, lk⟩⟩⟩
end
end DL
namespace DL
open PySem PySem.Spec PyProof.Rows L2
theorem sp_same_of {n : Nat} {x y : D} {S : Sto} {P : DK} {E : Ex} (hx : deep x = true) (hy : deep y = true) (hd : dep y ≤ n) (e : DL.same x y = true) (h : P (.bl true) S) : sp_same n [x, y] S P E := ⟨hx, hy, hd, by rw [e]; exact h⟩
/-- the same thing twice -/
theorem sp_same_rf {n : Nat} {x y : D} {S : Sto} {P : DK} {E : Ex} (e : x = y) (hy : deep y = true) (hd : dep y ≤ n) (h : P (.bl true) S) : sp_same n [x, y] S P E := by
  subst e
  exact ⟨hy, hy, hd, by rw [same_refl x hy]; exact h⟩
theorem rt0 {P : DK} {E : Ex} {b : Bool} {S : Sto} (h : P (.bl b) []) : (endsOf 0 P E).rt (.bl b) S := .inr ⟨.bl b, rfl, rfl, h⟩
end DL
namespace DL
open PySem PySem.Spec PyProof.Rows L2
theorem truD_non {S : Sto} {P : Bool → Sto → Prop} : truD .non S P = P false S := rfl
theorem truD_bl {k : Bool} {S : Sto} {P : Bool → Sto → Prop} : truD (.bl k) S P = P k S := rfl
theorem truD_int {k : Int} {S : Sto} {P : Bool → Sto → Prop} : truD (.int k) S P = P (k != 0) S := rfl
theorem truD_str {k : Str} {S : Sto} {P : Bool → Sto → Prop} : truD (.str k) S P = (k.length ≤ 1000000 ∧ P ((k.length : Int) != 0) S) := rfl
theorem truD_lst {k : List D} {S : Sto} {P : Bool → Sto → Prop} : truD (.lst k) S P = P (!k.isEmpty) S := rfl
theorem truD_tup {k : List D} {S : Sto} {P : Bool → Sto → Prop} : truD (.tup k) S P = P (!k.isEmpty) S := rfl
section
variable {P : Program} {w : World} {K : PySem.W.Frag} {mg : Str → Option Value} {base : Heap} {CX : CXT} {k : Nat} {x : Str} {ps ks : List Str} {n : Nat}
/-- the promise behind a name of its own, so that no step looks into it -/
theorem hide {sp : DSp} (c : Cal P w K mg base CX k x ps sp) : ∃ sp' : DSp, Cal P w K mg base CX k x ps sp' ∧ ∀ ds S P E, sp ds S P E → sp' ds S P E := ⟨sp, c, fun _ _ _ _ h => h⟩
theorem hideK {sp : DSp} (c : CalK P w K mg base CX k x ps n ks sp) : ∃ sp' : DSp, CalK P w K mg base CX k x ps n ks sp' ∧ ∀ ds S P E, sp ds S P E → sp' ds S P E := ⟨sp, c, fun _ _ _ _ h => h⟩
theorem hideF {sp : DSpF} (c : CalFr P w K mg base CX k x ps sp) : ∃ sp' : DSpF, CalFr P w K mg base CX k x ps sp' ∧ ∀ ds S P E, sp ds S P E → sp' ds S P E := ⟨sp, c, fun _ _ _ _ h => h⟩
end
end DL
set_option maxRecDepth 100000
set_option maxHeartbeats 4000000
namespace LW
open PySem PySem.Spec PyProof.Rows L2 DL
def top (i : Nat) : Stmt := PySem.Challenge.pw_inkfractions_k01_inks_places_edges.main.body.getD i (.Pass ⟨0, 0, 0, 0⟩)
abbrev s_is_number : Stmt := top 3
def d_is_number : He.DefD := ⟨("is_number", none), "is_number", "is_number", defArgs s_is_number, defBody s_is_number, defScope s_is_number, [], []⟩
abbrev s_is_ink : Stmt := top 4
def d_is_ink : He.DefD := ⟨("is_ink", none), "is_ink", "is_ink", defArgs s_is_ink, defBody s_is_ink, defScope s_is_ink, [], []⟩
abbrev s_is_place : Stmt := top 5
def d_is_place : He.DefD := ⟨("is_place", none), "is_place", "is_place", defArgs s_is_place, defBody s_is_place, defScope s_is_place, [], []⟩
abbrev s_is_way : Stmt := top 6
def d_is_way : He.DefD := ⟨("is_way", none), "is_way", "is_way", defArgs s_is_way, defBody s_is_way, defScope s_is_way, [], []⟩
abbrev s_is_edge : Stmt := top 7
def d_is_edge : He.DefD := ⟨("is_edge", none), "is_edge", "is_edge", defArgs s_is_edge, defBody s_is_edge, defScope s_is_edge, [], []⟩
abbrev s_key_of : Stmt := top 8
def d_key_of : He.DefD := ⟨("key_of", none), "key_of", "key_of", defArgs s_key_of, defBody s_key_of, defScope s_key_of, [], []⟩
abbrev s_leads_on : Stmt := top 9
def d_leads_on : He.DefD := ⟨("leads_on", none), "leads_on", "leads_on", defArgs s_leads_on, defBody s_leads_on, defScope s_leads_on, [], []⟩
abbrev s_law_bag : Stmt := top 11
def d_law_bag : He.DefD := ⟨("_law_bag", none), "_law_bag", "_law_bag", defArgs s_law_bag, defBody s_law_bag, defScope s_law_bag, [], []⟩
abbrev s_law_pull : Stmt := top 12
def d_law_pull : He.DefD := ⟨("_law_pull", none), "_law_pull", "_law_pull", defArgs s_law_pull, defBody s_law_pull, defScope s_law_pull, [], []⟩
abbrev s_law_of : Stmt := top 13
def d_law_of : He.DefD := ⟨("_law_of", none), "_law_of", "_law_of", defArgs s_law_of, defBody s_law_of, defScope s_law_of, [], []⟩
abbrev s_law_same : Stmt := top 14
def d_law_same : He.DefD := ⟨("_law_same", none), "_law_same", "_law_same", defArgs s_law_same, defBody s_law_same, defScope s_law_same, [], []⟩
abbrev s_law_primes : Stmt := top 15
def d_law_primes : He.DefD := ⟨("_law_primes", none), "_law_primes", "_law_primes", defArgs s_law_primes, defBody s_law_primes, defScope s_law_primes, [], []⟩
abbrev s_law_near : Stmt := top 16
def d_law_near : He.DefD := ⟨("_law_near", none), "_law_near", "_law_near", defArgs s_law_near, defBody s_law_near, defScope s_law_near, [], []⟩
abbrev s_law_any : Stmt := top 17
def d_law_any : He.DefD := ⟨("_law_any", none), "_law_any", "_law_any", defArgs s_law_any, defBody s_law_any, defScope s_law_any, [], []⟩
abbrev s_law : Stmt := top 18
def d_law : He.DefD := ⟨("law", none), "law", "law", defArgs s_law, defBody s_law, defScope s_law, [], []⟩
def fn : List He.DefD := [d_is_number, d_is_ink, d_is_place, d_is_way, d_is_edge, d_key_of, d_leads_on, d_law_bag, d_law_pull, d_law_of, d_law_same, d_law_primes, d_law_near, d_law_any, d_law]
def fa : List He.Fa := [.glo "WAYS", .glo "PRIMES", .glo "is_number", .glo "is_ink", .glo "is_place", .glo "is_way", .glo "is_edge", .glo "key_of", .glo "leads_on", .glo "_law_bag", .glo "_law_pull", .glo "_law_of", .glo "_law_same", .glo "_law_primes", .glo "_law_near", .glo "_law_any", .glo "law", .free "isinstance", .free "len", .free "int", .free "bool", .free "str", .free "list", .free "tuple", .free "dict", .free "set", .free "range", .free "zip", .free "enumerate", .free "abs", .free "all", .free "any", .free "sorted", .free "min", .free "max", .free "sum", .free "repr", .free "super"]
def ex : PySem.W.Frag → Bool := fun K => He.tupB K "WAYS" [.str "across", .str "up"] && He.tupB K "PRIMES" [.int 2, .int 3, .int 5, .int 7, .int 11, .int 13, .int 17, .int 19, .int 23, .int 29, .int 31, .int 37, .int 41, .int 43, .int 47, .int 53, .int 59, .int 61, .int 67, .int 71, .int 73, .int 79, .int 83, .int 89, .int 97]
abbrev N_is_number : List Str := ["value"]
theorem sc_is_number : FnScope N_is_number ["value"] (defScope s_is_number) := ⟨rfl, rfl, rfl, by decide +kernel, rfl, by decide +kernel, by decide +kernel⟩
abbrev N_is_ink : List Str := ["value"]
theorem sc_is_ink : FnScope N_is_ink ["value"] (defScope s_is_ink) := ⟨rfl, rfl, rfl, by decide +kernel, rfl, by decide +kernel, by decide +kernel⟩
abbrev N_is_place : List Str := ["value", "one"]
theorem sc_is_place : FnScope N_is_place ["value"] (defScope s_is_place) := ⟨rfl, rfl, rfl, by decide +kernel, rfl, by decide +kernel, by decide +kernel⟩
abbrev N_is_way : List Str := ["value"]
theorem sc_is_way : FnScope N_is_way ["value"] (defScope s_is_way) := ⟨rfl, rfl, rfl, by decide +kernel, rfl, by decide +kernel, by decide +kernel⟩
abbrev N_is_edge : List Str := ["value"]
theorem sc_is_edge : FnScope N_is_edge ["value"] (defScope s_is_edge) := ⟨rfl, rfl, rfl, by decide +kernel, rfl, by decide +kernel, by decide +kernel⟩
abbrev N_key_of : List Str := ["place", "order"]
theorem sc_key_of : FnScope N_key_of ["place", "order"] (defScope s_key_of) := ⟨rfl, rfl, rfl, by decide +kernel, rfl, by decide +kernel, by decide +kernel⟩
abbrev N_leads_on : List Str := ["place"]
theorem sc_leads_on : FnScope N_leads_on ["place"] (defScope s_leads_on) := ⟨rfl, rfl, rfl, by decide +kernel, rfl, by decide +kernel, by decide +kernel⟩
abbrev N_law_bag : List Str := ["_law_script", "_law_mixed", "_law_cell"]
theorem sc_law_bag : FnScope N_law_bag ["_law_script"] (defScope s_law_bag) := ⟨rfl, rfl, rfl, by decide +kernel, rfl, by decide +kernel, by decide +kernel⟩
abbrev N_law_pull : List Str := ["_law_bag_here", "_law_many", "_law_cell", "_law_digit", "_law_twice"]
theorem sc_law_pull : FnScope N_law_pull ["_law_bag_here", "_law_many"] (defScope s_law_pull) := ⟨rfl, rfl, rfl, by decide +kernel, rfl, by decide +kernel, by decide +kernel⟩
abbrev N_law_of : List Str := ["_law_bag_here", "_law_some"]
theorem sc_law_of : FnScope N_law_of ["_law_bag_here", "_law_some"] (defScope s_law_of) := ⟨rfl, rfl, rfl, by decide +kernel, rfl, by decide +kernel, by decide +kernel⟩
abbrev N_law_same : List Str := ["_law_found", "_law_due", "_law_a", "_law_b"]
theorem sc_law_same : FnScope N_law_same ["_law_found", "_law_due"] (defScope s_law_same) := ⟨rfl, rfl, rfl, by decide +kernel, rfl, by decide +kernel, by decide +kernel⟩
abbrev N_law_primes : List Str := []
theorem sc_law_primes : FnScope N_law_primes [] (defScope s_law_primes) := ⟨rfl, rfl, rfl, by decide +kernel, rfl, by decide +kernel, by decide +kernel⟩
abbrev N_law_near : List Str := ["_law_bag_here", "_law_far"]
theorem sc_law_near : FnScope N_law_near ["_law_bag_here", "_law_far"] (defScope s_law_near) := ⟨rfl, rfl, rfl, by decide +kernel, rfl, by decide +kernel, by decide +kernel⟩
abbrev N_law_any : List Str := ["_law_bag_here"]
theorem sc_law_any : FnScope N_law_any ["_law_bag_here"] (defScope s_law_any) := ⟨rfl, rfl, rfl, by decide +kernel, rfl, by decide +kernel, by decide +kernel⟩
abbrev N_law : List Str := ["_law_script", "_law_bag_here", "_law_things", "_law_thing", "_law_k", "_law_turn", "_law_a", "_law_b", "_law_way_z", "_law_good", "_law_bad", "_law_found"]
theorem sc_law : FnScope N_law ["_law_script"] (defScope s_law) := ⟨rfl, rfl, rfl, by decide +kernel, rfl, by decide +kernel, by decide +kernel⟩
local macro_rules | `(tactic| walk_at "dl") => `(tactic| simp only [↓wC_ap, ↓wNil_ap, ↓wCons_ap, ↓wLst_ap, ↓wTup_ap, ↓wOp_ap, ↓wB_ap, ↓wUn_ap, ↓wCB_ap, ↓wCall_ap, ↓wCallK_ap, ↓wSl_ap, ↓wPart_ap, ↓wNoPart_ap, ↓wAndT_ap, ↓wOrT_ap, ↓wNotT_ap, ↓wAndV_ap, ↓wOrV_ap, ↓wIf_ap, ↓wTru_ap, ↓wLc_ap, ↓wiSeq_ap, ↓wiRng1_ap, ↓wiRng2_ap, ↓wiZip_ap, ↓wLstRg_ap, ↓wTYes_ap, ↓wsNext_ap, ↓wsSeq_ap, ↓wsRet_ap, ↓wsRetN_ap, ↓wsRetF_ap, ↓wsDrop_ap, ↓wsIf_ap, ↓wsAsg_ap, ↓wsSet_ap, ↓wsSetF_ap, ↓wsPar_ap, ↓wsStore_ap, ↓wsFor_ap, ↓wsBreak_ap, ↓wsCont_ap, ↓wgName_ap, ↓wgNil_ap, ↓wgCons_ap, ↓wgTup_ap, ↓wVar_0, ↓wVar_s, ↓addD, ↓subD, ↓mulD, ↓modD, ↓fdivD, ↓powD, ↓negD, ↓notD, ↓eqD, ↓scalD, ↓inD, ↓isD, ↓ixD, ↓cmpD, ↓leD, ↓geD, ↓gtD, ↓ltD, ↓ordD, ↓lenD, ↓absD, ↓DL.intOfD, ↓listD, ↓allD, ↓isiD, ↓sliceD, ↓truD_non, ↓truD_bl, ↓truD_int, ↓truD_str, ↓truD_lst, ↓truD_tup, List.map_cons, List.map_nil, List.length_cons, List.length_nil, List.replicate, List.cons_append, List.nil_append, List.set_cons_zero, List.set_cons_succ, List.append_nil, List.zip_cons_cons, List.zip_nil_right, List.foldl_cons, List.foldl_nil, Nat.zero_add, Nat.add_zero, Nat.reduceAdd, Nat.reduceSub, Nat.reduceMul, if_true, if_false, Bool.false_eq_true, ite_true, ite_false, v_non, v_bl, v_int, v_str, v_ty, v_cst, v_lst, v_tup, v_dct, v_obj, v_scr, startD_ap, wD_nil, wD_cons, wVar_0, wVar_s, ↓is_non_int, ↓is_bl_int, ↓is_int_int, ↓is_str_int, ↓is_lst_int, ↓is_tup_int, ↓is_dct_int, ↓is_non_bool, ↓is_bl_bool, ↓is_int_bool, ↓is_str_bool, ↓is_lst_bool, ↓is_tup_bool, ↓is_dct_bool, ↓is_non_str, ↓is_bl_str, ↓is_int_str, ↓is_str_str, ↓is_lst_str, ↓is_tup_str, ↓is_dct_str, ↓is_non_list, ↓is_bl_list, ↓is_int_list, ↓is_str_list, ↓is_lst_list, ↓is_tup_list, ↓is_dct_list, ↓is_non_tuple, ↓is_bl_tuple, ↓is_int_tuple, ↓is_str_tuple, ↓is_lst_tuple, ↓is_tup_tuple, ↓is_dct_tuple])
section
variable {P : Program} {w : World} {K : PySem.W.Frag} {mg : Str → Option Value} {base : Heap}
def isNum : D → Bool
  | .int _ => true
  | _ => false
def sp_is_number : DSp := fun ds S P _ => match ds with
  | [x] => plainD x = true ∧ P (.bl (isNum x)) S
  | _ => False
theorem cal_is_number (B : Bn mg) (I : DefIn K mg "is_number" "is_number" s_is_number) : Cal P w K mg base CX0 1 "is_number" ["value"] sp_is_number := by
  refine cal_def I sc_is_number (fun _ _ _ _ _ _ us hl => match us, hl with | [_], _ => rfl) (fun ds S P E h => ?_) (fun f cdv A outer s H E hr => (dss_one (ds_ret (de_and (de_callB (CallR.or call_isi (CallR.or call_isiT call_isiK)) calld_isi rfl B.isinstance bt_isinstance (da_cons (de_var 0 (pv 0)) (da_cons (de_ty rfl B.int bt_int) da_nil))) (de_one (de_not (de_callB (CallR.or call_isi (CallR.or call_isiT call_isiK)) calld_isi rfl B.isinstance bt_isinstance (da_cons (de_var 0 (pv 0)) (da_cons (de_ty rfl B.bool bt_bool) da_nil))))))))) (fun ds S P E hS h => ?_)
  · unfold sp_is_number at h
    split at h
    · rfl
    · exact h.elim
  · unfold sp_is_number at h
    split at h
    · rename_i x
      walk_at "dl"
      simp only [plain_val h.1, isi_int h.1, isi_bl h.1]
      cases x <;> first | (exfalso; exact Bool.false_ne_true h.1) | exact rt_same rfl h.2
    · exact h.elim
def primes : List D := [.int 2, .int 3, .int 5, .int 7, .int 11, .int 13, .int 17, .int 19, .int 23, .int 29, .int 31, .int 37, .int 41, .int 43, .int 47, .int 53, .int 59, .int 61, .int 67, .int 71, .int 73, .int 79, .int 83, .int 89, .int 97]
def isInk : D → Bool
  | .int i => if i = 0 then true else inV (.int i) ((toVs primes).getD [])
  | _ => false
def sp_is_ink : DSp := fun ds S P _ => match ds with
  | [x] => plainD x = true ∧ P (.bl (isInk x)) S
  | _ => False
theorem cal_is_ink (B : Bn mg) (I : DefIn K mg "is_ink" "is_ink" s_is_ink) (c_is_number : Cal P w K mg base CX0 1 "is_number" ["value"] sp_is_number) (g_PRIMES : GTup K mg "PRIMES" primes) : Cal P w K mg base CX0 2 "is_ink" ["value"] sp_is_ink := by
  refine cal_def I sc_is_ink (fun _ _ _ _ _ _ us hl => match us, hl with | [_], _ => rfl) (fun ds S P E h => ?_) (fun f cdv A outer s H E hr => (dss_one (ds_ret (de_and (de_cal c_is_number hr pass00 (da_cons (de_var 0 (pv 0)) da_nil)) (de_one (de_or (de_eq hr.units (de_var 0 (pv 0)) de_int) (de_one (de_cmp op_in_seq opd_in (de_var 0 (pv 0)) (de_gtup g_PRIMES))))))))) (fun ds S P E hS h => ?_)
  · unfold sp_is_ink at h
    split at h
    · rfl
    · exact h.elim
  · unfold sp_is_ink at h
    split at h
    · rename_i x
      walk_at "dl"
      refine ⟨h.1, ?_⟩
      cases x with
      | int i =>
        simp only [isNum, if_true, toV, scalD]
        by_cases hi : i = 0
        · subst hi
          exact rt_same rfl h.2
        · rw [if_neg (by simp [hi])]
          refine rt_same rfl ?_
          have h2 := h.2
          simp only [isInk, if_neg hi] at h2
          exact h2
      | non => exact rt_same rfl h.2
      | bl _ => exact rt_same rfl h.2
      | str _ => exact rt_same rfl h.2
      | lst _ => exact rt_same rfl h.2
      | tup _ => exact rt_same rfl h.2
      | dct _ => exact rt_same rfl h.2
      | _ => exact absurd h.1 Bool.false_ne_true
    · exact h.elim
def isPlace : D → Bool
  | .tup l => decide (l.length = 2) && l.all isNum
  | _ => false
/-- plain, and so are a tuple's items -/
def okV : D → Bool
  | .tup ds => ds.all plainD
  | d => plainD d
theorem okV_plain {d : D} (h : okV d = true) : plainD d = true := by
  cases d <;> first | rfl | exact h
def sp_is_place : DSp := fun ds S P _ => match ds with
  | [x] => okV x = true ∧ (∀ l, x = .tup l → l.length ≤ 1000) ∧ P (.bl (isPlace x)) S
  | _ => False
theorem cal_is_place (B : Bn mg) (I : DefIn K mg "is_place" "is_place" s_is_place) (c_is_number : Cal P w K mg base CX0 1 "is_number" ["value"] sp_is_number) : Cal P w K mg base CX0 2 "is_place" ["value"] sp_is_place := by
  refine cal_def I sc_is_place (fun _ _ _ _ _ _ us hl => match us, hl with | [_], _ => rfl) (fun ds S P E h => ?_) (fun f cdv A outer s H E hr => (dss_one (ds_ret (de_and (de_callB (CallR.or call_isi (CallR.or call_isiT call_isiK)) calld_isi rfl B.isinstance bt_isinstance (da_cons (de_var 0 (pv 0)) (da_cons (de_ty rfl B.tuple bt_tuple) da_nil))) (de_and (de_eq hr.units (de_callB call_len calld_len rfl B.len bt_len (da_cons (de_var 0 (pv 0)) da_nil)) de_int) (de_one (de_callB (cr_all rfl) calld_all rfl B.all bt_all (da_cons (de_lc (own := [("one", 1)]) rfl sc_is_place.nd (di_list (de_var 0 (pv 0))) (blkOk_by (N := N_is_place) (sc := defScope s_is_place) (by decide +kernel)) (fun _ _ _ _ _ => (dg_name (pg_name (i := 1) sc_is_place.nd rfl (by first | exact .inl rfl | exact .inr rfl)))) (fun _ _ _ _ _ => dts_nil) (fun _ _ _ _ _ => (de_cal c_is_number hr pass00 (da_cons (de_var 1 (pv 1)) da_nil)))) da_nil)))))))) (fun ds S P E hS h => ?_)
  · unfold sp_is_place at h
    split at h
    · rfl
    · exact h.elim
  · unfold sp_is_place at h
    split at h
    · rename_i x
      obtain ⟨h1, hl, h2⟩ := h
      have hp := okV_plain h1
      walk_at "dl"
      simp only [plain_val hp, isi_tup hp]
      cases x with
      | tup l =>
        have hl' := hl l rfl
        have ha : l.all plainD = true := h1
        simp only [kdTup, if_true, v_tup, scalD]
        by_cases h2l : l.length = 2
        · rw [if_pos (decide_eq_true (by omega))]
          refine ⟨True.intro, lcW_map (fun d => .bl (isNum d)) l [] (fun x hx Q hq => ?_) (by simp; omega) ?_⟩
          · walk_at "dl"
            exact ⟨List.all_eq_true.mp ha x hx, hq⟩
          · simp only [List.nil_append, bls_map, all_map_id]
            refine rt_same rfl ?_
            have e : isPlace (.tup l) = l.all isNum := by simp [isPlace, h2l]
            rw [e] at h2
            exact h2
        · rw [if_neg (by simp; omega)]
          refine rt_same rfl ?_
          have e : isPlace (.tup l) = false := by simp [isPlace, h2l]
          rw [e] at h2
          exact h2
      | non => exact rt_same rfl h2
      | bl _ => exact rt_same rfl h2
      | str _ => exact rt_same rfl h2
      | lst _ => exact rt_same rfl h2
      | int _ => exact rt_same rfl h2
      | dct _ => exact rt_same rfl h2
      | _ => exact absurd hp Bool.false_ne_true
    · exact h.elim
def ways : List D := [.str "across", .str "up"]
def isWay : D → Bool
  | .str x => inV (.str x) ((toVs ways).getD [])
  | _ => false
def sp_is_way : DSp := fun ds S P _ => match ds with
  | [x] => plainD x = true ∧ P (.bl (isWay x)) S
  | _ => False
theorem cal_is_way (B : Bn mg) (I : DefIn K mg "is_way" "is_way" s_is_way) (g_WAYS : GTup K mg "WAYS" ways) : Cal P w K mg base CX0 1 "is_way" ["value"] sp_is_way := by
  refine cal_def I sc_is_way (fun _ _ _ _ _ _ us hl => match us, hl with | [_], _ => rfl) (fun ds S P E h => ?_) (fun f cdv A outer s H E hr => (dss_one (ds_ret (de_and (de_callB (CallR.or call_isi (CallR.or call_isiT call_isiK)) calld_isi rfl B.isinstance bt_isinstance (da_cons (de_var 0 (pv 0)) (da_cons (de_ty rfl B.str bt_str) da_nil))) (de_one (de_cmp op_in_seq opd_in (de_var 0 (pv 0)) (de_gtup g_WAYS))))))) (fun ds S P E hS h => ?_)
  · unfold sp_is_way at h
    split at h
    · rfl
    · exact h.elim
  · unfold sp_is_way at h
    split at h
    · rename_i x
      walk_at "dl"
      simp only [plain_val h.1, isi_str h.1]
      cases x <;> first | (exfalso; exact Bool.false_ne_true h.1) | exact rt_same rfl h.2
    · exact h.elim
def isEdge : D → Bool
  | .tup [a, b, c] => isPlace (.tup [a, b]) && isWay c
  | _ => false
def sp_is_edge : DSp := fun ds S P _ => match ds with
  | [x] => okV x = true ∧ (∀ l, x = .tup l → l.length ≤ 1000) ∧ P (.bl (isEdge x)) S
  | _ => False
theorem cal_is_edge (B : Bn mg) (I : DefIn K mg "is_edge" "is_edge" s_is_edge) (c_is_place : Cal P w K mg base CX0 2 "is_place" ["value"] sp_is_place) (c_is_way : Cal P w K mg base CX0 1 "is_way" ["value"] sp_is_way) : Cal P w K mg base CX0 3 "is_edge" ["value"] sp_is_edge := by
  refine cal_def I sc_is_edge (fun _ _ _ _ _ _ us hl => match us, hl with | [_], _ => rfl) (fun ds S P E h => ?_) (fun f cdv A outer s H E hr => (dss_one (ds_ret (de_and (de_callB (CallR.or call_isi (CallR.or call_isiT call_isiK)) calld_isi rfl B.isinstance bt_isinstance (da_cons (de_var 0 (pv 0)) (da_cons (de_ty rfl B.tuple bt_tuple) da_nil))) (de_and (de_eq hr.units (de_callB call_len calld_len rfl B.len bt_len (da_cons (de_var 0 (pv 0)) da_nil)) de_int) (de_and (de_cal c_is_place hr pass00 (da_cons (de_slice (de_var 0 (pv 0)) do_none (do_some de_int)) da_nil)) (de_one (de_cal c_is_way hr pass00 (da_cons (de_ix (de_var 0 (pv 0)) de_int) da_nil))))))))) (fun ds S P E hS h => ?_)
  · unfold sp_is_edge at h
    split at h
    · rfl
    · exact h.elim
  · unfold sp_is_edge at h
    split at h
    · rename_i x
      obtain ⟨h1, hl, h2⟩ := h
      have hp := okV_plain h1
      walk_at "dl"
      simp only [plain_val hp, isi_tup hp]
      cases x with
      | tup l =>
        simp only [kdTup, if_true, v_tup, scalD]
        by_cases h3l : l.length = 3
        · rw [if_pos (decide_eq_true (by omega))]
          match l, h3l, h1, h2 with
          | [a, b, c], _, h1, h2 =>
            have ha : ([a, b, c] : List D).all plainD = true := h1
            simp only [List.all_cons, Bool.and_eq_true, List.all_nil] at ha
            have e : cutD [a, b, c] none (some 2) = [a, b] := rfl
            simp only [v_tup, e, sp_is_place]
            refine ⟨?_, fun l hl => ?_, ?_⟩
            · show ([a, b] : List D).all plainD = true
              simp [ha.1, ha.2.1]
            · obtain rfl : [a, b] = l := by injection hl
              simp
            · simp only [at3_2, sp_is_way]
              by_cases hq : isPlace (.tup [a, b]) = true
              · rw [if_pos hq]
                refine ⟨ha.2.2.1, rt_same rfl ?_⟩
                have e2 : isEdge (.tup [a, b, c]) = isWay c := by simp [isEdge, hq]
                rw [e2] at h2
                exact h2
              · rw [if_neg hq]
                refine rt_same rfl ?_
                have e2 : isEdge (.tup [a, b, c]) = false := by simp [isEdge, hq]
                rw [e2] at h2
                exact h2
        · rw [if_neg (by simp; omega)]
          refine rt_same rfl ?_
          have e : isEdge (.tup l) = false := by
            unfold isEdge
            split
            · rename_i h; injection h with h; rw [h] at h3l; exact absurd rfl h3l
            · rfl
          rw [e] at h2
          exact h2
      | non => exact rt_same rfl h2
      | bl _ => exact rt_same rfl h2
      | str _ => exact rt_same rfl h2
      | lst _ => exact rt_same rfl h2
      | int _ => exact rt_same rfl h2
      | dct _ => exact rt_same rfl h2
      | _ => exact absurd hp Bool.false_ne_true
    · exact h.elim
def sp_key_of : DSp := fun ds S P _ => match ds with
  | [.tup [a, b], .str o] => P (.tup (if o = "columns" then [a, b] else [b, a])) S
  | _ => False
theorem cal_key_of (I : DefIn K mg "key_of" "key_of" s_key_of) : Cal P w K mg base CX0 1 "key_of" ["place", "order"] sp_key_of := by
  refine cal_def I sc_key_of (fun _ _ _ _ _ _ us hl => match us, hl with | [_, _], _ => rfl) (fun ds S P E h => ?_) (fun f cdv A outer s H E hr => (dss_one (ds_ret (de_if (dt_eq hr.units (de_var 1 (pv 1)) de_str) (de_tup (da_cons (de_ix (de_var 0 (pv 0)) de_int) (da_cons (de_ix (de_var 0 (pv 0)) de_int) da_nil))) (de_tup (da_cons (de_ix (de_var 0 (pv 0)) de_int) (da_cons (de_ix (de_var 0 (pv 0)) de_int) da_nil))))))) (fun ds S P E hS h => ?_)
  · unfold sp_key_of at h
    split at h
    · rfl
    · exact h.elim
  · unfold sp_key_of at h
    split at h
    · rename_i a b o
      walk_at "dl"
      simp only [at2_0, at2_1, decide_eq_true_eq]
      split
      · rename_i ho
        rw [if_pos ho] at h
        exact ⟨by decide, rt_same rfl h⟩
      · rename_i ho
        rw [if_neg ho] at h
        exact ⟨by decide, rt_same rfl h⟩
    · exact h.elim
def leads (a b : Int) : Bool := if a = 0 then decide (0 < b) else decide (0 < a)
def sp_leads_on : DSp := fun ds S P _ => match ds with
  | [.tup [.int a, .int b]] => P (.bl (leads a b)) S
  | _ => False
theorem cal_leads_on (I : DefIn K mg "leads_on" "leads_on" s_leads_on) (c_key_of : Cal P w K mg base CX0 1 "key_of" ["place", "order"] sp_key_of) : Cal P w K mg base CX0 2 "leads_on" ["place"] sp_leads_on := by
  refine cal_def I sc_leads_on (fun _ _ _ _ _ _ us hl => match us, hl with | [_], _ => rfl) (fun ds S P E h => ?_) (fun f cdv A outer s H E hr => (dss_one (ds_ret (de_cmp (op_gtA hr.units) opd_gtA (de_cal c_key_of hr pass00 (da_cons (de_var 0 (pv 0)) (da_cons de_str da_nil))) (de_tup (da_cons de_int (da_cons de_int da_nil))))))) (fun ds S P E hS h => ?_)
  · unfold sp_leads_on at h
    split at h
    · rfl
    · exact h.elim
  · unfold sp_leads_on at h
    split at h
    · rename_i a b
      walk_at "dl"
      simp only [sp_key_of, if_true]
      refine ⟨by decide, rt_same rfl ?_⟩
      have e : lexI (fun i j => decide (j < i)) (fun a b => decide (b < a)) [a, b] [0, 0] = leads a b := by
        unfold leads lexI
        split
        · unfold lexI
          split
          · rename_i h; subst h; rfl
          · rfl
        · rfl
      rw [← e] at h
      exact h
    · exact h.elim
def things : List D := [.non, .bl true, .str "2", .lst [.int 2], .tup [.int 2], .int (-2), .int 101, .int 121, .int 100000000, .int 0] ++ rangeD 0 100
def bads (a b : Int) (u : Str) : List D := [.lst [.int a, .int b], .tup [.int a], .tup [.int a, .int b, .int a], .tup [.int a, .bl true], .tup [.non, .int b], .tup [.str "1", .int b], .tup [.int a, .int b, .str "Up"], .tup [.int a, .int b, .str "up\n"], .tup [.int a, .int b, .lst [.str "up"]], .tup [.int a, .int b, .non], .lst [.int a, .int b, .str u], .tup [.int a, .bl false, .str u], .int a]
def tupLen : D → Nat
  | .tup l => l.length
  | _ => 0
/-! ### the law's own helpers -/
theorem cal_bag (B : Bn mg) (I : DefIn K mg "_law_bag" "_law_bag" s_law_bag) : CalFr P w K mg base CX0 1 "_law_bag" ["_law_script"] sp_bag := by
  refine cal_defF I sc_law_bag (fun _ _ _ _ _ _ us hl => match us, hl with | [_], _ => rfl) (fun ds S P E h => ?_) (fun f cdv A outer s H E hr => (dss_cons (ds_set (i := 1) sc_law_bag.nd rfl (by first | exact .inl rfl | exact .inr rfl) de_int)
  (dss_cons (ds_for (passes_of rfl) rfl (di_list (de_slice (de_var 0 (pv 0)) do_none (do_some de_int))) (dg_name (pg_name (i := 2) sc_law_bag.nd rfl (by first | exact .inl rfl | exact .inr rfl)))
  (dss_one (ds_set (i := 1) sc_law_bag.nd rfl (by first | exact .inl rfl | exact .inr rfl) (de_op op_mod opd_mod (de_callTy call_int1 calld_int rfl B.int bt_int (da_cons (de_op op_addA opd_add (de_op op_addA opd_add (de_op op_mulA opd_mul (de_var 1 (pv 1)) de_int) (de_op op_mulA opd_mul (de_op op_mod opd_mod (de_callTy call_int1 calld_int rfl B.int bt_int (da_cons (de_var 2 (pv 2)) da_nil)) de_int) de_int)) de_int) da_nil)) de_int))))
  (dss_one (ds_retF (df_lst (da_cons (de_callTy call_list_of calld_list rfl B.list bt_list (da_cons (de_slice (de_var 0 (pv 0)) do_none (do_some de_int)) da_nil)) (da_cons de_int (da_cons de_int (da_cons (de_var 1 (pv 1)) (da_cons de_int da_nil))))))))))) (fun ds S P E hS h => ?_)
  · unfold sp_bag at h
    split at h
    · rfl
    · exact h.elim
  · unfold sp_bag at h
    split at h
    · rename_i ns
      walk_at "dl"
      rw [cut63 h.1]
      refine for_inv (fun l ρ S' => S' = S ∧ (∃ cs : List Int, l = cs.map D.int) ∧ ∃ (m : Int) (o : Option D), 0 ≤ m ∧ m < 2147483563 ∧ ρ = [some (.scr ns), some (.int m), o]) ?_ ?_ _ _ _ ⟨rfl, ⟨_, rfl⟩, _, _, by decide, by decide, rfl⟩
      · rintro x xs ρ S' ⟨rfl, ⟨cs, hc⟩, m, o, h1, h2, rfl⟩ nx hn
        cases cs with
        | nil => cases hc
        | cons c cs =>
          injection hc with e1 e2
          subst e1 e2
          walk_at "dl"
          exact ⟨mulC (by decide), by decide, mulC (by decide), by decide, hn _ _ ⟨rfl, ⟨_, rfl⟩, _, _, by omega, by omega, rfl⟩⟩
      · rintro ρ S' ⟨rfl, _, m, o, h1, h2, rfl⟩
        walk_at "dl"
        rw [cut63 h.1]
        exact ⟨by decide, rfl, h.2 _ ⟨ns, 0, 0, m, 0, rfl, by decide, by decide, h1, by omega⟩⟩
    · exact h.elim
theorem cal_pull (B : Bn mg) (I : DefIn K mg "_law_pull" "_law_pull" s_law_pull) : Cal P w K mg base CX0 1 "_law_pull" ["_law_bag_here", "_law_many"] sp_pull := by
  refine cal_def I sc_law_pull (fun _ _ _ _ _ _ us hl => match us, hl with | [_, _], _ => rfl) (fun ds S P E h => ?_) (fun f cdv A outer s H E hr => (dss_cons (ds_store (de_op op_addA opd_add (de_ix (de_var 0 (pv 0)) de_int) de_int) (de_var 0 (pv 0)) de_int)
  (dss_cons (ds_if (dt_w (dw_and (dt_eq hr.units (de_ix (de_var 0 (pv 0)) de_int) de_int) (dw_and1 (dt_cmp op_lt opd_lt (de_ix (de_var 0 (pv 0)) de_int) (de_callB call_len calld_len rfl B.len bt_len (da_cons (de_ix (de_var 0 (pv 0)) de_int) da_nil)))))) (dss_cons (ds_set (i := 2) sc_law_pull.nd rfl (by first | exact .inl rfl | exact .inr rfl) (de_ix (de_ix (de_var 0 (pv 0)) de_int) (de_ix (de_var 0 (pv 0)) de_int)))
  (dss_cons (ds_store (de_op op_addA opd_add (de_ix (de_var 0 (pv 0)) de_int) de_int) (de_var 0 (pv 0)) de_int)
  (dss_one (ds_if (dt_cmp op_ge opd_ge (de_callB call_abs calld_abs rfl B.abs bt_abs (da_cons (de_var 2 (pv 2)) da_nil)) (de_op op_pow opd_pow de_int de_int)) (dss_one (ds_store (de_callB call_abs calld_abs rfl B.abs bt_abs (da_cons (de_var 2 (pv 2)) da_nil)) (de_var 0 (pv 0)) de_int)) (dss_one (ds_store (de_op op_mod opd_mod (de_callTy call_int1 calld_int rfl B.int bt_int (da_cons (de_op op_addA opd_add (de_op op_addA opd_add (de_op op_mulA opd_mul (de_ix (de_var 0 (pv 0)) de_int) de_int) (de_op op_mulA opd_mul (de_op op_mod opd_mod (de_callTy call_int1 calld_int rfl B.int bt_int (da_cons (de_var 2 (pv 2)) da_nil)) de_int) de_int)) de_int) da_nil)) de_int) (de_var 0 (pv 0)) de_int)))))) dss_nil)
  (dss_cons (ds_if (dt_cmp op_gt opd_gt (de_ix (de_var 0 (pv 0)) de_int) de_int) (dss_cons (ds_set (i := 3) sc_law_pull.nd rfl (by first | exact .inl rfl | exact .inr rfl) (de_op op_mod opd_mod (de_callTy call_int1 calld_int rfl B.int bt_int (da_cons (de_ix (de_var 0 (pv 0)) de_int) da_nil)) (de_var 1 (pv 1))))
  (dss_cons (ds_store (de_op op_fdivW opd_fdiv (de_ix (de_var 0 (pv 0)) de_int) (de_var 1 (pv 1))) (de_var 0 (pv 0)) de_int)
  (dss_one (ds_ret (de_var 3 (pv 3)))))) dss_nil)
  (dss_cons (ds_set (i := 4) sc_law_pull.nd rfl (by first | exact .inl rfl | exact .inr rfl) (de_op op_mod opd_mod (de_callTy call_int1 calld_int rfl B.int bt_int (da_cons (de_op op_addA opd_add (de_op op_mulA opd_mul (de_ix (de_var 0 (pv 0)) de_int) (de_ix (de_var 0 (pv 0)) de_int)) (de_op op_mulA opd_mul (de_ix (de_var 0 (pv 0)) de_int) de_int)) da_nil)) de_int))
  (dss_cons (ds_store (de_op op_mod opd_mod (de_callTy call_int1 calld_int rfl B.int bt_int (da_cons (de_op op_addA opd_add (de_op op_addA opd_add (de_op op_mulA opd_mul (de_var 4 (pv 4)) de_int) (de_op op_mulA opd_mul (de_ix (de_var 0 (pv 0)) de_int) de_int)) de_int) da_nil)) de_int) (de_var 0 (pv 0)) de_int)
  (dss_one (ds_ret (de_op op_mod opd_mod (de_callTy call_int1 calld_int rfl B.int bt_int (da_cons (de_op op_fdivW opd_fdiv (de_ix (de_var 0 (pv 0)) de_int) de_int) da_nil)) (de_var 1 (pv 1))))))))))) (fun ds S P E hS h => ?_)
  · unfold sp_pull at h
    split at h
    · rfl
    · exact h.elim
  · unfold sp_pull at h
    split at h
    · rename_i i many
      obtain ⟨b, hb, ⟨cells, taken, rest, mixed, draws, rfl, h1, h2, h3, h4⟩, hm, hm2, h⟩ := h
      have hv := val_at hb
      have hl := lt_at hb
      have hs : ∀ ds, val (S.set i (.lst ds)) (.loc i) = .lst ds := fun ds => val_set hl
      refine ws_join (fun ρ' S' => ρ' = [some (.loc i), some (.int many), none, none, none] ∧ S' = S.set i (.lst [.lst (cells.map D.int), .int taken, .int rest, .int mixed, .int (draws + 1)])) (fun nx hn => ?_) ?_
      · simp only [↓wC_ap, ↓wNil_ap, ↓wCons_ap, ↓wLst_ap, ↓wTup_ap, ↓wOp_ap, ↓wB_ap, ↓wUn_ap, ↓wCB_ap, ↓wCall_ap, ↓wCallK_ap, ↓wSl_ap, ↓wPart_ap, ↓wNoPart_ap, ↓wAndT_ap, ↓wOrT_ap, ↓wNotT_ap, ↓wAndV_ap, ↓wOrV_ap, ↓wIf_ap, ↓wTru_ap, ↓wLc_ap, ↓wiSeq_ap, ↓wiRng1_ap, ↓wiRng2_ap, ↓wiZip_ap, ↓wLstRg_ap, ↓wTYes_ap, ↓wsNext_ap, ↓wsSeq_ap, ↓wsRet_ap, ↓wsRetN_ap, ↓wsRetF_ap, ↓wsDrop_ap, ↓wsIf_ap, ↓wsAsg_ap, ↓wsSet_ap, ↓wsSetF_ap, ↓wsPar_ap, ↓wsStore_ap, ↓wsFor_ap, ↓wsBreak_ap, ↓wsCont_ap, ↓wgName_ap, ↓wgNil_ap, ↓wgCons_ap, ↓wgTup_ap, ↓wVar_0, ↓wVar_s, ↓addD, ↓subD, ↓mulD, ↓modD, ↓fdivD, ↓powD, ↓negD, ↓notD, ↓eqD, ↓scalD, ↓inD, ↓isD, ↓ixD, ↓cmpD, ↓leD, ↓geD, ↓gtD, ↓ltD, ↓ordD, ↓lenD, ↓absD, ↓DL.intOfD, ↓listD, ↓allD, ↓isiD, ↓sliceD, ↓truD_non, ↓truD_bl, ↓truD_int, ↓truD_str, ↓truD_lst, ↓truD_tup, List.map_cons, List.map_nil, List.length_cons, List.length_nil, List.replicate, List.cons_append, List.nil_append, List.set_cons_zero, List.set_cons_succ, List.append_nil, List.zip_cons_cons, List.zip_nil_right, List.foldl_cons, List.foldl_nil, Nat.zero_add, Nat.add_zero, Nat.reduceAdd, Nat.reduceSub, Nat.reduceMul, if_true, if_false, Bool.false_eq_true, ite_true, ite_false, v_non, v_bl, v_int, v_str, v_ty, v_cst, v_lst, v_tup, v_dct, v_obj, v_scr, startD_ap, wD_nil, wD_cons, wVar_0, wVar_s, ↓is_non_int, ↓is_bl_int, ↓is_int_int, ↓is_str_int, ↓is_lst_int, ↓is_tup_int, ↓is_dct_int, ↓is_non_bool, ↓is_bl_bool, ↓is_int_bool, ↓is_str_bool, ↓is_lst_bool, ↓is_tup_bool, ↓is_dct_bool, ↓is_non_str, ↓is_bl_str, ↓is_int_str, ↓is_str_str, ↓is_lst_str, ↓is_tup_str, ↓is_dct_str, ↓is_non_list, ↓is_bl_list, ↓is_int_list, ↓is_str_list, ↓is_lst_list, ↓is_tup_list, ↓is_dct_list, ↓is_non_tuple, ↓is_bl_tuple, ↓is_int_tuple, ↓is_str_tuple, ↓is_lst_tuple, ↓is_tup_tuple, ↓is_dct_tuple, ↓hv, ↓hs, ↓set_set, ↓at5_0, ↓at5_1, ↓at5_2, ↓at5_3, ↓at5_4, ↓ix5_1, ↓ix5_2, ↓ix5_3, ↓ix5_4]
        exact hn _ _ ⟨rfl, rfl⟩
      rintro _ _ ⟨rfl, rfl⟩
      refine ws_join (fun ρ' S' => (∃ o, ρ' = [some (.loc i), some (.int many), o, none, none]) ∧ ∃ t r m : Int, 0 ≤ t ∧ 0 ≤ r ∧ 0 ≤ m ∧ m < 2147483629 ∧ S' = S.set i (.lst [.lst (cells.map D.int), .int t, .int r, .int m, .int (draws + 1)])) (fun nx hn => ?_) ?_
      · by_cases hc : rest = 0 ∧ taken < cells.length
        · obtain ⟨y, hy, hx⟩ := at_in (l := cells.map D.int) h1 (by rw [List.length_map]; exact hc.2)
          obtain ⟨c, _, rfl⟩ := List.mem_map.mp hy
          simp only [↓wC_ap, ↓wNil_ap, ↓wCons_ap, ↓wLst_ap, ↓wTup_ap, ↓wOp_ap, ↓wB_ap, ↓wUn_ap, ↓wCB_ap, ↓wCall_ap, ↓wCallK_ap, ↓wSl_ap, ↓wPart_ap, ↓wNoPart_ap, ↓wAndT_ap, ↓wOrT_ap, ↓wNotT_ap, ↓wAndV_ap, ↓wOrV_ap, ↓wIf_ap, ↓wTru_ap, ↓wLc_ap, ↓wiSeq_ap, ↓wiRng1_ap, ↓wiRng2_ap, ↓wiZip_ap, ↓wLstRg_ap, ↓wTYes_ap, ↓wsNext_ap, ↓wsSeq_ap, ↓wsRet_ap, ↓wsRetN_ap, ↓wsRetF_ap, ↓wsDrop_ap, ↓wsIf_ap, ↓wsAsg_ap, ↓wsSet_ap, ↓wsSetF_ap, ↓wsPar_ap, ↓wsStore_ap, ↓wsFor_ap, ↓wsBreak_ap, ↓wsCont_ap, ↓wgName_ap, ↓wgNil_ap, ↓wgCons_ap, ↓wgTup_ap, ↓wVar_0, ↓wVar_s, ↓addD, ↓subD, ↓mulD, ↓modD, ↓fdivD, ↓powD, ↓negD, ↓notD, ↓eqD, ↓scalD, ↓inD, ↓isD, ↓ixD, ↓cmpD, ↓leD, ↓geD, ↓gtD, ↓ltD, ↓ordD, ↓lenD, ↓absD, ↓DL.intOfD, ↓listD, ↓allD, ↓isiD, ↓sliceD, ↓truD_non, ↓truD_bl, ↓truD_int, ↓truD_str, ↓truD_lst, ↓truD_tup, List.map_cons, List.map_nil, List.length_cons, List.length_nil, List.replicate, List.cons_append, List.nil_append, List.set_cons_zero, List.set_cons_succ, List.append_nil, List.zip_cons_cons, List.zip_nil_right, List.foldl_cons, List.foldl_nil, Nat.zero_add, Nat.add_zero, Nat.reduceAdd, Nat.reduceSub, Nat.reduceMul, if_true, if_false, Bool.false_eq_true, ite_true, ite_false, v_non, v_bl, v_int, v_str, v_ty, v_cst, v_lst, v_tup, v_dct, v_obj, v_scr, startD_ap, wD_nil, wD_cons, wVar_0, wVar_s, ↓is_non_int, ↓is_bl_int, ↓is_int_int, ↓is_str_int, ↓is_lst_int, ↓is_tup_int, ↓is_dct_int, ↓is_non_bool, ↓is_bl_bool, ↓is_int_bool, ↓is_str_bool, ↓is_lst_bool, ↓is_tup_bool, ↓is_dct_bool, ↓is_non_str, ↓is_bl_str, ↓is_int_str, ↓is_str_str, ↓is_lst_str, ↓is_tup_str, ↓is_dct_str, ↓is_non_list, ↓is_bl_list, ↓is_int_list, ↓is_str_list, ↓is_lst_list, ↓is_tup_list, ↓is_dct_list, ↓is_non_tuple, ↓is_bl_tuple, ↓is_int_tuple, ↓is_str_tuple, ↓is_lst_tuple, ↓is_tup_tuple, ↓is_dct_tuple, ↓hv, ↓hs, ↓set_set, ↓at5_0, ↓at5_1, ↓at5_2, ↓at5_3, ↓at5_4, ↓ix5_1, ↓ix5_2, ↓ix5_3, ↓ix5_4, hx]
          rw [if_pos (decide_eq_true hc.1), if_pos (decide_eq_true (by rw [List.length_map]; exact hc.2))]
          refine ⟨by decide, ?_⟩
          have habs : 0 ≤ (if c < 0 then -c else c) := by split <;> omega
          generalize (if c < 0 then -c else c) = ac at habs ⊢
          split
          · exact hn _ _ ⟨⟨_, rfl⟩, taken + 1, ac, mixed, by omega, habs, h3, h4, rfl⟩
          · exact ⟨mulC (by decide), by decide, mulC (by decide), by decide, hn _ _ ⟨⟨_, rfl⟩, _, _, _, by omega, h2, by omega, by omega, rfl⟩⟩
        · simp only [↓wC_ap, ↓wNil_ap, ↓wCons_ap, ↓wLst_ap, ↓wTup_ap, ↓wOp_ap, ↓wB_ap, ↓wUn_ap, ↓wCB_ap, ↓wCall_ap, ↓wCallK_ap, ↓wSl_ap, ↓wPart_ap, ↓wNoPart_ap, ↓wAndT_ap, ↓wOrT_ap, ↓wNotT_ap, ↓wAndV_ap, ↓wOrV_ap, ↓wIf_ap, ↓wTru_ap, ↓wLc_ap, ↓wiSeq_ap, ↓wiRng1_ap, ↓wiRng2_ap, ↓wiZip_ap, ↓wLstRg_ap, ↓wTYes_ap, ↓wsNext_ap, ↓wsSeq_ap, ↓wsRet_ap, ↓wsRetN_ap, ↓wsRetF_ap, ↓wsDrop_ap, ↓wsIf_ap, ↓wsAsg_ap, ↓wsSet_ap, ↓wsSetF_ap, ↓wsPar_ap, ↓wsStore_ap, ↓wsFor_ap, ↓wsBreak_ap, ↓wsCont_ap, ↓wgName_ap, ↓wgNil_ap, ↓wgCons_ap, ↓wgTup_ap, ↓wVar_0, ↓wVar_s, ↓addD, ↓subD, ↓mulD, ↓modD, ↓fdivD, ↓powD, ↓negD, ↓notD, ↓eqD, ↓scalD, ↓inD, ↓isD, ↓ixD, ↓cmpD, ↓leD, ↓geD, ↓gtD, ↓ltD, ↓ordD, ↓lenD, ↓absD, ↓DL.intOfD, ↓listD, ↓allD, ↓isiD, ↓sliceD, ↓truD_non, ↓truD_bl, ↓truD_int, ↓truD_str, ↓truD_lst, ↓truD_tup, List.map_cons, List.map_nil, List.length_cons, List.length_nil, List.replicate, List.cons_append, List.nil_append, List.set_cons_zero, List.set_cons_succ, List.append_nil, List.zip_cons_cons, List.zip_nil_right, List.foldl_cons, List.foldl_nil, Nat.zero_add, Nat.add_zero, Nat.reduceAdd, Nat.reduceSub, Nat.reduceMul, if_true, if_false, Bool.false_eq_true, ite_true, ite_false, v_non, v_bl, v_int, v_str, v_ty, v_cst, v_lst, v_tup, v_dct, v_obj, v_scr, startD_ap, wD_nil, wD_cons, wVar_0, wVar_s, ↓is_non_int, ↓is_bl_int, ↓is_int_int, ↓is_str_int, ↓is_lst_int, ↓is_tup_int, ↓is_dct_int, ↓is_non_bool, ↓is_bl_bool, ↓is_int_bool, ↓is_str_bool, ↓is_lst_bool, ↓is_tup_bool, ↓is_dct_bool, ↓is_non_str, ↓is_bl_str, ↓is_int_str, ↓is_str_str, ↓is_lst_str, ↓is_tup_str, ↓is_dct_str, ↓is_non_list, ↓is_bl_list, ↓is_int_list, ↓is_str_list, ↓is_lst_list, ↓is_tup_list, ↓is_dct_list, ↓is_non_tuple, ↓is_bl_tuple, ↓is_int_tuple, ↓is_str_tuple, ↓is_lst_tuple, ↓is_tup_tuple, ↓is_dct_tuple, ↓hv, ↓hs, ↓set_set, ↓at5_0, ↓at5_1, ↓at5_2, ↓at5_3, ↓at5_4, ↓ix5_1, ↓ix5_2, ↓ix5_3, ↓ix5_4]
          by_cases q1 : rest = 0
          · rw [if_pos (decide_eq_true q1), if_neg (by rw [List.length_map]; simp; omega)]
            exact hn _ _ ⟨⟨_, rfl⟩, _, _, _, h1, h2, h3, h4, rfl⟩
          · rw [if_neg (by simpa using q1)]
            exact hn _ _ ⟨⟨_, rfl⟩, _, _, _, h1, h2, h3, h4, rfl⟩
      · rintro _ _ ⟨⟨o, rfl⟩, t, r, m, g1, g2, g3, g4, rfl⟩
        refine ws_join (fun ρ' S' => (∃ o', ρ' = [some (.loc i), some (.int many), o, o', none]) ∧ S' = S.set i (.lst [.lst (cells.map D.int), .int t, .int r, .int m, .int (draws + 1)])) (fun nx hn => ?_) ?_
        · simp only [↓wC_ap, ↓wNil_ap, ↓wCons_ap, ↓wLst_ap, ↓wTup_ap, ↓wOp_ap, ↓wB_ap, ↓wUn_ap, ↓wCB_ap, ↓wCall_ap, ↓wCallK_ap, ↓wSl_ap, ↓wPart_ap, ↓wNoPart_ap, ↓wAndT_ap, ↓wOrT_ap, ↓wNotT_ap, ↓wAndV_ap, ↓wOrV_ap, ↓wIf_ap, ↓wTru_ap, ↓wLc_ap, ↓wiSeq_ap, ↓wiRng1_ap, ↓wiRng2_ap, ↓wiZip_ap, ↓wLstRg_ap, ↓wTYes_ap, ↓wsNext_ap, ↓wsSeq_ap, ↓wsRet_ap, ↓wsRetN_ap, ↓wsRetF_ap, ↓wsDrop_ap, ↓wsIf_ap, ↓wsAsg_ap, ↓wsSet_ap, ↓wsSetF_ap, ↓wsPar_ap, ↓wsStore_ap, ↓wsFor_ap, ↓wsBreak_ap, ↓wsCont_ap, ↓wgName_ap, ↓wgNil_ap, ↓wgCons_ap, ↓wgTup_ap, ↓wVar_0, ↓wVar_s, ↓addD, ↓subD, ↓mulD, ↓modD, ↓fdivD, ↓powD, ↓negD, ↓notD, ↓eqD, ↓scalD, ↓inD, ↓isD, ↓ixD, ↓cmpD, ↓leD, ↓geD, ↓gtD, ↓ltD, ↓ordD, ↓lenD, ↓absD, ↓DL.intOfD, ↓listD, ↓allD, ↓isiD, ↓sliceD, ↓truD_non, ↓truD_bl, ↓truD_int, ↓truD_str, ↓truD_lst, ↓truD_tup, List.map_cons, List.map_nil, List.length_cons, List.length_nil, List.replicate, List.cons_append, List.nil_append, List.set_cons_zero, List.set_cons_succ, List.append_nil, List.zip_cons_cons, List.zip_nil_right, List.foldl_cons, List.foldl_nil, Nat.zero_add, Nat.add_zero, Nat.reduceAdd, Nat.reduceSub, Nat.reduceMul, if_true, if_false, Bool.false_eq_true, ite_true, ite_false, v_non, v_bl, v_int, v_str, v_ty, v_cst, v_lst, v_tup, v_dct, v_obj, v_scr, startD_ap, wD_nil, wD_cons, wVar_0, wVar_s, ↓is_non_int, ↓is_bl_int, ↓is_int_int, ↓is_str_int, ↓is_lst_int, ↓is_tup_int, ↓is_dct_int, ↓is_non_bool, ↓is_bl_bool, ↓is_int_bool, ↓is_str_bool, ↓is_lst_bool, ↓is_tup_bool, ↓is_dct_bool, ↓is_non_str, ↓is_bl_str, ↓is_int_str, ↓is_str_str, ↓is_lst_str, ↓is_tup_str, ↓is_dct_str, ↓is_non_list, ↓is_bl_list, ↓is_int_list, ↓is_str_list, ↓is_lst_list, ↓is_tup_list, ↓is_dct_list, ↓is_non_tuple, ↓is_bl_tuple, ↓is_int_tuple, ↓is_str_tuple, ↓is_lst_tuple, ↓is_tup_tuple, ↓is_dct_tuple, ↓hv, ↓hs, ↓set_set, ↓at5_0, ↓at5_1, ↓at5_2, ↓at5_3, ↓at5_4, ↓ix5_1, ↓ix5_2, ↓ix5_3, ↓ix5_4]
          split
          · exact ⟨hm, ⟨hm, Int.lt_of_lt_of_le hm2 (by decide +kernel)⟩, rt_same (by simp) (h _ _ (Int.emod_nonneg _ (by omega)) (Int.emod_lt_of_pos _ hm) ⟨_, _, _, _, _, rfl, g1, Int.ediv_nonneg g2 (by omega), g3, g4⟩)⟩
          · exact hn _ _ ⟨⟨_, rfl⟩, rfl⟩
        · rintro _ _ ⟨⟨o', rfl⟩, rfl⟩
          simp only [↓wC_ap, ↓wNil_ap, ↓wCons_ap, ↓wLst_ap, ↓wTup_ap, ↓wOp_ap, ↓wB_ap, ↓wUn_ap, ↓wCB_ap, ↓wCall_ap, ↓wCallK_ap, ↓wSl_ap, ↓wPart_ap, ↓wNoPart_ap, ↓wAndT_ap, ↓wOrT_ap, ↓wNotT_ap, ↓wAndV_ap, ↓wOrV_ap, ↓wIf_ap, ↓wTru_ap, ↓wLc_ap, ↓wiSeq_ap, ↓wiRng1_ap, ↓wiRng2_ap, ↓wiZip_ap, ↓wLstRg_ap, ↓wTYes_ap, ↓wsNext_ap, ↓wsSeq_ap, ↓wsRet_ap, ↓wsRetN_ap, ↓wsRetF_ap, ↓wsDrop_ap, ↓wsIf_ap, ↓wsAsg_ap, ↓wsSet_ap, ↓wsSetF_ap, ↓wsPar_ap, ↓wsStore_ap, ↓wsFor_ap, ↓wsBreak_ap, ↓wsCont_ap, ↓wgName_ap, ↓wgNil_ap, ↓wgCons_ap, ↓wgTup_ap, ↓wVar_0, ↓wVar_s, ↓addD, ↓subD, ↓mulD, ↓modD, ↓fdivD, ↓powD, ↓negD, ↓notD, ↓eqD, ↓scalD, ↓inD, ↓isD, ↓ixD, ↓cmpD, ↓leD, ↓geD, ↓gtD, ↓ltD, ↓ordD, ↓lenD, ↓absD, ↓DL.intOfD, ↓listD, ↓allD, ↓isiD, ↓sliceD, ↓truD_non, ↓truD_bl, ↓truD_int, ↓truD_str, ↓truD_lst, ↓truD_tup, List.map_cons, List.map_nil, List.length_cons, List.length_nil, List.replicate, List.cons_append, List.nil_append, List.set_cons_zero, List.set_cons_succ, List.append_nil, List.zip_cons_cons, List.zip_nil_right, List.foldl_cons, List.foldl_nil, Nat.zero_add, Nat.add_zero, Nat.reduceAdd, Nat.reduceSub, Nat.reduceMul, if_true, if_false, Bool.false_eq_true, ite_true, ite_false, v_non, v_bl, v_int, v_str, v_ty, v_cst, v_lst, v_tup, v_dct, v_obj, v_scr, startD_ap, wD_nil, wD_cons, wVar_0, wVar_s, ↓is_non_int, ↓is_bl_int, ↓is_int_int, ↓is_str_int, ↓is_lst_int, ↓is_tup_int, ↓is_dct_int, ↓is_non_bool, ↓is_bl_bool, ↓is_int_bool, ↓is_str_bool, ↓is_lst_bool, ↓is_tup_bool, ↓is_dct_bool, ↓is_non_str, ↓is_bl_str, ↓is_int_str, ↓is_str_str, ↓is_lst_str, ↓is_tup_str, ↓is_dct_str, ↓is_non_list, ↓is_bl_list, ↓is_int_list, ↓is_str_list, ↓is_lst_list, ↓is_tup_list, ↓is_dct_list, ↓is_non_tuple, ↓is_bl_tuple, ↓is_int_tuple, ↓is_str_tuple, ↓is_lst_tuple, ↓is_tup_tuple, ↓is_dct_tuple, ↓hv, ↓hs, ↓set_set, ↓at5_0, ↓at5_1, ↓at5_2, ↓at5_3, ↓at5_4, ↓ix5_1, ↓ix5_2, ↓ix5_3, ↓ix5_4]
          have e64 : (2 : Nat) ^ 64 = 18446744073709551616 := by decide
          exact ⟨mulC (by rw [e64]; omega), mulC (by decide), by decide, mulC (by decide), mulC (by decide), by decide, by decide, hm, rt_same (by simp) (h _ _ (Int.emod_nonneg _ (by omega)) (Int.emod_lt_of_pos _ hm) ⟨_, _, _, _, _, rfl, g1, g2, by omega, by omega⟩)⟩
    · exact h.elim
theorem cal_of (B : Bn mg) (I : DefIn K mg "_law_of" "_law_of" s_law_of) (c_law_pull : Cal P w K mg base CX0 1 "_law_pull" ["_law_bag_here", "_law_many"] sp_pull) : Cal P w K mg base CX0 2 "_law_of" ["_law_bag_here", "_law_some"] sp_of := by
  refine cal_def I sc_law_of (fun _ _ _ _ _ _ us hl => match us, hl with | [_, _], _ => rfl) (fun ds S P E h => ?_) (fun f cdv A outer s H E hr => (dss_one (ds_ret (de_ix (de_var 1 (pv 1)) (de_cal c_law_pull hr pass00 (da_cons (de_var 0 (pv 0)) (da_cons (de_callB call_len calld_len rfl B.len bt_len (da_cons (de_var 1 (pv 1)) da_nil)) da_nil))))))) (fun ds S P E hS h => ?_)
  · unfold sp_of at h
    split at h
    · rfl
    · exact h.elim
  · unfold sp_of at h
    split at h
    · rename_i i xs
      obtain ⟨b, hb, ok, hx, hl, h⟩ := h
      walk_at "dl"
      have hp : 0 < xs.length := List.length_pos_iff.mpr hx
      refine ⟨b, hb, ok, by omega, Int.lt_of_lt_of_le (show (xs.length : Int) < 1000000 by omega) (by decide +kernel), fun d b' h0 h1 ok' => ?_⟩
      obtain ⟨y, hy, e⟩ := at_in h0 h1
      simp only [↓wC_ap, ↓wNil_ap, ↓wCons_ap, ↓wLst_ap, ↓wTup_ap, ↓wOp_ap, ↓wB_ap, ↓wUn_ap, ↓wCB_ap, ↓wCall_ap, ↓wCallK_ap, ↓wSl_ap, ↓wPart_ap, ↓wNoPart_ap, ↓wAndT_ap, ↓wOrT_ap, ↓wNotT_ap, ↓wAndV_ap, ↓wOrV_ap, ↓wIf_ap, ↓wTru_ap, ↓wLc_ap, ↓wiSeq_ap, ↓wiRng1_ap, ↓wiRng2_ap, ↓wiZip_ap, ↓wLstRg_ap, ↓wTYes_ap, ↓wsNext_ap, ↓wsSeq_ap, ↓wsRet_ap, ↓wsRetN_ap, ↓wsRetF_ap, ↓wsDrop_ap, ↓wsIf_ap, ↓wsAsg_ap, ↓wsSet_ap, ↓wsSetF_ap, ↓wsPar_ap, ↓wsStore_ap, ↓wsFor_ap, ↓wsBreak_ap, ↓wsCont_ap, ↓wgName_ap, ↓wgNil_ap, ↓wgCons_ap, ↓wgTup_ap, ↓wVar_0, ↓wVar_s, ↓addD, ↓subD, ↓mulD, ↓modD, ↓fdivD, ↓powD, ↓negD, ↓notD, ↓eqD, ↓scalD, ↓inD, ↓isD, ↓ixD, ↓cmpD, ↓leD, ↓geD, ↓gtD, ↓ltD, ↓ordD, ↓lenD, ↓absD, ↓DL.intOfD, ↓listD, ↓allD, ↓isiD, ↓sliceD, ↓truD_non, ↓truD_bl, ↓truD_int, ↓truD_str, ↓truD_lst, ↓truD_tup, List.map_cons, List.map_nil, List.length_cons, List.length_nil, List.replicate, List.cons_append, List.nil_append, List.set_cons_zero, List.set_cons_succ, List.append_nil, List.zip_cons_cons, List.zip_nil_right, List.foldl_cons, List.foldl_nil, Nat.zero_add, Nat.add_zero, Nat.reduceAdd, Nat.reduceSub, Nat.reduceMul, if_true, if_false, Bool.false_eq_true, ite_true, ite_false, v_non, v_bl, v_int, v_str, v_ty, v_cst, v_lst, v_tup, v_dct, v_obj, v_scr, startD_ap, wD_nil, wD_cons, wVar_0, wVar_s, ↓is_non_int, ↓is_bl_int, ↓is_int_int, ↓is_str_int, ↓is_lst_int, ↓is_tup_int, ↓is_dct_int, ↓is_non_bool, ↓is_bl_bool, ↓is_int_bool, ↓is_str_bool, ↓is_lst_bool, ↓is_tup_bool, ↓is_dct_bool, ↓is_non_str, ↓is_bl_str, ↓is_int_str, ↓is_str_str, ↓is_lst_str, ↓is_tup_str, ↓is_dct_str, ↓is_non_list, ↓is_bl_list, ↓is_int_list, ↓is_str_list, ↓is_lst_list, ↓is_tup_list, ↓is_dct_list, ↓is_non_tuple, ↓is_bl_tuple, ↓is_int_tuple, ↓is_str_tuple, ↓is_lst_tuple, ↓is_tup_tuple, ↓is_dct_tuple, ↓e]
      exact rt_same (by simp) (h y b' hy ok')
    · exact h.elim
theorem cal_near (B : Bn mg) (I : DefIn K mg "_law_near" "_law_near" s_law_near) (c_law_pull : Cal P w K mg base CX0 1 "_law_pull" ["_law_bag_here", "_law_many"] sp_pull) : Cal P w K mg base CX0 2 "_law_near" ["_law_bag_here", "_law_far"] sp_near := by
  refine cal_def I sc_law_near (fun _ _ _ _ _ _ us hl => match us, hl with | [_, _], _ => rfl) (fun ds S P E h => ?_) (fun f cdv A outer s H E hr => (dss_one (ds_ret (de_op op_sub opd_sub (de_cal c_law_pull hr pass00 (da_cons (de_var 0 (pv 0)) (da_cons (de_op op_addA opd_add (de_op op_mulA opd_mul de_int (de_var 1 (pv 1))) de_int) da_nil))) (de_var 1 (pv 1)))))) (fun ds S P E hS h => ?_)
  · unfold sp_near at h
    split at h
    · rfl
    · exact h.elim
  · unfold sp_near at h
    split at h
    · rename_i i far
      obtain ⟨b, hb, ok, h0, h1, h⟩ := h
      have e9 : ((10 : Int) ^ 900) * 2 + 1 ≤ 10 ^ 1000 := by decide +kernel
      walk_at "dl"
      refine ⟨mulC1 (by decide), b, hb, ok, by omega, by omega, fun d b' g0 g1 ok' => ?_⟩
      walk_at "dl"
      exact rt_same (by simp) (h _ b' (by omega) (by omega) ok')
    · exact h.elim
theorem cal_any (B : Bn mg) (I : DefIn K mg "_law_any" "_law_any" s_law_any) (c_law_near : Cal P w K mg base CX0 2 "_law_near" ["_law_bag_here", "_law_far"] sp_near) (c_law_of : Cal P w K mg base CX0 2 "_law_of" ["_law_bag_here", "_law_some"] sp_of) : Cal P w K mg base CX0 3 "_law_any" ["_law_bag_here"] sp_any := by
  refine cal_def I sc_law_any (fun _ _ _ _ _ _ us hl => match us, hl with | [_], _ => rfl) (fun ds S P E h => ?_) (fun f cdv A outer s H E hr => (dss_one (ds_ret (de_cal c_law_of hr pass00 (da_cons (de_var 0 (pv 0)) (da_cons (de_lst (da_cons (de_cal c_law_near hr pass00 (da_cons (de_var 0 (pv 0)) (da_cons de_int da_nil))) (da_cons (de_cal c_law_near hr pass00 (da_cons (de_var 0 (pv 0)) (da_cons de_int da_nil))) (da_cons (de_cal c_law_near hr pass00 (da_cons (de_var 0 (pv 0)) (da_cons (de_op op_pow opd_pow de_int de_int) da_nil))) da_nil)))) da_nil)))))) (fun ds S P E hS h => ?_)
  · unfold sp_any at h
    split at h
    · rfl
    · exact h.elim
  · unfold sp_any at h
    split at h
    · rename_i i
      obtain ⟨b, hb, ok, h⟩ := h
      walk_at "dl"
      refine ⟨b, hb, ok, by decide, by decide +kernel, fun z1 b1 l1 u1 ok1 => ?_⟩
      walk_at "dl"
      refine ⟨b1, get_set hb, ok1, by decide, by decide +kernel, fun z2 b2 l2 u2 ok2 => ?_⟩
      simp only [↓wC_ap, ↓wNil_ap, ↓wCons_ap, ↓wLst_ap, ↓wTup_ap, ↓wOp_ap, ↓wB_ap, ↓wUn_ap, ↓wCB_ap, ↓wCall_ap, ↓wCallK_ap, ↓wSl_ap, ↓wPart_ap, ↓wNoPart_ap, ↓wAndT_ap, ↓wOrT_ap, ↓wNotT_ap, ↓wAndV_ap, ↓wOrV_ap, ↓wIf_ap, ↓wTru_ap, ↓wLc_ap, ↓wiSeq_ap, ↓wiRng1_ap, ↓wiRng2_ap, ↓wiZip_ap, ↓wLstRg_ap, ↓wTYes_ap, ↓wsNext_ap, ↓wsSeq_ap, ↓wsRet_ap, ↓wsRetN_ap, ↓wsRetF_ap, ↓wsDrop_ap, ↓wsIf_ap, ↓wsAsg_ap, ↓wsSet_ap, ↓wsSetF_ap, ↓wsPar_ap, ↓wsStore_ap, ↓wsFor_ap, ↓wsBreak_ap, ↓wsCont_ap, ↓wgName_ap, ↓wgNil_ap, ↓wgCons_ap, ↓wgTup_ap, ↓wVar_0, ↓wVar_s, ↓addD, ↓subD, ↓mulD, ↓modD, ↓fdivD, ↓powD, ↓negD, ↓notD, ↓eqD, ↓scalD, ↓inD, ↓isD, ↓ixD, ↓cmpD, ↓leD, ↓geD, ↓gtD, ↓ltD, ↓ordD, ↓lenD, ↓absD, ↓DL.intOfD, ↓listD, ↓allD, ↓isiD, ↓sliceD, ↓truD_non, ↓truD_bl, ↓truD_int, ↓truD_str, ↓truD_lst, ↓truD_tup, List.map_cons, List.map_nil, List.length_cons, List.length_nil, List.replicate, List.cons_append, List.nil_append, List.set_cons_zero, List.set_cons_succ, List.append_nil, List.zip_cons_cons, List.zip_nil_right, List.foldl_cons, List.foldl_nil, Nat.zero_add, Nat.add_zero, Nat.reduceAdd, Nat.reduceSub, Nat.reduceMul, if_true, if_false, Bool.false_eq_true, ite_true, ite_false, v_non, v_bl, v_int, v_str, v_ty, v_cst, v_lst, v_tup, v_dct, v_obj, v_scr, startD_ap, wD_nil, wD_cons, wVar_0, wVar_s, ↓is_non_int, ↓is_bl_int, ↓is_int_int, ↓is_str_int, ↓is_lst_int, ↓is_tup_int, ↓is_dct_int, ↓is_non_bool, ↓is_bl_bool, ↓is_int_bool, ↓is_str_bool, ↓is_lst_bool, ↓is_tup_bool, ↓is_dct_bool, ↓is_non_str, ↓is_bl_str, ↓is_int_str, ↓is_str_str, ↓is_lst_str, ↓is_tup_str, ↓is_dct_str, ↓is_non_list, ↓is_bl_list, ↓is_int_list, ↓is_str_list, ↓is_lst_list, ↓is_tup_list, ↓is_dct_list, ↓is_non_tuple, ↓is_bl_tuple, ↓is_int_tuple, ↓is_str_tuple, ↓is_lst_tuple, ↓is_tup_tuple, ↓is_dct_tuple, ↓set_set]
      refine ⟨by decide, b2, get_set hb, ok2, by decide +kernel, by decide +kernel, fun z3 b3 l3 u3 ok3 => ?_⟩
      simp only [↓wC_ap, ↓wNil_ap, ↓wCons_ap, ↓wLst_ap, ↓wTup_ap, ↓wOp_ap, ↓wB_ap, ↓wUn_ap, ↓wCB_ap, ↓wCall_ap, ↓wCallK_ap, ↓wSl_ap, ↓wPart_ap, ↓wNoPart_ap, ↓wAndT_ap, ↓wOrT_ap, ↓wNotT_ap, ↓wAndV_ap, ↓wOrV_ap, ↓wIf_ap, ↓wTru_ap, ↓wLc_ap, ↓wiSeq_ap, ↓wiRng1_ap, ↓wiRng2_ap, ↓wiZip_ap, ↓wLstRg_ap, ↓wTYes_ap, ↓wsNext_ap, ↓wsSeq_ap, ↓wsRet_ap, ↓wsRetN_ap, ↓wsRetF_ap, ↓wsDrop_ap, ↓wsIf_ap, ↓wsAsg_ap, ↓wsSet_ap, ↓wsSetF_ap, ↓wsPar_ap, ↓wsStore_ap, ↓wsFor_ap, ↓wsBreak_ap, ↓wsCont_ap, ↓wgName_ap, ↓wgNil_ap, ↓wgCons_ap, ↓wgTup_ap, ↓wVar_0, ↓wVar_s, ↓addD, ↓subD, ↓mulD, ↓modD, ↓fdivD, ↓powD, ↓negD, ↓notD, ↓eqD, ↓scalD, ↓inD, ↓isD, ↓ixD, ↓cmpD, ↓leD, ↓geD, ↓gtD, ↓ltD, ↓ordD, ↓lenD, ↓absD, ↓DL.intOfD, ↓listD, ↓allD, ↓isiD, ↓sliceD, ↓truD_non, ↓truD_bl, ↓truD_int, ↓truD_str, ↓truD_lst, ↓truD_tup, List.map_cons, List.map_nil, List.length_cons, List.length_nil, List.replicate, List.cons_append, List.nil_append, List.set_cons_zero, List.set_cons_succ, List.append_nil, List.zip_cons_cons, List.zip_nil_right, List.foldl_cons, List.foldl_nil, Nat.zero_add, Nat.add_zero, Nat.reduceAdd, Nat.reduceSub, Nat.reduceMul, if_true, if_false, Bool.false_eq_true, ite_true, ite_false, v_non, v_bl, v_int, v_str, v_ty, v_cst, v_lst, v_tup, v_dct, v_obj, v_scr, startD_ap, wD_nil, wD_cons, wVar_0, wVar_s, ↓is_non_int, ↓is_bl_int, ↓is_int_int, ↓is_str_int, ↓is_lst_int, ↓is_tup_int, ↓is_dct_int, ↓is_non_bool, ↓is_bl_bool, ↓is_int_bool, ↓is_str_bool, ↓is_lst_bool, ↓is_tup_bool, ↓is_dct_bool, ↓is_non_str, ↓is_bl_str, ↓is_int_str, ↓is_str_str, ↓is_lst_str, ↓is_tup_str, ↓is_dct_str, ↓is_non_list, ↓is_bl_list, ↓is_int_list, ↓is_str_list, ↓is_lst_list, ↓is_tup_list, ↓is_dct_list, ↓is_non_tuple, ↓is_bl_tuple, ↓is_int_tuple, ↓is_str_tuple, ↓is_lst_tuple, ↓is_tup_tuple, ↓is_dct_tuple, ↓set_set]
      refine ⟨by decide, b3, get_set hb, ok3, by simp, by simp, fun x b' hx ok' => ?_⟩
      rw [set_set]
      have e30 : (3 : Int) ≤ 10 ^ 30 := by decide
      have e31 : (10 : Int) ^ Int.toNat 30 = 10 ^ 30 := rfl
      rw [e31] at l3 u3
      refine rt_same (by simp) ?_
      rcases List.mem_cons.mp hx with e | hx
      · subst e; exact h _ b' (by omega) (by omega) ok'
      rcases List.mem_cons.mp hx with e | hx
      · subst e; exact h _ b' (by omega) (by omega) ok'
      rcases List.mem_cons.mp hx with e | hx
      · subst e; exact h _ b' l3 u3 ok'
      · cases hx
    · exact h.elim
theorem cal_same1 (B : Bn mg) (I : DefIn K mg "_law_same" "_law_same" s_law_same) {n m : Nat} {spr : DSp} (hz : ∀ x y S P E, deep x = true → deep y = true → dep y < m → P (.bl (same x y)) S → spr [x, y] S P E)
    (c_law_same : Cal P w K mg base CX0 n "_law_same" ["_law_found", "_law_due"] spr) : Cal P w K mg base CX0 (n + 1) "_law_same" ["_law_found", "_law_due"] (sp_same m) := by
  refine cal_def I sc_law_same (fun _ _ _ _ _ _ us hl => match us, hl with | [_, _], _ => rfl) (fun ds S P E h => ?_) (fun f cdv A outer s H E hr => (dss_cons (ds_if (dt_tru (de_callB (CallR.or call_isi (CallR.or call_isiT call_isiK)) calld_isi rfl B.isinstance bt_isinstance (da_cons (de_var 1 (pv 1)) (da_cons (de_tup (da_cons (de_ty rfl B.list bt_list) (da_cons (de_ty rfl B.tuple bt_tuple) da_nil))) da_nil)))) (dss_cons (ds_if (dt_w (dw_or (dt_ne hr.units (de_callB (CallR.or call_isi (CallR.or call_isiT call_isiK)) calld_isi rfl B.isinstance bt_isinstance (da_cons (de_var 0 (pv 0)) (da_cons (de_ty rfl B.list bt_list) da_nil))) (de_callB (CallR.or call_isi (CallR.or call_isiT call_isiK)) calld_isi rfl B.isinstance bt_isinstance (da_cons (de_var 1 (pv 1)) (da_cons (de_ty rfl B.list bt_list) da_nil)))) (dw_or1 (dt_ne hr.units (de_callB (CallR.or call_isi (CallR.or call_isiT call_isiK)) calld_isi rfl B.isinstance bt_isinstance (da_cons (de_var 0 (pv 0)) (da_cons (de_ty rfl B.tuple bt_tuple) da_nil))) (de_callB (CallR.or call_isi (CallR.or call_isiT call_isiK)) calld_isi rfl B.isinstance bt_isinstance (da_cons (de_var 1 (pv 1)) (da_cons (de_ty rfl B.tuple bt_tuple) da_nil))))))) (dss_one (ds_ret de_bl)) dss_nil)
  (dss_one (ds_ret (de_and (de_eq hr.units (de_callB call_len calld_len rfl B.len bt_len (da_cons (de_var 0 (pv 0)) da_nil)) (de_callB call_len calld_len rfl B.len bt_len (da_cons (de_var 1 (pv 1)) da_nil))) (de_one (de_callB (cr_all rfl) calld_all rfl B.all bt_all (da_cons (de_lc (own := [("_law_a", 2), ("_law_b", 3)]) rfl sc_law_same.nd (di_zip rfl B.zip (da_cons (de_var 0 (pv 0)) (da_cons (de_var 1 (pv 1)) da_nil))) (blkOk_by (N := N_law_same) (sc := defScope s_law_same) (by decide +kernel)) (fun _ _ _ _ _ => (dg_tup (n := 2) rfl (dgs_cons (dg_name (pg_name (i := 2) sc_law_same.nd rfl (by first | exact .inl rfl | exact .inr rfl))) (dgs_cons (dg_name (pg_name (i := 3) sc_law_same.nd rfl (by first | exact .inl rfl | exact .inr rfl))) dgs_nil)))) (fun _ _ _ _ _ => dts_nil) (fun _ _ _ _ _ => (de_cal c_law_same hr pass00 (da_cons (de_var 2 (pv 2)) (da_cons (de_var 3 (pv 3)) da_nil))))) da_nil))))))) dss_nil)
  (dss_cons (ds_if (dt_w (dw_or (dt_cmp op_isN opd_is (de_var 1 (pv 1)) de_non) (dw_or1 (dt_cmp op_isN opd_is (de_var 0 (pv 0)) de_non)))) (dss_one (ds_ret (de_and (de_cmp op_isN opd_is (de_var 1 (pv 1)) de_non) (de_one (de_cmp op_isN opd_is (de_var 0 (pv 0)) de_non))))) dss_nil)
  (dss_cons (ds_if (dt_w (dw_or (dt_ne hr.units (de_callB (CallR.or call_isi (CallR.or call_isiT call_isiK)) calld_isi rfl B.isinstance bt_isinstance (da_cons (de_var 1 (pv 1)) (da_cons (de_ty rfl B.bool bt_bool) da_nil))) (de_callB (CallR.or call_isi (CallR.or call_isiT call_isiK)) calld_isi rfl B.isinstance bt_isinstance (da_cons (de_var 0 (pv 0)) (da_cons (de_ty rfl B.bool bt_bool) da_nil)))) (dw_or1 (dt_ne hr.units (de_callB (CallR.or call_isi (CallR.or call_isiT call_isiK)) calld_isi rfl B.isinstance bt_isinstance (da_cons (de_var 1 (pv 1)) (da_cons (de_ty rfl B.int bt_int) da_nil))) (de_callB (CallR.or call_isi (CallR.or call_isiT call_isiK)) calld_isi rfl B.isinstance bt_isinstance (da_cons (de_var 0 (pv 0)) (da_cons (de_ty rfl B.int bt_int) da_nil))))))) (dss_one (ds_ret de_bl)) dss_nil)
  (dss_one (ds_ret (de_and (de_eq hr.units (de_callB (CallR.or call_isi (CallR.or call_isiT call_isiK)) calld_isi rfl B.isinstance bt_isinstance (da_cons (de_var 1 (pv 1)) (da_cons (de_ty rfl B.str bt_str) da_nil))) (de_callB (CallR.or call_isi (CallR.or call_isiT call_isiK)) calld_isi rfl B.isinstance bt_isinstance (da_cons (de_var 0 (pv 0)) (da_cons (de_ty rfl B.str bt_str) da_nil)))) (de_one (de_eq hr.units (de_var 0 (pv 0)) (de_var 1 (pv 1))))))))))) (fun ds S P E hS h => ?_)
  · unfold sp_same at h
    split at h
    · rfl
    · exact h.elim
  · unfold sp_same at h
    split at h
    · rename_i x y
      obtain ⟨hx, hy, hd, h⟩ := h
      cases y with
      | lst b =>
        cases x with
        | lst a =>
          walk_at "dl"
          simp only [decide_true, decide_false, Bool.not_true, Bool.not_false, Bool.false_eq_true, if_false, Bool.or_false, Bool.or_true, if_true]
          refine ⟨by decide, ?_⟩
          by_cases hl : a.length = b.length
          · rw [if_pos (decide_eq_true (by omega))]
            refine ⟨True.intro, lcW_mapG (fun p => .bl (smP p)) (zipD a b) [] (fun p hp Q hq => ?_) ?_ ?_⟩
            · obtain ⟨x, y, rfl, hx', hy'⟩ := zip_mem hp
              walk_at "dl"
              refine ⟨True.intro, True.intro, hz _ _ _ _ _ (deeps_mem (and_tt hx).2 hx') (deeps_mem (and_tt hy).2 hy') ?_ hq⟩
              have h9 : deps b + 1 ≤ m := hd
              have := deps_mem hy'
              omega
            · rw [List.length_nil, Nat.zero_add]
              exact zip_len (of_decide_eq_true (and_tt hx).1)
            · simp only [List.nil_append, bls_map, all_map_id]
              have e : DL.same (.lst a) (.lst b) = (zipD a b).all smP := by
                show sames a b = _
                rw [sames_zip, decide_eq_true hl]
                rfl
              rw [e] at h
              exact rt_same rfl h
          · rw [if_neg (by simp; omega)]
            have e : DL.same (.lst a) (.lst b) = false := by
              show sames a b = _
              rw [sames_zip, decide_eq_false hl]
              rfl
            rw [e] at h
            exact rt_same rfl h
        | _ =>
          first
          | (exfalso; exact Bool.false_ne_true hx)
          | (walk_at "dl"; refine ⟨by decide, ?_⟩; simp [isNonD]; exact rt_same rfl (by simpa [DL.same] using h))
      | tup b =>
        cases x with
        | tup a =>
          walk_at "dl"
          simp only [decide_true, decide_false, Bool.not_true, Bool.not_false, Bool.false_eq_true, if_false, Bool.or_false, Bool.or_true, if_true]
          refine ⟨by decide, ?_⟩
          by_cases hl : a.length = b.length
          · rw [if_pos (decide_eq_true (by omega))]
            refine ⟨True.intro, lcW_mapG (fun p => .bl (smP p)) (zipD a b) [] (fun p hp Q hq => ?_) ?_ ?_⟩
            · obtain ⟨x, y, rfl, hx', hy'⟩ := zip_mem hp
              walk_at "dl"
              refine ⟨True.intro, True.intro, hz _ _ _ _ _ (deeps_mem (and_tt hx).2 hx') (deeps_mem (and_tt hy).2 hy') ?_ hq⟩
              have h9 : deps b + 1 ≤ m := hd
              have := deps_mem hy'
              omega
            · rw [List.length_nil, Nat.zero_add]
              exact zip_len (of_decide_eq_true (and_tt hx).1)
            · simp only [List.nil_append, bls_map, all_map_id]
              have e : DL.same (.tup a) (.tup b) = (zipD a b).all smP := by
                show sames a b = _
                rw [sames_zip, decide_eq_true hl]
                rfl
              rw [e] at h
              exact rt_same rfl h
          · rw [if_neg (by simp; omega)]
            have e : DL.same (.tup a) (.tup b) = false := by
              show sames a b = _
              rw [sames_zip, decide_eq_false hl]
              rfl
            rw [e] at h
            exact rt_same rfl h
        | _ =>
          first
          | (exfalso; exact Bool.false_ne_true hx)
          | (walk_at "dl"; refine ⟨by decide, ?_⟩; simp [isNonD]; exact rt_same rfl (by simpa [DL.same] using h))
      | _ =>
        cases x
        all_goals first
          | (exfalso; exact Bool.false_ne_true hx)
          | (exfalso; exact Bool.false_ne_true hy)
          | skip
        all_goals (walk_at "dl")
        all_goals
          refine ⟨by decide, ?_⟩
          simp [isNonD]
          exact rt_same rfl (by simpa [DL.same] using h)
    · exact h.elim
theorem cal_same (B : Bn mg) (I : DefIn K mg "_law_same" "_law_same" s_law_same) : ∀ n : Nat, Cal P w K mg base CX0 (n + 1) "_law_same" ["_law_found", "_law_due"] (sp_same n)
  | 0 => cal_same1 B I (fun _ _ _ _ _ _ _ h _ => absurd h (Nat.not_lt_zero _)) (cal_no I (fun _ _ _ _ _ _ us hl => match us, hl with | [_, _], _ => rfl))
  | n + 1 => cal_same1 B I (fun _ _ _ _ _ h1 h2 h3 h4 => ⟨h1, h2, by omega, h4⟩) (cal_same B I n)
def sp_primes : DSp := fun ds S P _ => match ds with
  | [] => P (.lst primes) S
  | _ => False
theorem cal_primes (I : DefIn K mg "_law_primes" "_law_primes" s_law_primes) : Cal P w K mg base CX0 1 "_law_primes" [] sp_primes := by
  refine cal_def I sc_law_primes (fun _ _ _ _ _ _ us hl => match us, hl with | [], _ => rfl) (fun ds S P E h => ?_) (fun f cdv A outer s H E hr => (dss_one (ds_ret (de_lst (da_cons de_int (da_cons de_int (da_cons de_int (da_cons de_int (da_cons de_int (da_cons de_int (da_cons de_int (da_cons de_int (da_cons de_int (da_cons de_int (da_cons de_int (da_cons de_int (da_cons de_int (da_cons de_int (da_cons de_int (da_cons de_int (da_cons de_int (da_cons de_int (da_cons de_int (da_cons de_int (da_cons de_int (da_cons de_int (da_cons de_int (da_cons de_int (da_cons de_int da_nil))))))))))))))))))))))))))))) (fun ds S P E hS h => ?_)
  · unfold sp_primes at h
    split at h
    · rfl
    · exact h.elim
  · unfold sp_primes at h
    split at h
    · walk_at "dl"
      exact ⟨by decide, rt_same rfl h⟩
    · exact h.elim
end
end LW
set_option maxRecDepth 100000
set_option maxHeartbeats 4000000
namespace LW
open PySem PySem.Spec PyProof.Rows L2 DL
local macro_rules | `(tactic| walk_at "dl") => `(tactic| simp only [↓wC_ap, ↓wNil_ap, ↓wCons_ap, ↓wLst_ap, ↓wTup_ap, ↓wOp_ap, ↓wB_ap, ↓wUn_ap, ↓wCB_ap, ↓wCall_ap, ↓wCallK_ap, ↓wSl_ap, ↓wPart_ap, ↓wNoPart_ap, ↓wAndT_ap, ↓wOrT_ap, ↓wNotT_ap, ↓wAndV_ap, ↓wOrV_ap, ↓wIf_ap, ↓wTru_ap, ↓wLc_ap, ↓wiSeq_ap, ↓wiRng1_ap, ↓wiRng2_ap, ↓wiZip_ap, ↓wLstRg_ap, ↓wTYes_ap, ↓wsNext_ap, ↓wsSeq_ap, ↓wsRet_ap, ↓wsRetN_ap, ↓wsRetF_ap, ↓wsDrop_ap, ↓wsIf_ap, ↓wsAsg_ap, ↓wsSet_ap, ↓wsSetF_ap, ↓wsPar_ap, ↓wsStore_ap, ↓wsFor_ap, ↓wsBreak_ap, ↓wsCont_ap, ↓wgName_ap, ↓wgNil_ap, ↓wgCons_ap, ↓wgTup_ap, ↓wVar_0, ↓wVar_s, ↓addD, ↓subD, ↓mulD, ↓modD, ↓fdivD, ↓powD, ↓negD, ↓notD, ↓eqD, ↓scalD, ↓inD, ↓isD, ↓ixD, ↓cmpD, ↓leD, ↓geD, ↓gtD, ↓ltD, ↓ordD, ↓lenD, ↓absD, ↓DL.intOfD, ↓listD, ↓allD, ↓isiD, ↓sliceD, ↓truD_non, ↓truD_bl, ↓truD_int, ↓truD_str, ↓truD_lst, ↓truD_tup, List.map_cons, List.map_nil, List.length_cons, List.length_nil, List.replicate, List.cons_append, List.nil_append, List.set_cons_zero, List.set_cons_succ, List.append_nil, List.zip_cons_cons, List.zip_nil_right, List.foldl_cons, List.foldl_nil, Nat.zero_add, Nat.add_zero, Nat.reduceAdd, Nat.reduceSub, Nat.reduceMul, if_true, if_false, Bool.false_eq_true, ite_true, ite_false, v_non, v_bl, v_int, v_str, v_ty, v_cst, v_lst, v_tup, v_dct, v_obj, v_scr, startD_ap, wD_nil, wD_cons, wVar_0, wVar_s, ↓is_non_int, ↓is_bl_int, ↓is_int_int, ↓is_str_int, ↓is_lst_int, ↓is_tup_int, ↓is_dct_int, ↓is_non_bool, ↓is_bl_bool, ↓is_int_bool, ↓is_str_bool, ↓is_lst_bool, ↓is_tup_bool, ↓is_dct_bool, ↓is_non_str, ↓is_bl_str, ↓is_int_str, ↓is_str_str, ↓is_lst_str, ↓is_tup_str, ↓is_dct_str, ↓is_non_list, ↓is_bl_list, ↓is_int_list, ↓is_str_list, ↓is_lst_list, ↓is_tup_list, ↓is_dct_list, ↓is_non_tuple, ↓is_bl_tuple, ↓is_int_tuple, ↓is_str_tuple, ↓is_lst_tuple, ↓is_tup_tuple, ↓is_dct_tuple])
section
variable {P : Program} {w : World} {K : PySem.W.Frag} {mg : Str → Option Value} {base : Heap}
theorem ink_same : DL.same (.lst (things.map fun d => .bl (isInk d))) (.lst ((List.replicate 9 [D.bl false]).flatten ++ [D.bl true] ++ (rangeD 0 100).map fun d => .bl (isInk d))) = true := by decide +kernel
theorem edge_ok {a b : Int} {u : Str} (h : u = "across" ∨ u = "up") : isEdge (.tup [.int a, .int b, .str u]) = true := by rcases h with rfl | rfl <;> kernel_rfl
theorem bads_eq (a b : Int) (u : Str) : (bads a b u).map (fun d => D.lst [.bl (isPlace d), .bl (isEdge d)]) = List.replicate 13 (.lst [.bl false, .bl false]) := by kernel_rfl
theorem bads_ok (a b : Int) (u : Str) : (bads a b u).all okV = true := by kernel_rfl
theorem bads_len (a b : Int) (u : Str) : (bads a b u).all (fun d => decide (tupLen d ≤ 1000)) = true := by kernel_rfl
theorem place_len {a b : D} {l : List D} (h : D.tup [a, b] = .tup l) : l.length ≤ 1000 := by cases h; simp
theorem edge_len {a b c : D} {l : List D} (h : D.tup [a, b, c] = .tup l) : l.length ≤ 1000 := by cases h; simp
theorem sp_leads_of {a b : Int} {S : Sto} {P : DK} {E : Ex} (h : P (.bl (leads a b)) S) : sp_leads_on [.tup [.int a, .int b]] S P E := h
theorem law_hw (B : Bn mg) (c_is_ink : Cal P w K mg base CX0 2 "is_ink" ["value"] sp_is_ink) (c_is_place : Cal P w K mg base CX0 2 "is_place" ["value"] sp_is_place) (c_is_edge : Cal P w K mg base CX0 3 "is_edge" ["value"] sp_is_edge)
    (c_leads_on : Cal P w K mg base CX0 2 "leads_on" ["place"] sp_leads_on) (ck_is_place_value : CalK P w K mg base CX0 2 "is_place" ["value"] 0 ["value"] sp_is_place) (ck_is_edge_value : CalK P w K mg base CX0 3 "is_edge" ["value"] 0 ["value"] sp_is_edge) (ck_leads_on_place : CalK P w K mg base CX0 2 "leads_on" ["place"] 0 ["place"] sp_leads_on)
    (c_law_bag : CalFr P w K mg base CX0 1 "_law_bag" ["_law_script"] sp_bag) (c_law_any : Cal P w K mg base CX0 3 "_law_any" ["_law_bag_here"] sp_any) (c_law_of : Cal P w K mg base CX0 2 "_law_of" ["_law_bag_here", "_law_some"] sp_of) (c_law_same : Cal P w K mg base CX0 4 "_law_same" ["_law_found", "_law_due"] (sp_same 3)) (c_law_primes : Cal P w K mg base CX0 1 "_law_primes" [] sp_primes)
    {f : Addr} {fd : FuncData} (F : FunD K "law" "law" (defArgs s_law) (defBody s_law) (defScope s_law) [] [] f fd) : FnOk P w K mg base CX0 6 f fd ["_law_script"] (toSp K spLaw) := by
  obtain ⟨sp_bag', c_law_bag, h_bag⟩ := hideF c_law_bag
  obtain ⟨sp_any', c_law_any, h_any⟩ := hide c_law_any
  obtain ⟨sp_of', c_law_of, h_of⟩ := hide c_law_of
  obtain ⟨sp_same', c_law_same, h_same⟩ := hide c_law_same
  obtain ⟨sp_primes', c_law_primes, h_primes⟩ := hide c_law_primes
  obtain ⟨sp_ink', c_is_ink, h_ink⟩ := hide c_is_ink
  obtain ⟨sp_place', c_is_place, h_place⟩ := hide c_is_place
  obtain ⟨sp_edge', c_is_edge, h_edge⟩ := hide c_is_edge
  obtain ⟨sp_leads', c_leads_on, h_leads⟩ := hide c_leads_on
  obtain ⟨sp_placeK', ck_is_place_value, h_placeK⟩ := hideK ck_is_place_value
  obtain ⟨sp_edgeK', ck_is_edge_value, h_edgeK⟩ := hideK ck_is_edge_value
  obtain ⟨sp_leadsK', ck_leads_on_place, h_leadsK⟩ := hideK ck_leads_on_place
  refine ok_def F sc_law (fun ds S P E h => ?_) (fun cdv A outer s H E hr => (dss_cons (ds_setF (i := 1) sc_law.nd rfl (by first | exact .inl rfl | exact .inr rfl) (df_cal c_law_bag hr pass00 (da_cons (de_var 0 (pv 0)) da_nil)))
  (dss_cons (ds_set (i := 2) sc_law.nd rfl (by first | exact .inl rfl | exact .inr rfl) (de_op op_addA opd_add (de_lst (da_cons de_non (da_cons de_bl (da_cons de_str (da_cons (de_lst (da_cons de_int da_nil)) (da_cons (de_tup (da_cons de_int da_nil)) (da_cons (de_neg de_int) (da_cons de_int (da_cons de_int (da_cons (de_op op_pow opd_pow de_int de_int) (da_cons de_int da_nil))))))))))) (de_listRg1 B.list B.range de_int)))
  (dss_cons (ds_if (dt_not (dt_tru (de_cal c_law_same hr pass00 (da_cons (de_lc (own := [("_law_thing", 3)]) rfl sc_law.nd (di_list (de_var 2 (pv 2))) (blkOk_by (N := N_law) (sc := defScope s_law) (by decide +kernel)) (fun _ _ _ _ _ => (dg_name (pg_name (i := 3) sc_law.nd rfl (by first | exact .inl rfl | exact .inr rfl)))) (fun _ _ _ _ _ => dts_nil) (fun _ _ _ _ _ => (de_cal c_is_ink hr pass00 (da_cons (de_var 3 (pv 3)) da_nil)))) (da_cons (de_op op_addA opd_add (de_op op_addA opd_add (de_op op_mulA opd_mul (de_lst (da_cons de_bl da_nil)) de_int) (de_lst (da_cons de_bl da_nil))) (de_lc (own := [("_law_k", 4)]) rfl sc_law.nd (di_range1 rfl B.range (da_cons de_int da_nil)) (blkOk_by (N := N_law) (sc := defScope s_law) (by decide +kernel)) (fun _ _ _ _ _ => (dg_name (pg_name (i := 4) sc_law.nd rfl (by first | exact .inl rfl | exact .inr rfl)))) (fun _ _ _ _ _ => dts_nil) (fun _ _ _ _ _ => (de_or (de_eq hr.units (de_var 4 (pv 4)) de_int) (de_one (de_cmp op_in_seq opd_in (de_var 4 (pv 4)) (de_cal0 c_law_primes hr pass00))))))) da_nil))))) (dss_one (ds_ret de_bl)) dss_nil)
  (dss_cons (ds_for (passes_of rfl) rfl (di_range1 rfl B.range (da_cons de_int da_nil)) (dg_name (pg_name (i := 5) sc_law.nd rfl (by first | exact .inl rfl | exact .inr rfl)))
  (dss_cons (ds_par3 (i := 6) (j := 7) (l := 8) rfl sc_law.nd rfl rfl rfl (by decide) (by decide) (by decide) rfl rfl rfl (da_cons (de_cal c_law_any hr pass00 (da_cons (de_var 1 (pv 1)) da_nil)) (da_cons (de_cal c_law_any hr pass00 (da_cons (de_var 1 (pv 1)) da_nil)) (da_cons (de_cal c_law_of hr pass00 (da_cons (de_var 1 (pv 1)) (da_cons (de_lst (da_cons de_str (da_cons de_str da_nil))) da_nil))) da_nil))))
  (dss_cons (ds_set (i := 9) sc_law.nd rfl (by first | exact .inl rfl | exact .inr rfl) (de_lst (da_cons (de_cal c_is_place hr pass00 (da_cons (de_tup (da_cons (de_var 6 (pv 6)) (da_cons (de_var 7 (pv 7)) da_nil))) da_nil)) (da_cons (de_cal c_is_edge hr pass00 (da_cons (de_tup (da_cons (de_var 6 (pv 6)) (da_cons (de_var 7 (pv 7)) (da_cons (de_var 8 (pv 8)) da_nil)))) da_nil)) (da_cons (de_calK0 ck_is_place_value hr pass00 (dk_cons (de_tup (da_cons (de_var 7 (pv 7)) (da_cons (de_var 6 (pv 6)) da_nil))) dk_nil)) (da_cons (de_calK0 ck_is_edge_value hr pass00 (dk_cons (de_tup (da_cons (de_var 7 (pv 7)) (da_cons (de_var 6 (pv 6)) (da_cons (de_var 8 (pv 8)) da_nil)))) dk_nil)) da_nil))))))
  (dss_cons (ds_set (i := 10) sc_law.nd rfl (by first | exact .inl rfl | exact .inr rfl) (de_lst (da_cons (de_lst (da_cons (de_var 6 (pv 6)) (da_cons (de_var 7 (pv 7)) da_nil))) (da_cons (de_tup (da_cons (de_var 6 (pv 6)) da_nil)) (da_cons (de_tup (da_cons (de_var 6 (pv 6)) (da_cons (de_var 7 (pv 7)) (da_cons (de_var 6 (pv 6)) da_nil)))) (da_cons (de_tup (da_cons (de_var 6 (pv 6)) (da_cons de_bl da_nil))) (da_cons (de_tup (da_cons de_non (da_cons (de_var 7 (pv 7)) da_nil))) (da_cons (de_tup (da_cons de_str (da_cons (de_var 7 (pv 7)) da_nil))) (da_cons (de_tup (da_cons (de_var 6 (pv 6)) (da_cons (de_var 7 (pv 7)) (da_cons de_str da_nil)))) (da_cons (de_tup (da_cons (de_var 6 (pv 6)) (da_cons (de_var 7 (pv 7)) (da_cons de_str da_nil)))) (da_cons (de_tup (da_cons (de_var 6 (pv 6)) (da_cons (de_var 7 (pv 7)) (da_cons (de_lst (da_cons de_str da_nil)) da_nil)))) (da_cons (de_tup (da_cons (de_var 6 (pv 6)) (da_cons (de_var 7 (pv 7)) (da_cons de_non da_nil)))) (da_cons (de_lst (da_cons (de_var 6 (pv 6)) (da_cons (de_var 7 (pv 7)) (da_cons (de_var 8 (pv 8)) da_nil)))) (da_cons (de_tup (da_cons (de_var 6 (pv 6)) (da_cons de_bl (da_cons (de_var 8 (pv 8)) da_nil)))) (da_cons (de_var 6 (pv 6)) da_nil)))))))))))))))
  (dss_cons (ds_if (dt_not (dt_tru (de_cal c_law_same hr pass00 (da_cons (de_var 9 (pv 9)) (da_cons (de_op op_mulA opd_mul (de_lst (da_cons de_bl da_nil)) de_int) da_nil))))) (dss_one (ds_ret de_bl)) dss_nil)
  (dss_cons (ds_setLc (i := 11) (own := [("_law_thing", 3)]) rfl sc_law.nd rfl rfl (sw_true rfl rfl rfl (by decide +kernel)) (di_list (de_var 10 (pv 10))) (blkOk_by (N := N_law) (sc := defScope s_law) (by decide +kernel)) (fun _ _ _ _ _ => (dg_name (pg_name (i := 3) sc_law.nd rfl (by first | exact .inl rfl | exact .inr rfl)))) (fun _ _ _ _ _ => dts_nil) (fun _ _ _ _ _ => (de_lst (da_cons (de_cal c_is_place hr pass00 (da_cons (de_var 3 (pv 3)) da_nil)) (da_cons (de_cal c_is_edge hr pass00 (da_cons (de_var 3 (pv 3)) da_nil)) da_nil)))))
  (dss_cons (ds_if (dt_not (dt_tru (de_cal c_law_same hr pass00 (da_cons (de_var 11 (pv 11)) (da_cons (de_op op_mulA opd_mul (de_lst (da_cons (de_lst (da_cons de_bl (da_cons de_bl da_nil))) da_nil)) (de_callB call_len calld_len rfl B.len bt_len (da_cons (de_var 10 (pv 10)) da_nil))) da_nil))))) (dss_one (ds_ret de_bl)) dss_nil)
  (dss_one (ds_if (dt_not (dt_tru (de_cal c_law_same hr pass00 (da_cons (de_lst (da_cons (de_cal c_leads_on hr pass00 (da_cons (de_tup (da_cons (de_var 6 (pv 6)) (da_cons (de_var 7 (pv 7)) da_nil))) da_nil)) (da_cons (de_calK0 ck_leads_on_place hr pass00 (dk_cons (de_tup (da_cons (de_var 6 (pv 6)) (da_cons (de_var 7 (pv 7)) da_nil))) dk_nil)) da_nil))) (da_cons (de_op op_mulA opd_mul (de_lst (da_cons (de_or (de_cmp op_gt opd_gt (de_var 6 (pv 6)) de_int) (de_one (de_and (de_eq hr.units (de_var 6 (pv 6)) de_int) (de_one (de_cmp op_gt opd_gt (de_var 7 (pv 7)) de_int))))) da_nil)) de_int) da_nil))))) (dss_one (ds_ret de_bl)) dss_nil)))))))))
  (dss_one (ds_ret (de_cal c_law_same hr pass00 (da_cons (de_lst (da_cons (de_cal c_leads_on hr pass00 (da_cons (de_tup (da_cons de_int (da_cons de_int da_nil))) da_nil)) (da_cons (de_cal c_leads_on hr pass00 (da_cons (de_tup (da_cons de_int (da_cons de_int da_nil))) da_nil)) (da_cons (de_cal c_leads_on hr pass00 (da_cons (de_tup (da_cons de_int (da_cons (de_neg de_int) da_nil))) da_nil)) (da_cons (de_cal c_leads_on hr pass00 (da_cons (de_tup (da_cons (de_neg de_int) (da_cons de_int da_nil))) da_nil)) da_nil))))) (da_cons (de_lst (da_cons de_bl (da_cons de_bl (da_cons de_bl (da_cons de_bl da_nil))))) da_nil)))))))))) (fun ds S P E hS h => ?_)
  · unfold spLaw at h
    split at h
    · rfl
    · exact h.elim
  · unfold spLaw at h
    split at h
    · rename_i ns
      obtain ⟨hl, rfl, h⟩ := h
      rw [startD_ap]
      refine ws_join (fun ρ' S' => ρ' = some (.scr ns) :: some (.loc 0) :: List.replicate (N_law.length - 2) none ∧ ∃ b, S' = [.lst b] ∧ BagOk b) (fun nx hn => ?_) ?_
      · walk_at "dl"
        exact h_bag _ _ _ _ ⟨hl, fun b hb => hn _ _ ⟨rfl, b, rfl, hb⟩⟩
      rintro _ _ ⟨rfl, b, rfl, hb⟩
      refine ws_join (fun ρ' S' => S' = [.lst b] ∧ ρ' = some (.scr ns) :: some (.loc 0) :: some (.lst things) :: List.replicate (N_law.length - 3) none) (fun nx hn => ?_) ?_
      · walk_at "dl"
        exact ⟨by decide, by decide, by decide, by decide, by decide, by decide, hn _ _ ⟨rfl, rfl⟩⟩
      rintro _ _ ⟨rfl, rfl⟩
      refine ws_join (fun ρ' S' => S' = [.lst b] ∧ ρ' = some (.scr ns) :: some (.loc 0) :: some (.lst things) :: List.replicate (N_law.length - 3) none) (fun nx hn => ?_) ?_
      · walk_at "dl"
        refine ⟨True.intro, lcW_map (fun d => .bl (isInk d)) things [] (fun x hx Q hq => ?_) (by decide) ?_⟩
        · walk_at "dl"
          exact h_ink _ _ _ _ ⟨List.all_eq_true.mp (show things.all plainD = true by decide) x hx, hq⟩
        simp only [List.nil_append]
        refine ⟨by decide, by decide, by decide, by decide, by decide, True.intro, lcW_map (fun d => .bl (isInk d)) (rangeD 0 100) [] (fun x hx Q hq => ?_) (by decide) ?_⟩
        · obtain ⟨k, _, rfl⟩ := List.mem_map.mp hx
          walk_at "dl"
          simp only [toV, scalD]
          by_cases hk : (0 : Int) + (k : Int) = 0
          · rw [if_pos (decide_eq_true hk)]
            simp only [isInk, if_pos hk] at hq
            exact hq
          · rw [if_neg (by simpa using hk)]
            simp only [isInk, if_neg hk] at hq
            exact h_primes _ _ _ _ hq
        · have e := ink_same
          exact ⟨by decide, h_same _ _ _ _ <| sp_same_of (by decide +kernel) (by decide +kernel) (by decide +kernel) e (hn _ _ ⟨rfl, rfl⟩)⟩
      rintro _ _ ⟨rfl, rfl⟩
      refine ws_join (fun ρ' S' => (∃ b, S' = [.lst b]) ∧ ∃ o, ρ' = some (.scr ns) :: some (.loc 0) :: o) (fun nx hn => ?_) ?_
      · walk_at "dl"
        refine ⟨by decide, for_inv (fun xs ρ S' => (∃ b, S' = [.lst b] ∧ BagOk b) ∧ ∃ o3 o4 o5 o6 o7 o8 o9 o10 o11, ρ = [some (.scr ns), some (.loc 0), some (.lst things), o3, o4, o5, o6, o7, o8, o9, o10, o11]) ?_ ?_ _ _ _ ⟨⟨b, rfl, hb⟩, _, _, _, _, _, _, _, _, _, rfl⟩⟩
        · rintro x xs ρ S' ⟨⟨b, rfl, hb⟩, o3, o4, o5, o6, o7, o8, o9, o10, o11, rfl⟩ nx hn
          rw [wgName_ap]
          refine ws_join (fun ρ' S' => (∃ b, S' = [.lst b] ∧ BagOk b) ∧ ∃ z1 z2 : Int, ∃ u : Str, (u = "across" ∨ u = "up") ∧ ρ' = [some (.scr ns), some (.loc 0), some (.lst things), o3, o4, some x, some (.int z1), some (.int z2), some (.str u), o9, o10, o11]) (fun nx hn => ?_) ?_
          · walk_at "dl"
            refine h_any _ _ _ _ ⟨b, rfl, hb, fun z1 b1 _ _ hb1 => ?_⟩
            walk_at "dl"
            refine h_any _ _ _ _ ⟨b1, rfl, hb1, fun z2 b2 _ _ hb2 => ?_⟩
            walk_at "dl"
            refine ⟨by decide, h_of _ _ _ _ ⟨b2, rfl, hb2, by simp, by simp, fun y b3 hy hb3 => ?_⟩⟩
            obtain ⟨u, hu, rfl⟩ : ∃ u : Str, (u = "across" ∨ u = "up") ∧ y = .str u := by
              rcases List.mem_cons.mp hy with e | hy
              · exact ⟨_, .inl rfl, e⟩
              rcases List.mem_cons.mp hy with e | hy
              · exact ⟨_, .inr rfl, e⟩
              cases hy
            walk_at "dl"
            exact ⟨True.intro, hn _ _ ⟨⟨b3, rfl, hb3⟩, z1, z2, u, hu, rfl⟩⟩
          rintro _ _ ⟨⟨b, rfl, hb⟩, z1, z2, u, hu, rfl⟩
          refine ws_join (fun ρ' S' => S' = [.lst b] ∧ ρ' = [some (.scr ns), some (.loc 0), some (.lst things), o3, o4, some x, some (.int z1), some (.int z2), some (.str u), some (.lst [.bl true, .bl true, .bl true, .bl true]), o10, o11]) (fun nx hn => ?_) ?_
          · have e1 := edge_ok (a := z1) (b := z2) hu
            have e2 := edge_ok (a := z2) (b := z1) hu
            walk_at "dl"
            refine ⟨by decide, h_place _ _ _ _ ⟨rfl, (fun l hl => by first | exact place_len hl | exact edge_len hl), ?_⟩⟩
            walk_at "dl"
            refine ⟨by decide, h_edge _ _ _ _ ⟨rfl, (fun l hl => by first | exact place_len hl | exact edge_len hl), ?_⟩⟩
            walk_at "dl"
            refine ⟨by decide, True.intro, True.intro, h_placeK _ _ _ _ ⟨rfl, (fun l hl => by first | exact place_len hl | exact edge_len hl), ?_⟩⟩
            walk_at "dl"
            refine ⟨by decide, True.intro, True.intro, h_edgeK _ _ _ _ ⟨rfl, (fun l hl => by first | exact place_len hl | exact edge_len hl), ?_⟩⟩
            walk_at "dl"
            rw [e1, e2]
            exact ⟨by decide, hn _ _ ⟨rfl, rfl⟩⟩
          rintro _ _ ⟨rfl, rfl⟩
          refine ws_join (fun ρ' S' => S' = [.lst b] ∧ ρ' = [some (.scr ns), some (.loc 0), some (.lst things), o3, o4, some x, some (.int z1), some (.int z2), some (.str u), some (.lst [.bl true, .bl true, .bl true, .bl true]), some (.lst (bads z1 z2 u)), o11]) (fun nx hn => ?_) ?_
          · walk_at "dl"
            simp only [Nat.reduceLeDiff, true_and]
            exact hn _ _ ⟨rfl, rfl⟩
          rintro _ _ ⟨rfl, rfl⟩
          refine ws_join (fun ρ' S' => S' = [.lst b] ∧ ρ' = [some (.scr ns), some (.loc 0), some (.lst things), o3, o4, some x, some (.int z1), some (.int z2), some (.str u), some (.lst [.bl true, .bl true, .bl true, .bl true]), some (.lst (bads z1 z2 u)), o11]) (fun nx hn => ?_) ?_
          · walk_at "dl"
            exact ⟨by decide, by decide, h_same _ _ _ _ <| sp_same_rf rfl (by decide) (by decide) (hn _ _ ⟨rfl, rfl⟩)⟩
          rintro _ _ ⟨rfl, rfl⟩
          have eb := bads_eq z1 z2 u
          have ok := bads_ok z1 z2 u
          have lk := bads_len z1 z2 u
          have ln : (bads z1 z2 u).length = 13 := rfl
          refine ws_join (fun ρ' S' => S' = [.lst b] ∧ ρ' = [some (.scr ns), some (.loc 0), some (.lst things), o3, o4, some x, some (.int z1), some (.int z2), some (.str u), some (.lst [.bl true, .bl true, .bl true, .bl true]), some (.lst (bads z1 z2 u)), some (.lst (List.replicate 13 (.lst [.bl false, .bl false])))]) (fun nx hn => ?_) ?_
          · walk_at "dl"
            refine ⟨True.intro, lcW_map (fun d => D.lst [.bl (isPlace d), .bl (isEdge d)]) (bads z1 z2 u) [] (fun x hx Q hq => ?_) (by rw [ln]; decide) ?_⟩
            · have h1 := List.all_eq_true.mp ok x hx
              have h2 := of_decide_eq_true (List.all_eq_true.mp lk x hx)
              walk_at "dl"
              refine h_place _ _ _ _ ⟨h1, (fun l hl => by subst hl; exact h2), ?_⟩
              walk_at "dl"
              refine h_edge _ _ _ _ ⟨h1, (fun l hl => by subst hl; exact h2), ?_⟩
              walk_at "dl"
              exact ⟨by decide, hq⟩
            · rw [eb]
              exact hn _ _ ⟨rfl, rfl⟩
          rintro _ _ ⟨rfl, rfl⟩
          refine ws_join (fun ρ' S' => S' = [.lst b] ∧ ρ' = [some (.scr ns), some (.loc 0), some (.lst things), o3, o4, some x, some (.int z1), some (.int z2), some (.str u), some (.lst [.bl true, .bl true, .bl true, .bl true]), some (.lst (bads z1 z2 u)), some (.lst (List.replicate 13 (.lst [.bl false, .bl false])))]) (fun nx hn => ?_) ?_
          · walk_at "dl"
            rw [ln]
            exact ⟨by decide, by decide, by decide, h_same _ _ _ _ <| sp_same_rf rfl (by decide) (by decide) (hn _ _ ⟨rfl, rfl⟩)⟩
          rintro _ _ ⟨rfl, rfl⟩
          walk_at "dl"
          refine ⟨by decide, h_leads _ _ _ _ (sp_leads_of ⟨by decide, True.intro, True.intro, h_leadsK _ _ _ _ (sp_leads_of ⟨by decide, ?_⟩)⟩)⟩
          by_cases q : 0 < z1
          · rw [if_pos (decide_eq_true q)]
            have e : leads z1 z2 = true := by unfold leads; split <;> simp <;> omega
            exact ⟨by decide, by decide, h_same _ _ _ _ (sp_same_rf (by rw [e]; rfl) (by decide) (by decide) (hn _ _ ⟨⟨b, rfl, hb⟩, _, _, _, _, _, _, _, _, _, rfl⟩))⟩
          · rw [if_neg (by simpa using q)]
            by_cases q0 : z1 = 0
            · rw [if_pos (decide_eq_true q0)]
              have e : leads z1 z2 = decide (0 < z2) := by unfold leads; rw [if_pos q0]
              exact ⟨by decide, by decide, h_same _ _ _ _ (sp_same_rf (by rw [e]; rfl) rfl (Nat.le_of_ble_eq_true rfl) (hn _ _ ⟨⟨b, rfl, hb⟩, _, _, _, _, _, _, _, _, _, rfl⟩))⟩
            · rw [if_neg (by simpa using q0)]
              have e : leads z1 z2 = false := by unfold leads; rw [if_neg q0]; exact decide_eq_false q
              exact ⟨by decide, by decide, h_same _ _ _ _ (sp_same_rf (by rw [e]; rfl) (by decide) (by decide) (hn _ _ ⟨⟨b, rfl, hb⟩, _, _, _, _, _, _, _, _, _, rfl⟩))⟩
        · rintro ρ S' ⟨⟨b, rfl, hb⟩, o3, o4, o5, o6, o7, o8, o9, o10, o11, rfl⟩
          exact hn _ _ ⟨⟨b, rfl⟩, _, rfl⟩
      rintro _ _ ⟨⟨b, rfl⟩, o, rfl⟩
      walk_at "dl"
      exact ⟨by decide, h_leads _ _ _ _ (sp_leads_of ⟨by decide, h_leads _ _ _ _ (sp_leads_of ⟨by decide, h_leads _ _ _ _ (sp_leads_of ⟨by decide, h_leads _ _ _ _ (sp_leads_of ⟨by decide, by decide, h_same _ _ _ _ (sp_same_rf (show D.lst [D.bl (leads 0 0), D.bl (leads 0 1), D.bl (leads 1 (-9)), D.bl (leads (-1) 9)] = D.lst [D.bl false, D.bl true, D.bl true, D.bl false] from rfl) (by decide) (by decide) (rt0 h))⟩)⟩)⟩)⟩)⟩
    · exact h.elim
end
end LW
set_option maxRecDepth 100000
set_option maxHeartbeats 4000000
namespace LW
open PySem PySem.Spec PyProof.Rows L2 DL
def loose : List PySem.Str := (["__name__", "WAYS", "PRIMES", "is_number", "is_ink", "is_place", "is_way", "is_edge", "key_of", "leads_on", "_law_bag", "_law_pull", "_law_of", "_law_same", "_law_primes", "_law_near"] : List PySem.Str) ++ (["_law_any"] : List PySem.Str)
abbrev R0 : PySem.W.OpenRow := PySem.W.OpenLaw.row PySem.Challenge.rw_inkfractions_k01_inks_places_edges
abbrev hk : PySem.W.Hook := He.hookX 4 fa fn [] [] ex
def ob (s : PySem.W.SharedT) : He.AlX := He.obsX 4 fa fn [] [] ex (HandSHeadRun.getT s)
theorem ob_eq (s : PySem.W.SharedT) : ob s = hk.obs s.abs := He.obsX_eq (HandSHeadRun.getT_eq s)
set_option maxHeartbeats 0 in
theorem run (w : World) : HandSHeadRun.RunEq R0 (PySem.W.view R0.prog [18]) hk ob 20000 loose w := by
  intro os
  kernel_rfl
theorem facts {P : Program} {w : World} {K : PySem.W.Frag} {h : Heap} {mg : Str → Option Value} {f : Addr} (X : K.In h) (G : h.Ns mainGlobals mg) (hfa : mg ("law" : Str) = some (.ref f)) (c : He.SaysX fa fn [] [] ex w h K) :
    ∃ fd : FuncData, (∀ (s : Shared) (v : Value), BindsTo s fd ⟨[v], []⟩ [("_law_script", v)]) ∧ ∀ base : Heap, FnOk P w K mg base CX0 6 f fd ["_law_script"] (toSp K spLaw) := by
  have I_is_number : DefIn K mg "is_number" "is_number" s_is_number := defIn_of (c.t.d.def_ 0 rfl) (He.glo_ok X G (c.t.d.fact 2 rfl))
  have I_is_ink : DefIn K mg "is_ink" "is_ink" s_is_ink := defIn_of (c.t.d.def_ 1 rfl) (He.glo_ok X G (c.t.d.fact 3 rfl))
  have I_is_place : DefIn K mg "is_place" "is_place" s_is_place := defIn_of (c.t.d.def_ 2 rfl) (He.glo_ok X G (c.t.d.fact 4 rfl))
  have I_is_way : DefIn K mg "is_way" "is_way" s_is_way := defIn_of (c.t.d.def_ 3 rfl) (He.glo_ok X G (c.t.d.fact 5 rfl))
  have I_is_edge : DefIn K mg "is_edge" "is_edge" s_is_edge := defIn_of (c.t.d.def_ 4 rfl) (He.glo_ok X G (c.t.d.fact 6 rfl))
  have I_key_of : DefIn K mg "key_of" "key_of" s_key_of := defIn_of (c.t.d.def_ 5 rfl) (He.glo_ok X G (c.t.d.fact 7 rfl))
  have I_leads_on : DefIn K mg "leads_on" "leads_on" s_leads_on := defIn_of (c.t.d.def_ 6 rfl) (He.glo_ok X G (c.t.d.fact 8 rfl))
  have I_law_bag : DefIn K mg "_law_bag" "_law_bag" s_law_bag := defIn_of (c.t.d.def_ 7 rfl) (He.glo_ok X G (c.t.d.fact 9 rfl))
  have I_law_pull : DefIn K mg "_law_pull" "_law_pull" s_law_pull := defIn_of (c.t.d.def_ 8 rfl) (He.glo_ok X G (c.t.d.fact 10 rfl))
  have I_law_of : DefIn K mg "_law_of" "_law_of" s_law_of := defIn_of (c.t.d.def_ 9 rfl) (He.glo_ok X G (c.t.d.fact 11 rfl))
  have I_law_same : DefIn K mg "_law_same" "_law_same" s_law_same := defIn_of (c.t.d.def_ 10 rfl) (He.glo_ok X G (c.t.d.fact 12 rfl))
  have I_law_primes : DefIn K mg "_law_primes" "_law_primes" s_law_primes := defIn_of (c.t.d.def_ 11 rfl) (He.glo_ok X G (c.t.d.fact 13 rfl))
  have I_law_near : DefIn K mg "_law_near" "_law_near" s_law_near := defIn_of (c.t.d.def_ 12 rfl) (He.glo_ok X G (c.t.d.fact 14 rfl))
  have I_law_any : DefIn K mg "_law_any" "_law_any" s_law_any := defIn_of (c.t.d.def_ 13 rfl) (He.glo_ok X G (c.t.d.fact 15 rfl))
  have I_law : DefIn K mg "law" "law" s_law := defIn_of (c.t.d.def_ 14 rfl) (He.glo_ok X G (c.t.d.fact 16 rfl))
  have B : Bn mg := ⟨He.free_ok X G (c.t.d.fact 17 rfl), He.free_ok X G (c.t.d.fact 18 rfl), He.free_ok X G (c.t.d.fact 19 rfl), He.free_ok X G (c.t.d.fact 20 rfl), He.free_ok X G (c.t.d.fact 21 rfl), He.free_ok X G (c.t.d.fact 22 rfl), He.free_ok X G (c.t.d.fact 23 rfl), He.free_ok X G (c.t.d.fact 24 rfl), He.free_ok X G (c.t.d.fact 25 rfl), He.free_ok X G (c.t.d.fact 26 rfl), He.free_ok X G (c.t.d.fact 27 rfl), He.free_ok X G (c.t.d.fact 28 rfl), He.free_ok X G (c.t.d.fact 29 rfl), He.free_ok X G (c.t.d.fact 30 rfl), He.free_ok X G (c.t.d.fact 31 rfl), He.free_ok X G (c.t.d.fact 32 rfl), He.free_ok X G (c.t.d.fact 33 rfl), He.free_ok X G (c.t.d.fact 34 rfl), He.free_ok X G (c.t.d.fact 35 rfl), He.free_ok X G (c.t.d.fact 36 rfl), He.free_ok X G (c.t.d.fact 37 rfl)⟩
  have g_WAYS : GTup K mg "WAYS" [.str "across", .str "up"] := gtup_of (He.ba c.more).1 (He.glo_ok X G (c.t.d.fact 0 rfl)) rfl
  have g_PRIMES : GTup K mg "PRIMES" [.int 2, .int 3, .int 5, .int 7, .int 11, .int 13, .int 17, .int 19, .int 23, .int 29, .int 31, .int 37, .int 41, .int 43, .int 47, .int 53, .int 59, .int 61, .int 67, .int 71, .int 73, .int 79, .int 83, .int 89, .int 97] := gtup_of (He.ba c.more).2 (He.glo_ok X G (c.t.d.fact 1 rfl)) rfl
  obtain ⟨f', fd, F, e⟩ := I_law
  cases hfa.symm.trans e
  have b := FunD.bindsA (ps := ["_law_script"]) F fun _ _ _ _ _ _ us hl => match us, hl with | [_], _ => rfl
  refine ⟨fd, fun s v => b s [v] rfl, fun base => ?_⟩
  have c_is_number := cal_is_number (P := P) (w := w) (base := base) B I_is_number
  have c_is_place := cal_is_place B I_is_place c_is_number
  have c_is_way := cal_is_way (P := P) (w := w) (base := base) B I_is_way g_WAYS
  have c_is_edge := cal_is_edge B I_is_edge c_is_place c_is_way
  have c_leads_on := cal_leads_on I_leads_on (cal_key_of (P := P) (w := w) (base := base) I_key_of)
  have c_pull := cal_pull (P := P) (w := w) (base := base) B I_law_pull
  have c_of := cal_of B I_law_of c_pull
  exact law_hw B (cal_is_ink B I_is_ink c_is_number g_PRIMES) c_is_place c_is_edge c_leads_on
    (calk_def (N := []) c_is_place I_is_place (fun _ _ _ _ _ _ us ws h1 h2 => match us, ws, h1, h2 with | [], [_], _, _ => rfl)) (calk_def (N := []) c_is_edge I_is_edge (fun _ _ _ _ _ _ us ws h1 h2 => match us, ws, h1, h2 with | [], [_], _, _ => rfl)) (calk_def (N := []) c_leads_on I_leads_on (fun _ _ _ _ _ _ us ws h1 h2 => match us, ws, h1, h2 with | [], [_], _, _ => rfl))
    (cal_bag B I_law_bag) (cal_any B I_law_any (cal_near B I_law_near c_pull) c_of) c_of (cal_same B I_law_same 3) (cal_primes I_law_primes) F
end LW
open PySem PySem.W PySem.Calls PyProof.Rows
theorem PySem.Challenge.cw_inkfractions_k01_inks_places_edges_holds : PySem.Challenge.rw_inkfractions_k01_inks_places_edges.Holds := by
  w_on; o_law
  refine HandSHeadRun.head_any (r := OpenLaw.row PySem.Challenge.rw_inkfractions_k01_inks_places_edges) (q := view (OpenLaw.row PySem.Challenge.rw_inkfractions_k01_inks_places_edges).prog [18]) (H := LW.hk) (ob := LW.ob) (M := 20000) (loose := LW.loose) (d := HandSHeadRun.topDef (OpenLaw.row PySem.Challenge.rw_inkfractions_k01_inks_places_edges).prog 18) (kwd := []) LW.ob_eq
    (by kernel_rfl) (fun s => by kernel_rfl) LW.run (by kernel_rfl) (by kernel_rfl) (by kernel_rfl) (by rfl) (by first | assumption | decide +kernel) (by decide +kernel) ⟨rfl, rfl, rfl, rfl, rfl, by decide +kernel⟩ ?hw ?hc
  case hw => w_witness2
  case hc =>
    refine L2.walk_ofE (l := PySem.Challenge.rw_inkfractions_k01_inks_places_edges) (n := 63) (k := 6) (x := "_law_script") (CX := L2.CX0) rfl (by decide) (by kernel_rfl) ⟨rfl, by decide, by decide⟩ ?F (fun _ _ _ _ z => z)
    intro w mg fa h Y G hmg0
    obtain ⟨K, KX, c⟩ := Y
    have hmg : mg ("law" : PySem.Str) = some (.ref fa) := by
      have e : (HandSHeadRun.topDef (OpenLaw.row PySem.Challenge.rw_inkfractions_k01_inks_places_edges).prog 18).name = ("law" : PySem.Str) := by kernel_rfl
      rw [← e]
      exact hmg0
    obtain ⟨fd, hb, hF⟩ := LW.facts (P := (PySem.Challenge.rw_inkfractions_k01_inks_places_edges).prog) (w := w) KX G hmg c
    exact ⟨K, fd, DL.toSp K DL.spLaw, KX, hb, fun H a ns hl hO hS => DL.law_sp hl hO hS, fun base _ _ => hF base⟩
